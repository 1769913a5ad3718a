import PyProof.Rows.All
import Wide.All
import OpenK.AllK
import Wide.FinOn
import HandS.ForMost
import HandS.Codes
import HandS.FStr
import HandS.IsInst
import HandS.Star
import HandS.TupAny
import HandS.Style
import HandS.Walk
import KE.GoesEnum
import KE.GoesNew
import HandS.Property
import HandS.Defaults
import HandS.ClsMeth
import HandS.MakeKw
import KE.GoesZip
import HandS.OwnEq
import HandS.CallLocal
import KE.KCallOwn
import HandS.ExcInit
import HandS.Nested
import HandS.TryOnly
import KE.KExcSuper
import HandS.ExcOwn
import HandS.ExcIs
import HandS.ExcField
import HandS.ExcValue
import PyProof.ReprRoads
import PyProof.ReprLen
import PyProof.ReprText
import PySem.Challenge.RW_unseenflips_k01_errors_and_what_they_kee
set_option Elab.async false
set_option linter.all false
set_option maxRecDepth 100000
set_option maxHeartbeats 4000000
namespace Lx
open PySem PySem.Spec PyProof.Rows L2
def ItES (x : Str) : It := ⟨fun i _ => i < x.cps.size, fun i H v H' => ∃ T c, v = .ref T ∧ H T = none ∧ H' = upd H T (.tup [.int (i : Nat), .str ⟨#[c]⟩]) ∧ x.cps[i]? = some c, fun i _ => x.cps.size ≤ i⟩
theorem turn_enumS {P : Program} {w : World} {K : PySem.W.Frag} {elts : List Expr} {kk : Nat} {tpos : Pos} (x : Str) (t : Tok) (e it : Addr) :
    Turn P w K (.Tuple elts kk tpos) (ItES x) [e, it] e (fun i h => (∃ old, IsEnum h e it ((i : Nat) : Int) old) ∧ h.IsStrIter it (strIterType x) x t i ∧ e ≠ it ∧ i ≤ x.cps.size) where
  mem := by simp
  obj := fun i h st b hb => by
    obtain ⟨⟨old, he⟩, ⟨o, ho, hc, hd⟩, _⟩ := st
    have e' : b = e ∨ b = it := by simpa using hb
    rcases e' with z | z
    · rw [z]; exact ⟨_, he, fun v q => nomatch q⟩
    · rw [z]; exact ⟨o, ho, fun v q => by rw [hd] at q; cases q⟩
  keep := fun i h h' st k => by
    obtain ⟨⟨old, he⟩, ⟨o, ho, r⟩, hne⟩ := st
    exact ⟨⟨old, k e (by simp) _ he⟩, ⟨o, k it (by simp) o ho, r⟩, hne⟩
  item := by
    intro X hP hw hK hc i pins s σ H E I hf st hg
    subst hP hw hK
    obtain ⟨⟨old, he⟩, hit, hne, _⟩ := st
    have hlt : i < x.cps.size := hg
    have hel : e < s.heap.objs.size := Heap.lt_size he
    have hil : it < s.heap.objs.size := by obtain ⟨_, q, _⟩ := hit; exact Heap.lt_size q
    have hh : X.A.in1.handled = none := I.ok.hd hc
    refine wpAny_pyNext_enum_itemC (Draws.text hh it x t) he hit hlt hne (by simpa using hne) fun v h' tk hP ho hit' hT hsz hk => ?_
    obtain ⟨c, u, hcx, rfl⟩ := hP
    refine ⟨_, rfl, wpAny_letOwnedTupleGo_enum (s := { s with heap := h', toks := tk + 1 }) ho fun h'' he' sb => ?_⟩
    have hT2 : h''.get? s.heap.objs.size = some { cls := .type "tuple", data := .seq #[.int i tk, .str ⟨#[c]⟩ u] } := (sb.2 _ (Nat.ne_of_gt hel)).trans hT
    have new : ObjOk X.prog X.w (upd H s.heap.objs.size (.tup [.int (i : Nat), .str ⟨#[c]⟩])) h'' s.heap.objs.size (.tup [.int (i : Nat), .str ⟨#[c]⟩]) :=
      ⟨by show 2 ≤ sizeLine; decide, [.int i tk, .str ⟨#[c]⟩ u], .cons ⟨_, rfl⟩ (.cons ⟨_, rfl⟩ .nil), ⟨_, hT2, rfl, _, rfl⟩⟩
    have I1 : Inv X pins σ (upd H s.heap.objs.size (.tup [.int (i : Nat), .str ⟨#[c]⟩])) { s with heap := h'', toks := tk + 1 } :=
      I.turnedNew (ch := [e, it]) (fun b ob hb q => (sb.2 b (fun z => hb (by simp [z]))).trans (hk b ob (fun z => hb (by simp [z])) (fun z => hb (by simp [z])) q)) hf (Nat.le_refl _) new
    refine ⟨.ref s.heap.objs.size, _, I1, rfl, ⟨_, c, rfl, I.hok.fresh (Nat.le_refl _), rfl, hcx⟩, ⟨⟨.str ⟨#[c]⟩ u, ?_⟩, ?_, hne, hlt⟩, fun b hb => ?_⟩
    · have e1 : ((i + 1 : Nat) : Int) = (i : Int) + 1 := by omega
      rw [e1]; exact he'
    · obtain ⟨o, ho', r⟩ := hit'
      exact ⟨o, (sb.2 it (Ne.symm hne)).trans ho', r⟩
    · have hb' : b < s.heap.objs.size := by
        have e' : b = e ∨ b = it := by simpa using hb
        rcases e' with z | z
        · rw [z]; exact hel
        · rw [z]; exact hil
      rw [upd_ne (Nat.ne_of_lt hb')]
      exact (hf b hb).1
  done := by
    intro X hP hw hK hc i pins s σ H E I hf st hg
    subst hP hw hK
    obtain ⟨⟨old, he⟩, hit, hne, hle⟩ := st
    have hge : x.cps.size ≤ i := hg
    have hi : i = x.cps.size := Nat.le_antisymm hle hge
    subst hi
    have hh : X.A.in1.handled = none := I.ok.hd hc
    obtain ⟨f0, f1, f2, f3, f4, f5⟩ := hf it (by simp)
    exact wpAny_pyNext_enum_endD (Draws.text hh it x t) he hit fun h' eb => ⟨rfl, I.turned (t' := s.toks) (fun b o hb q => eb b o hb q) f0 f1 f3 f4 f5⟩
  self := fun A i s Q E st h => let ⟨⟨_, he⟩, _⟩ := st; wpAny_pyIter_enum he h
def iEnumS (ta : TA) : TI := fun σ H R => ta σ H fun vs H1 => ∃ x, vs = [.str x] ∧ R (ItES x) H1
theorem pi_enumS {X : Cx} {e : Expr} {ta : TA} {p pos tpos : Pos} {elts : List Expr} {kk : Nat} (hg : Gl X "enumerate") (hm : X.mg "enumerate" = none) (ha : PA X [e] ta) (hs : starEach [e] X.env = [(false, eval e X.env)] := by rfl) :
    PI X (.Tuple elts kk tpos) (.Call (.Name "enumerate" p) [e] [] pos) (iEnumS ta) := by
  refine ⟨fun pins s σ H R I h => ?_⟩
  refine Call_ (ld_blt I hg hm boot_enumerate (PyProof.Rows.callWith_type1 (thn (ha.run pos pins s σ H _ I h) fun us s1 ⟨vs, H1, I1, r1, q1⟩ => ?_) hs rfl))
  obtain ⟨x, ex, q⟩ := q1
  subst ex
  cases r1 with
  | cons r rr =>
    cases rr
    obtain ⟨t, rfl⟩ := r
    refine call_enumerate_str fun h' he hit hsz hk => wpAny_pyIter_enum he ?_
    have I2 : Inv X pins σ H1 { s1 with heap := h' } := I1.kept (t' := s1.toks) hk
    refine ⟨s1.heap.objs.size + 1, [s1.heap.objs.size + 1, s1.heap.objs.size], _, _, H1, rfl, I2, turn_enumS x t (s1.heap.objs.size + 1) s1.heap.objs.size, ⟨⟨.none, he⟩, hit, Nat.succ_ne_self _, Nat.zero_le _⟩, fun b hb => ?_, q⟩
    have e' : b = s1.heap.objs.size + 1 ∨ b = s1.heap.objs.size := by simpa using hb
    have hle : s1.heap.objs.size ≤ b := by
      rcases e' with z | z
      · rw [z]; exact Nat.le_add_right _ _
      · rw [z]; exact Nat.le_refl _
    exact I1.fpOk hle (I1.hok.fresh hle)
def ItET (K : PySem.W.Frag) (a : Addr) : It :=
  ⟨fun i H => ∃ (xs : List V) (x : V), SqT K H a xs ∧ xs[i]? = some x, fun i H v H' => ∃ T x, v = .ref T ∧ H T = none ∧ H' = upd H T (.tup [.int (i : Nat), x]) ∧ ∀ xs, SqT K H a xs → xs[i]? = some x, fun i H => ∃ xs : List V, SqT K H a xs ∧ xs.length ≤ i⟩
theorem meets_enumerate_newT (l : Addr) (items : Array Value) (n : Nat) (dct : Option Addr) (sl : Array (Option Value)) :
    Meets (Builtin.«enumerate.__new__» ⟨[.type "enumerate", .ref l], []⟩) (fun _ R s => s.heap.get? l = some { cls := .type "tuple", dict := dct, data := .seq items n, slots := sl } ∧
      R (.ok (.ret (.ref (s.heap.push { cls := .type "tuple_iterator", data := .fields #[.ref l, .int 0 0] }).objs.size)))
        { s with heap := (s.heap.push { cls := .type "tuple_iterator", data := .fields #[.ref l, .int 0 0] }).push { cls := .type "enumerate", data := .fields #[.none, .bool false, .ref s.heap.objs.size, rawInt 0, .none, .none] } }) :=
  .of_wp fun prog w A R s h => by
    obtain ⟨hp, g, d, tk, os⟩ := s; obtain ⟨hl, h⟩ := h
    have hsub := sub_enumerate
    have hL : Heap.IsTuple (Shared.heap ⟨hp, g, d, tk, os⟩) l items := ⟨_, hl, rfl, n, rfl⟩
    wp_walk using AutoSeq1.wpAny_loadPart' hl
    refine wpAny_stack_any fun st => wpAny_pure ?_
    split
    · rename_i c _ _ _ _ _
      cases (c == Value.type "enumerate")
      · wp_walk using AutoSeq1.wpAny_loadPart' hl, wpAny_pyIter_tuple hL
        exact ⟨_, rfl, h⟩
      · wp_walk using AutoSeq1.wpAny_loadPart' hl, wpAny_pyIter_tuple hL
        exact ⟨_, rfl, h⟩
    · wp_walk using AutoSeq1.wpAny_loadPart' hl, wpAny_pyIter_tuple hL
      exact ⟨_, rfl, h⟩
theorem call_enumerate_tup {prog : Program} {w : World} {A : Around} {E : Value → Shared → Prop} {s : Shared} {l : Addr} {items : Array Value} {Q : Value → Shared → Prop} (hL : s.heap.IsTuple l items)
    (h : ∀ h', IsEnum h' (s.heap.objs.size + 1) s.heap.objs.size 0 .none → h'.IsTupleIter s.heap.objs.size l 0 → h'.objs.size = s.heap.objs.size + 2 →
      (∀ b o, s.heap.get? b = some o → h'.get? b = some o) → Q (.ref (s.heap.objs.size + 1)) { s with heap := h' }) :
    wpAny (model prog w) A (call (.type "enumerate") [.ref l]) Q E s := by
  obtain ⟨⟨c, dct, dt, sl⟩, hl, hc, n, hd⟩ := hL
  replace hc : c = .type "tuple" := hc
  replace hd : dt = .seq items n := hd
  subst hc hd
  refine callType_new F.called_enumerate (by decide) (F.typeCall_enumerate_1 _) (F.newCall_enumerate_1 _) (fun obj => F.args_object_init_2 obj _) F.entry_enumerate_new
    (meets_enumerate_newT l items n dct sl) ⟨hl, ?_⟩
  have hz : (s.heap.push { cls := .type "tuple_iterator", data := .fields #[.ref l, .int 0 0] }).objs.size = s.heap.objs.size + 1 := Heap.size_push ..
  show _ ∧ _
  rw [hz]
  have he : IsEnum ((s.heap.push { cls := .type "tuple_iterator", data := .fields #[.ref l, .int 0 0] }).push
      { cls := .type "enumerate", data := .fields #[.none, .bool false, .ref s.heap.objs.size, rawInt 0, .none, .none] }) (s.heap.objs.size + 1) s.heap.objs.size 0 .none := by
    have := Heap.get?_push_size (s.heap.push { cls := .type "tuple_iterator", data := .fields #[.ref l, .int 0 0] })
      (o := { cls := .type "enumerate", data := .fields #[.none, .bool false, .ref s.heap.objs.size, rawInt 0, .none, .none] }) rfl
    rw [hz] at this; exact this
  refine ⟨⟨_, he, rfl⟩, h _ he ⟨_, Heap.get?_push_of_some _ (Heap.get?_push_size _ rfl), rfl, rfl⟩ (by rw [Heap.size_push, hz]) fun b o x => Heap.get?_push_of_some _ (Heap.get?_push_of_some _ x)⟩
theorem turn_enumT {P : Program} {w : World} {K : PySem.W.Frag} {elts : List Expr} {kk : Nat} {tpos : Pos} (a e it : Addr) :
    Turn P w K (.Tuple elts kk tpos) (ItET K a) [e, it] e (fun i h => (∃ old, IsEnum h e it ((i : Nat) : Int) old) ∧ h.IsTupleIter it a i ∧ e ≠ it ∧ a ≠ it ∧ a ≠ e) where
  mem := by simp
  obj := fun i h st b hb => by
    obtain ⟨⟨old, he⟩, ⟨o, ho, hc, hd⟩, _⟩ := st
    have e' : b = e ∨ b = it := by simpa using hb
    rcases e' with z | z
    · rw [z]; exact ⟨_, he, fun v q => nomatch q⟩
    · rw [z]; exact ⟨o, ho, fun v q => by rw [hd] at q; cases q⟩
  keep := fun i h h' st k => by
    obtain ⟨⟨old, he⟩, ⟨o, ho, r⟩, hne⟩ := st
    exact ⟨⟨old, k e (by simp) _ he⟩, ⟨o, k it (by simp) o ho, r⟩, hne⟩
  item := by
    intro X hP hw hK hc i pins s σ H E I hf st hg
    subst hP hw hK
    obtain ⟨⟨old, he⟩, hit, hne, hai, hae⟩ := st
    obtain ⟨xs, x, hq, hx⟩ := hg
    obtain ⟨its, rv, p, hz⟩ := I.tuple hq
    obtain ⟨u, hu, ru⟩ := rv.get hx
    have hel : e < s.heap.objs.size := Heap.lt_size he
    have hil : it < s.heap.objs.size := by obtain ⟨_, q, _⟩ := hit; exact Heap.lt_size q
    have hh : X.A.in1.handled = none := I.ok.hd hc
    have pT : s.heap.IsTuple a its.toArray := p
    have hlt : i < its.toArray.size := by
      have := (List.getElem?_eq_some_iff.mp hu).1
      simpa using this
    refine wpAny_pyNext_enum_itemC (Draws.tuple hh it a hai its.toArray) he ⟨hit, pT⟩ hlt hne (by simp [hne, Ne.symm hae]) fun v h' tk hP ho hit' hT hsz hk => ?_
    have ev : v = u := by
      have hP' : its.toArray[i]? = some v := hP
      rw [List.getElem?_toArray, hu] at hP'
      exact (Option.some.inj hP').symm
    subst ev
    refine ⟨_, rfl, wpAny_letOwnedTupleGo_enum (s := { s with heap := h', toks := tk + 1 }) ho fun h'' he' sb => ?_⟩
    have hT2 : h''.get? s.heap.objs.size = some { cls := .type "tuple", data := .seq #[.int i tk, v] } := (sb.2 _ (Nat.ne_of_gt hel)).trans hT
    have new : ObjOk X.prog X.w (upd H s.heap.objs.size (.tup [.int (i : Nat), x])) h'' s.heap.objs.size (.tup [.int (i : Nat), x]) :=
      ⟨by show 2 ≤ sizeLine; decide, [.int i tk, v], .cons ⟨_, rfl⟩ (.cons ru .nil), ⟨_, hT2, rfl, _, rfl⟩⟩
    have I1 : Inv X pins σ (upd H s.heap.objs.size (.tup [.int (i : Nat), x])) { s with heap := h'', toks := tk + 1 } :=
      I.turnedNew (ch := [e, it]) (fun b ob hb q => (sb.2 b (fun z => hb (by simp [z]))).trans (hk b ob (fun z => hb (by simp [z])) (fun z => hb (by simp [z])) q)) hf (Nat.le_refl _) new
    refine ⟨.ref s.heap.objs.size, _, I1, rfl, ⟨_, x, rfl, I.hok.fresh (Nat.le_refl _), rfl, fun ys hy => by rw [I.tuple_inj hy hq]; exact hx⟩, ⟨⟨v, ?_⟩, ?_, hne, hai, hae⟩, fun b hb => ?_⟩
    · have e1 : ((i + 1 : Nat) : Int) = (i : Int) + 1 := by omega
      rw [e1]; exact he'
    · obtain ⟨⟨o, ho', r⟩, _⟩ := hit'
      exact ⟨o, (sb.2 it (Ne.symm hne)).trans ho', r⟩
    · have hb' : b < s.heap.objs.size := by
        have e' : b = e ∨ b = it := by simpa using hb
        rcases e' with z | z
        · rw [z]; exact hel
        · rw [z]; exact hil
      rw [upd_ne (Nat.ne_of_lt hb')]
      exact (hf b hb).1
  done := by
    intro X hP hw hK hc i pins s σ H E I hf st hg
    subst hP hw hK
    obtain ⟨⟨old, he⟩, hit, hne, hai, hae⟩ := st
    obtain ⟨xs, hq, hx⟩ := hg
    obtain ⟨its, rv, p, hz⟩ := I.tuple hq
    have hl := rv.length
    have pT : s.heap.IsTuple a its.toArray := p
    have hh : X.A.in1.handled = none := I.ok.hd hc
    obtain ⟨f0, f1, f2, f3, f4, f5⟩ := hf it (by simp)
    have D : Draws X.prog X.w X.A.in1 it [it, a] i (fun _ _ => True) (fun j h => j = i ∧ h.IsTupleIter it a i ∧ h.IsTuple a its.toArray) :=
      { live := fun _ _ st => let ⟨o, ho, _⟩ := st.2.1; ⟨o, ho⟩
        frame := fun _ _ _ st hk => ⟨st.1, st.2.1.at fun o e => hk it (by simp) o e, st.2.2.at fun o e => hk a (by simp) o e⟩
        item := fun j s Q E hj st hQ => absurd st.1 (Nat.ne_of_lt hj)
        done := fun s Q E st hE => wpAny_nextOf_tuple_end hh st.2.1 st.2.2 (by simp; omega) hE }
    exact wpAny_pyNext_enum_endD D he ⟨rfl, hit, pT⟩ fun h' eb => ⟨rfl, I.turned (t' := s.toks) (fun b o hb q => eb b o hb q) f0 f1 f3 f4 f5⟩
  self := fun A i s Q E st h => let ⟨⟨_, he⟩, _⟩ := st; wpAny_pyIter_enum he h
def iEnumT (K : PySem.W.Frag) (ta : TA) : TI := fun σ H R => ta σ H fun vs H1 => ∃ a xs, vs = [.ref a] ∧ SqT K H1 a xs ∧ R (ItET K a) H1
theorem pi_enumT {X : Cx} {e : Expr} {ta : TA} {p pos tpos : Pos} {elts : List Expr} {kk : Nat} (hg : Gl X "enumerate") (hm : X.mg "enumerate" = none) (ha : PA X [e] ta) (hs : starEach [e] X.env = [(false, eval e X.env)] := by rfl) :
    PI X (.Tuple elts kk tpos) (.Call (.Name "enumerate" p) [e] [] pos) (iEnumT X.K ta) := by
  refine ⟨fun pins s σ H R I h => ?_⟩
  refine Call_ (ld_blt I hg hm boot_enumerate (PyProof.Rows.callWith_type1 (thn (ha.run pos pins s σ H _ I h) fun us s1 ⟨vs, H1, I1, r1, q1⟩ => ?_) hs rfl))
  obtain ⟨a, xs, ex, hq, q⟩ := q1
  subst ex
  cases r1 with
  | cons r rr =>
    cases rr
    cases r
    obtain ⟨its, rv, p', hz⟩ := I1.tuple hq
    have pT : s1.heap.IsTuple a its.toArray := p'
    have hlt : a < s1.heap.objs.size := by obtain ⟨o, ho, _⟩ := pT; exact Heap.lt_size ho
    refine call_enumerate_tup pT fun h' he hit hsz hk => wpAny_pyIter_enum he ?_
    have I2 : Inv X pins σ H1 { s1 with heap := h' } := I1.kept (t' := s1.toks) hk
    refine ⟨s1.heap.objs.size + 1, [s1.heap.objs.size + 1, s1.heap.objs.size], _, _, H1, rfl, I2, turn_enumT a (s1.heap.objs.size + 1) s1.heap.objs.size, ⟨⟨.none, he⟩, hit, Nat.succ_ne_self _, Nat.ne_of_lt hlt, Nat.ne_of_lt (Nat.lt_succ_of_lt hlt)⟩, fun b hb => ?_, q⟩
    have e' : b = s1.heap.objs.size + 1 ∨ b = s1.heap.objs.size := by simpa using hb
    have hle : s1.heap.objs.size ≤ b := by
      rcases e' with z | z
      · rw [z]; exact Nat.le_add_right _ _
      · rw [z]; exact Nat.le_refl _
    exact I1.fpOk hle (I1.hok.fresh hle)
def iEnumQ (K : PySem.W.Frag) (ta : TA) : TI := fun σ H R => iEnum K ta σ H R ∨ iEnumT K ta σ H R
theorem pi_enumQ {X : Cx} {e : Expr} {ta : TA} {p pos tpos : Pos} {elts : List Expr} {kk : Nat} (hg : Gl X "enumerate") (hm : X.mg "enumerate" = none) (ha : PA X [e] ta) (hs : starEach [e] X.env = [(false, eval e X.env)] := by rfl) :
    PI X (.Tuple elts kk tpos) (.Call (.Name "enumerate" p) [e] [] pos) (iEnumQ X.K ta) := by
  refine ⟨fun pins s σ H R I h => ?_⟩
  rcases h with h | h
  · exact (pi_enum hg hm ha hs).run pins s σ H R I h
  · exact (pi_enumT hg hm ha hs).run pins s σ H R I h
theorem walk_enumT {K : PySem.W.Frag} {a : Addr} {xs : List V} : Walk (ItET K a) xs.length (fun H => SqT K H a xs) (YPair (fun i => some (.int (i : Nat))) (fun i => xs[i]?)) := by
  refine ⟨fun i _ hi q => ⟨xs, xs[i], q, by simp [hi]⟩, fun _ q => ⟨xs, q, Nat.le_refl _⟩, fun i H v H' _ q y => ?_⟩
  obtain ⟨T, x, h1, h2, h3, h4⟩ := y
  exact ⟨T, .int (i : Nat), x, h1, h2, h3, rfl, h4 xs q⟩
theorem walk_enumS {x : Str} : Walk (ItES x) x.cps.size (fun _ => True) (fun i H v H' => ∃ T c, v = .ref T ∧ H T = none ∧ H' = upd H T (.tup [.int (i : Nat), .str ⟨#[c]⟩]) ∧ x.cps[i]? = some c) :=
  ⟨fun _ _ hi _ => hi, fun _ _ => Nat.le_refl _, fun _ _ _ _ _ _ y => y⟩
end Lx
set_option maxRecDepth 100000
set_option maxHeartbeats 4000000
namespace Lx
open PySem PySem.Spec PyProof.Rows L2
def ItTup (n : Nat) (f : Nat → List V → Prop) : It :=
  ⟨fun i _ => i < n, fun i H v H' => ∃ T xs, v = .ref T ∧ H T = none ∧ H' = upd H T (.tup xs) ∧ f i xs, fun i _ => n ≤ i⟩
theorem turn_tuples {P : Program} {w : World} {K : PySem.W.Frag} {elts : List Expr} {kk : Nat} {tpos : Pos} {it : Addr} {fp wr : List Addr} {n : Nat} {Pt : Nat → Array Value → Prop} {St : Nat → Heap → Prop} {Mid : Nat → Addr → Heap → Prop} {f : Nat → List V → Prop}
    (Wk : ∀ A : Around, A.in1.handled = none → WalksT P w A it fp wr n Pt St Mid) (hrel : ∀ i vals, Pt i vals → ∃ xs, Vals xs vals.toList ∧ f i xs ∧ xs.length ≤ 8)
    (hobj : ∀ i h, St i h → ∀ b ∈ fp, ∃ o, h.get? b = some o ∧ ∀ v, o.data ≠ .cell v) (hmem : it ∈ fp)
    (hself : ∀ (A : Around) (i : Nat) (s : Shared) (Q : Value → Shared → Prop) (E : Value → Shared → Prop), St i s.heap → Q (.ref it) s → wpAny (model P w) A (pyIter (.ref it)) Q E s) :
    Turn P w K (.Tuple elts kk tpos) (ItTup n f) fp it (fun i h => St i h ∧ i ≤ n) where
  mem := hmem
  obj := fun i h st => hobj i h st.1
  keep := fun i h h' st k => ⟨(Wk {} rfl).frame i h h' st.1 k, st.2⟩
  item := by
    intro X hP hw hK hc i pins s σ H E I hf st hg
    subst hP hw hK
    have hh : X.A.in1.handled = none := I.ok.hd hc
    have hlt : i < n := hg
    refine (GoesN.ofWalksT (elts := elts) (k := kk) (pos := tpos) (Wk X.A hh)).goes i s _ _ hlt st.1 fun v h' tk hY st' hk htk => ?_
    obtain ⟨T, vals, rfl, hnew, hPt, hT⟩ := hY
    obtain ⟨xs, rv, hfx, hl⟩ := hrel i vals hPt
    have new : ObjOk X.prog X.w (upd H T (.tup xs)) h' T (.tup xs) := ⟨Nat.le_trans hl (by decide), vals.toList, rv, by rw [Array.toArray_toList]; exact hT⟩
    have I1 : Inv X pins σ (upd H T (.tup xs)) { s with heap := h', toks := tk } :=
      I.turnedNew (ch := fp) (fun b ob hb q => hk b ob (fun z => hb ((Wk X.A hh).sub b z)) q) hf hnew new
    refine ⟨.ref T, _, I1, rfl, ⟨T, xs, rfl, I.hok.fresh hnew, rfl, hfx⟩, ⟨st', hlt⟩, fun b hb => ?_⟩
    have hb' : b < s.heap.objs.size := by obtain ⟨o, ho, _⟩ := hobj i _ st.1 b hb; exact Heap.lt_size ho
    rw [upd_ne (Nat.ne_of_lt (Nat.lt_of_lt_of_le hb' hnew))]
    exact (hf b hb).1
  done := by
    intro X hP hw hK hc i pins s σ H E I hf st hg
    subst hP hw hK
    have hh : X.A.in1.handled = none := I.ok.hd hc
    have hge : n ≤ i := hg
    have hi : i = n := Nat.le_antisymm st.2 hge
    subst hi
    refine (Wk X.A hh).done s _ _ st.1 fun h' tk hk => ⟨rfl, ?_⟩
    exact I.turnedL (ch := fp) (fun c o hb q => hk c o (fun z => hb ((Wk X.A hh).sub c z)) q) hf
  self := fun A i s Q E st h => hself A i s Q E st.1 h
theorem walk_tuples {n : Nat} {f : Nat → List V → Prop} : Walk (ItTup n f) n (fun _ => True) (fun i H v H' => ∃ T xs, v = .ref T ∧ H T = none ∧ H' = upd H T (.tup xs) ∧ f i xs) :=
  ⟨fun _ _ hi _ => hi, fun _ _ => Nat.le_refl _, fun _ _ _ _ _ _ y => y⟩
def zipF (x y : Str) : Nat → List V → Prop := fun i xs => ∃ c d, x.cps[i]? = some c ∧ y.cps[i]? = some d ∧ xs = [.str ⟨#[c]⟩, .str ⟨#[d]⟩]
def iZipS (ta : TA) : TI := fun σ H R => ta σ H fun vs H1 => ∃ x y, vs = [.str x, .str y] ∧ R (ItTup (min x.cps.size y.cps.size) (zipF x y)) H1
theorem pi_zipS {X : Cx} {e e2 : Expr} {ta : TA} {p pos tpos : Pos} {elts : List Expr} {kk : Nat} (hg : Gl X "zip") (hm : X.mg "zip" = none) (ha : PA X [e, e2] ta)
    (hs : starEach [e, e2] X.env = (false, eval e X.env) :: starEach [e2] X.env := by rfl) (hpl : (backTo pos (starEach [e2] X.env)).any (·.1) = false := by rfl) :
    PI X (.Tuple elts kk tpos) (.Call (.Name "zip" p) [e, e2] [] pos) (iZipS ta) := by
  refine ⟨fun pins s σ H R I h => ?_⟩
  refine Call_ (ld_blt I hg hm PyProof.Rows.boot_zip (PyProof.Rows.callWith_type1 (thn (ha.run pos pins s σ H _ I h) fun us s1 ⟨vs, H1, I1, r1, q1⟩ => ?_) hs hpl))
  obtain ⟨x, y, ex, q⟩ := q1
  subst ex
  cases r1 with
  | cons r rr =>
    cases rr with
    | cons r' rr =>
      cases rr
      obtain ⟨t, rfl⟩ := r
      obtain ⟨t', rfl⟩ := r'
      refine zip_begins2 (begins_text x t) (begins_text y t') trivial trivial fun h' hz hTI hTO h1 h2 hsz hk => wpAny_pyIter_zip hz ?_
      have I2 : Inv X pins σ H1 { s1 with heap := h' } := I1.kept (t' := s1.toks) hk
      have sep := zip_sep2 (N := s1.heap.objs.size) (fp1 := []) (fp2 := []) (fun b hb => nomatch hb) (fun b hb => nomatch hb)
      have tn := turn_tuples (P := X.prog) (w := X.w) (K := X.K) (elts := elts) (kk := kk) (tpos := tpos) (f := zipF x y)
        (fun A hh => WalksT.zipD2 sep (Draws.text (prog := X.prog) (w := X.w) hh s1.heap.objs.size x t) (Draws.text (prog := X.prog) (w := X.w) hh (s1.heap.objs.size + 1) y t'))
        (fun i vals hv => by
          obtain ⟨x1, x2, ⟨c, u, hc, rfl⟩, ⟨d, u', hd, rfl⟩, rfl⟩ := hv
          exact ⟨[.str ⟨#[c]⟩, .str ⟨#[d]⟩], .cons ⟨_, rfl⟩ (.cons ⟨_, rfl⟩ .nil), ⟨c, d, hc, hd, rfl⟩, by show 2 ≤ 8; decide⟩)
        (fun i h st b hb => by
          obtain ⟨z1, z2, ⟨a1, a2, z3⟩, ⟨o1, e1, _, d1⟩, ⟨o2, e2, _, d2⟩⟩ := st
          have e' : b = s1.heap.objs.size + 4 ∨ b = s1.heap.objs.size + 2 ∨ b = s1.heap.objs.size + 3 ∨ b = s1.heap.objs.size ∨ b = s1.heap.objs.size + 1 := by simpa using hb
          rcases e' with q | q | q | q | q
          · rw [q]; exact ⟨_, z1, fun v q => nomatch q⟩
          · rw [q]; exact ⟨_, z2, fun v q => nomatch q⟩
          · rw [q]; exact ⟨_, z3, fun v q => nomatch q⟩
          · rw [q]; exact ⟨o1, e1, fun v q => by rw [d1] at q; cases q⟩
          · rw [q]; exact ⟨o2, e2, fun v q => by rw [d2] at q; cases q⟩)
        (by simp) (fun A i s Q E st h => wpAny_pyIter_zip st.1 h)
      refine ⟨s1.heap.objs.size + 4, _, _, _, H1, rfl, I2, tn, ⟨⟨hz, hTI, ⟨_, _, hTO⟩, ⟨_, h1, rfl, rfl⟩, ⟨_, h2, rfl, rfl⟩⟩, Nat.zero_le _⟩, fun c hcm => ?_, q⟩
      have e' : c = s1.heap.objs.size + 4 ∨ c = s1.heap.objs.size + 2 ∨ c = s1.heap.objs.size + 3 ∨ c = s1.heap.objs.size ∨ c = s1.heap.objs.size + 1 := by simpa using hcm
      have hle : s1.heap.objs.size ≤ c := by
        rcases e' with z | z | z | z | z
        · rw [z]; exact Nat.le_add_right _ _
        · rw [z]; exact Nat.le_add_right _ _
        · rw [z]; exact Nat.le_add_right _ _
        · rw [z]; exact Nat.le_refl _
        · rw [z]; exact Nat.le_add_right _ _
      exact I1.fpOk hle (I1.hok.fresh hle)
section
variable {X : Cx}
theorem op_rep_str : OpR X (binaryOp .Mult) (fun x y H Q => ∃ (z : Str) (n : Int), x = .str z ∧ y = .int n ∧ n < 2 ^ 20 ∧ -(2 ^ 20) < n ∧ z.length * n.toNat ≤ 100000 ∧ Q (.str (Txt.mul z n)) H) := by
  intro pins s σ H x y u v Q I rx ry h
  obtain ⟨z, n, rfl, rfl, h1, h2, h3, q⟩ := h
  obtain ⟨t, rfl⟩ := rx
  obtain ⟨t', rfl⟩ := ry
  refine SB.mul ⟨?_, fun a b => ?_, fun a b => ?_⟩ fun t' k => ⟨.str (Txt.mul z n), H, I.tok _, ⟨_, rfl⟩, q⟩
  · rw [decide_eq_false (by omega), decide_eq_false (by omega)]; rfl
  · have e1 : ((z.length : Int)) ≤ 100000 := by
      have : z.length * 1 ≤ z.length * n.toNat := Nat.mul_le_mul_left _ (by omega)
      omega
    have e2 : (100000 : Int) ≤ (2 ^ 63 - 1) / n := by
      refine (Int.le_ediv_iff_mul_le (by omega)).mpr ?_
      omega
    omega
  · show decide (z.length * n.toNat > sizeLine) = false
    exact decide_eq_false (Nat.not_lt.mpr (Nat.le_trans h3 (by decide)))
end
open C8 in
theorem pe_mk0 {X : Cx} {k j : Nat} {C : Addr} {x : Str} {sp : Sp} {dvs : List V} {p pos : Pos} (c : Mak X.prog X.w X.K X.mg X.base k x C sp dvs) (hr : Room j X.A) (hk : k + 1 ≤ j) (hg : Gl X x) (hdb : (x == ("__debug__" : Str)) = false := by decide) :
    PE X (.Call (.Name x p) [] [] pos) (tMake C sp dvs C8.E0 tNil) := by
  obtain ⟨f, fd, ps, ds, M, F, hm, b, d⟩ := c.ex
  exact pe_make0 M F (hr.mono hk) hg hm b d C8.pass0 hdb
open C8 in
theorem pe_c0 {X : Cx} {k j : Nat} {x : Str} {sp : Sp} {dvs : List V} {p pos : Pos} (c : Cal X.prog X.w X.K X.mg X.base k x sp dvs) (hr : Room j X.A) (hk : k ≤ j) (hg : Gl X x) (hdb : (x == ("__debug__" : Str)) = false := by decide) :
    PE X (.Call (.Name x p) [] [] pos) (tCall sp dvs C8.E0 tNil) := by
  obtain ⟨f, fd, ps, ds, F, hm, kp, b, d⟩ := c.ex
  exact pe_call0 F (hr.mono hk) hg hm kp b d C8.pass0 hdb
structure Prp (P : Program) (w : World) (K : PySem.W.Frag) (mg : Str → Option Value) (base : Heap) (k : Nat) (C : Addr) (m : Str) (sp : Sp) : Prop where
  ex : ∃ (p f : Addr) (fd : FuncData) (ps : List Str), Cls K C ∧ PropOf K C m p f ∧ FnOk P w K mg base C8.CX0 k f fd ps sp ∧ Binds K fd ps []
theorem pe_pr {X : Cx} {k j : Nat} {C : Addr} {m : Str} {sp : Sp} {e : Expr} {ta : TE} {pos : Pos} (c : Prp X.prog X.w X.K X.mg X.base k C m sp) (hr : Room j X.A) (hk : k + 1 ≤ j) (he : PE X e ta) (hab : attributeBase e m X.env (eval e X.env) = eval e X.env := by rfl) :
    PE X (.Attribute e m pos) (tProp C sp [] C8.E0 ta) := by
  obtain ⟨p, f, fd, ps, hc, hp, F, b⟩ := c.ex
  exact pe_prop he hc hp F (hr.mono hk) b .nil C8.pass0 hab
end Lx
set_option maxRecDepth 100000
set_option maxHeartbeats 4000000
namespace Lx
open PySem PySem.Spec PyProof.Rows L2
section
variable {X : Cx} {k j : Nat} {C : Addr} {sp : Sp}
theorem run_sub {CX : CXT} {f : Addr} {fd : FuncData} {ps : List Str} {A : Around} {pins : List (Addr × Obj)} {σ : L2.St} {H : Hp} {s : Shared} {Q : VK} {E : XK} {us : List Value} {vs : List V} (F : FnOk X.prog X.w X.K X.mg X.base CX k f fd ps sp) (sb : Sub X k A) (hb : Binds X.K fd ps [])
    (hx : Passes CX X E) (I : Inv X pins σ H s) (r : Vals vs us) (h : sp vs H Q E) : wpAny (model X.prog X.w) A (call (.ref f) us) (EP X pins σ Q) X.xe s := by
  have e0 : Env0 X.prog X.w X.K X.mg X.base A X.stack s H := by
    have e := I.env0
    exact ⟨by rw [sb.fr]; exact e.frames, e.mod, e.bs, e.bsz, e.funs, e.frf, e.hok, e.bare⟩
  have hl : (us ++ []).length = ps.length := by rw [List.append_nil, ← r.length]; exact F.len _ _ _ _ h
  refine wpAny_call (codeAny_mono (F.run A X.stack s H ⟨us, []⟩ us vs Q E sb.room e0 (by have := hb s us I.kIn hl; simpa using this) r h) fun r s' hq => ?_)
  cases r with
  | error e => exact hx pins σ H s e s' I hq
  | ok fl =>
    cases fl with
    | ret w => exact I.after hq
    | next => exact False.elim hq
    | brk => exact False.elim hq
    | cont => exact False.elim hq
theorem vals_nil {ds : List Value} (h : Vals [] ds) : ds = [] := by cases h; rfl
theorem sub_in2 {A : Around} (hr : Room j A) (hk : k + 2 ≤ j) (hf : A.frames = X.A.frames) : Sub X k A.in1.in1 := by
  have s : Sub X (k + 2) A := ⟨hr.mono hk, hf⟩
  exact s.in1.in1
def rStrO (C : Addr) (sp : Sp) : List V → Hp → VK → Prop := fun xs H Q => ∃ a dx fs, xs = [.ref a] ∧ H a = some (.ins C dx fs) ∧ sp [.ref a] H (fun v H' => ∃ z, v = .str z ∧ Q (.str z) H') C8.E0
theorem call_str_own (c : C8.Met X.prog X.w X.K X.mg X.base k C "__str__" sp []) (hr : Room j X.A) (hk : k + 2 ≤ j) : CallR X (.type "str") (rStrO C sp) := by
  intro pins s σ H xs us Q I rv h
  obtain ⟨a, dx, fs, rfl, ha, hsp⟩ := h
  obtain ⟨f, fd, ps, ds, _, me, F, b, d⟩ := c.ex
  obtain rfl := vals_nil d
  cases rv with
  | cons r rr =>
    cases rr
    cases r
    obtain ⟨mA, J, _⟩ := ins_get I.hok ha
    obtain ⟨od, J, _⟩ := J.look
    have sb : Sub X k X.A.in1.in1 := sub_in2 hr hk rfl
    refine PySem.W.kso_call sb.room.units0 I.kIn J me.at_ me.fn (wpAny_mono (run_sub (vs := [.ref a]) F sb b C8.pass0 I (.cons rfl .nil) hsp) (fun u s' q => ?_) fun _ _ x => x)
    obtain ⟨v, H', I', ru, z, ez, q⟩ := q
    subst ez
    obtain ⟨t, rfl⟩ := ru
    exact ⟨.str z, H', I', ⟨t, rfl⟩, q⟩
def rLenO (C : Addr) (sp : Sp) : List V → Hp → VK → Prop := fun xs H Q => ∃ a dx fs, xs = [.ref a] ∧ H a = some (.ins C dx fs) ∧ sp [.ref a] H (fun v H' => ∃ n : Int, v = .int n ∧ 0 ≤ n ∧ n < 2 ^ 63 ∧ Q (.int n) H') C8.E0
theorem call_len_own (c : C8.Met X.prog X.w X.K X.mg X.base k C "__len__" sp []) (hr : Room j X.A) (hk : k + 2 ≤ j) : CallR X (.builtin "len") (rLenO C sp) := by
  intro pins s σ H xs us Q I rv h
  obtain ⟨a, dx, fs, rfl, ha, hsp⟩ := h
  obtain ⟨f, fd, ps, ds, _, me, F, b, d⟩ := c.ex
  obtain rfl := vals_nil d
  cases rv with
  | cons r rr =>
    cases rr
    cases r
    obtain ⟨mA, J, _⟩ := ins_get I.hok ha
    obtain ⟨od, J, _⟩ := J.look
    have sb : Sub X k X.A.in1 := (show Sub X (k + 1) X.A from ⟨hr.mono (by omega), rfl⟩).in1
    obtain ⟨m, hF⟩ := I.fr
    refine PySem.W.len_K hF I.ok.mod.kin J me.at_ me.fn (wpAny_mono (run_sub (vs := [.ref a]) F sb b C8.pass0 I (.cons rfl .nil) hsp) (fun u s' q => ?_) fun _ _ x => x)
    obtain ⟨v, H', I', ru, z, ez, h0, h1, q⟩ := q
    subst ez
    obtain ⟨t, rfl⟩ := ru
    exact ⟨⟨h0, h1⟩, .int z, H', I'.tok _, ⟨_, rfl⟩, q⟩
def rEqO (C : Addr) (sp : Sp) : R2 := fun x y H Q => ∃ a b dx dy fs gs, x = .ref a ∧ y = .ref b ∧ H a = some (.ins C dx fs) ∧ H b = some (.ins C dy gs) ∧ sp [.ref a, .ref b] H (fun v H' => ∃ t : Bool, v = .bl t ∧ Q (.bl t) H') C8.E0
theorem op_eqOwn (c : C8.Met X.prog X.w X.K X.mg X.base k C "__eq__" sp []) (hr : Room j X.A) (hk : k ≤ j) : OpR X (compareOp .Eq) (rEqO C sp) := by
  intro pins s σ H x y v u Q I rx ry h
  obtain ⟨a, b, dx, dy, fs, gs, rfl, rfl, ha, hb, hsp⟩ := h
  obtain ⟨f, fd, ps, ds, _, me, F, bn, d⟩ := c.ex
  obtain rfl := vals_nil d
  cases rx
  cases ry
  obtain ⟨mA, J, _⟩ := ins_get I.hok ha
  obtain ⟨mB, J', _⟩ := ins_get I.hok hb
  obtain ⟨od, J, _⟩ := J.look
  obtain ⟨od', J', _⟩ := J'.look
  obtain ⟨m, hF⟩ := I.fr
  have sb : Sub X k X.A := ⟨hr.mono hk, rfl⟩
  show wpAny (model X.prog X.w) X.A (richCompare .Eq (.ref a) (.ref b)) (EP X pins σ Q) X.xe s
  refine PySem.W.cmp_K (op := .Eq) (tb := .ref C) sb.room.units0 hF I.ok.mod.kin J J'.type (by simp [PySem.W.notFirst]) me.at_ me.fn ?_
  refine wpAny_mono (run_sub (vs := [.ref a, .ref b]) F sb bn C8.pass0 I (.cons rfl (.cons rfl .nil)) hsp) (fun u s' q => ?_) fun _ _ x => x
  obtain ⟨v, H', I', ru, t, ez, q⟩ := q
  subst ez
  cases (show u = Value.bool t from ru)
  exact ⟨.bl t, H', I', rfl, q⟩
end
structure NeT (K : PySem.W.Frag) (C : Addr) : Prop where
  mro : PySem.W.mroIn K C (.type "object") = some true
  ne : PySem.W.findIn K (.ref C) "__ne__" = some (some (.builtin "object.__ne__"))
section
open PySem.W
variable {M : Model} {prog : Program} {w : World} {A : Around} {E : Value → Shared → Prop} {s : Shared} {K : PySem.W.Frag} {x C f : Addr} {ox : Obj} {od : Option Obj} {b tb : Value}
theorem ifBound_bltn {name : Str} {id : String} {args : List Value} {Q : Option Value → Shared → Prop} (X : K.In s.heap) (I : PySem.W.InstAt s.heap x ox C od) (hs : PySem.W.findIn K (.ref C) name = some (some (.builtin id)))
    (hb : ∀ self, bindSpecial (.builtin id) self = pure (.builtin id, [self])) (h : wpAny M A (call (.builtin id) (.ref x :: args)) (fun v => Q (some v)) E s) : wpAny M A (callSpecialIfBound? (.ref x) name args) Q E s := by
  simp only [callSpecialIfBound?, bindSpecialIfBound?]
  refine wpAny_holding (wpAny_bind (wpAny_bind (wpAny_bind (I.type.here ((PySem.W.looks_findIn X hs).here ?_)))))
  refine wpAny_bind (wpAny_askSetting (wpAny_ite ?_))
  have fin : wpAny M A (call (.builtin id) ([.ref x] ++ args) >>= fun v => pure (some v)) Q E s := wpAny_bind (wpAny_mono h (fun v s' h' => wpAny_pure h') fun _ _ h' => h')
  split
  · exact wpAny_bind (wpAny_of_eq (hb _) (wpAny_pure (by exact fin)))
  · exact wpAny_tryCatch (wpAny_bind (wpAny_of_eq (hb _) (wpAny_pure (by exact fin))))
theorem ne_tree {Q : Fin → Shared → Prop} (hu : A.units < cLine) (X : K.In s.heap) (I : PySem.W.InstAt s.heap x ox C od) (he : PySem.W.findIn K (.ref C) "__eq__" = some (some (.ref f))) (hf : PySem.W.isFn K (.ref f) = true)
    (h : wpAny M A (call (.ref f) [.ref x, b]) (fun v s' => ∃ t : Bool, v = .bool t ∧ Q (.done (.ret (.bool (!t)))) s') E s) : wpAny M A (Builtin.«object.__ne__» ⟨[.ref x, b], []⟩) Q E s := by
  unfold Builtin.«object.__ne__»
  refine wpAny_bind (m := slotArgs "__ne__" 1 _) (wpAny_pure ?_)
  refine wpAny_bind (m := cRoomFor _ _) (wpAny_cRoomFor hu ?_)
  refine wpAny_bind (m := callSpecialIfBound? (.ref x) (Str.ofString "__eq__") _) (ifBound_K X I he hf (wpAny_mono h (fun r s' hr => ?_) fun _ _ y => y))
  obtain ⟨t, rfl, q⟩ := hr
  exact wpAny_bind (wpAny_truthy_bool (wpAny_pure q))
theorem cmp_neK {Q : Value → Shared → Prop} (hu : A.units < cLine) (hu1 : A.in1.units < cLine) (X : K.In s.heap) (I : PySem.W.InstAt s.heap x ox C od) (hb : Looks (model prog w) s.heap (typeOf b) tb) (hn : PySem.W.notFirst K C tb = true) (N : NeT K C)
    (he : PySem.W.findIn K (.ref C) "__eq__" = some (some (.ref f))) (hf : PySem.W.isFn K (.ref f) = true)
    (h : wpAny (model prog w) A.in1 (call (.ref f) [.ref x, b]) (fun v s' => ∃ t : Bool, v = .bool t ∧ Q (.bool (!t)) s') E s) : wpAny (model prog w) A (richCompare .NotEq (.ref x) b) Q E s := by
  have one : wpAny (model prog w) A (tryCompare (.ref x) (cmpInfo .NotEq).2.1 b) (fun r s' => ∃ v, r = some v ∧ Q v s') E s := by
    unfold tryCompare
    refine wpAny_bind (ifBound_bltn X I N.ne F.cmp_object.ne.bind ?_)
    refine wpAny_call (codeAny_call_builtin F.cmp_object.ne.plain F.cmpEntry_ne (PySem.W.check_slot F.cmpKind_ne F.cmpSplit_ne (I.type.andThen (PySem.W.looks_mroIn X N.mro)) (F.cmpArgs_ne _ _) (ne_tree hu1 X I he hf (wpAny_mono h (fun v s' hv => ?_) fun _ _ e => e))))
    obtain ⟨t, rfl, q⟩ := hv
    exact ⟨t, rfl, wpAny_pure ⟨_, rfl, q⟩⟩
  unfold richCompare
  simp only [oneThing_ref]
  refine wpAny_holding (wpAny_bind (wpAny_cRoomFor hu ?_))
  refine wpAny_bind (I.type.here (wpAny_bind (hb.here ?_)))
  split
  · rename_i q
    have e : subIn K tb (.ref C) = some false := by
      rcases Bool.or_eq_true_iff.mp hn with e | e
      · rw [beq_iff_eq.mp e] at q; simp at q
      · exact beq_iff_eq.mp e
    refine wpAny_bind ((looks_subIn X e).here ?_)
    simp only [Bool.false_eq_true, if_false]
    refine wpAny_bind (wpAny_mono one (fun r s' z => ?_) fun _ _ e => e)
    obtain ⟨v, rfl, hq⟩ := z
    exact wpAny_pure hq
  · refine wpAny_bind (wpAny_pure ?_)
    simp only [Bool.false_eq_true, if_false]
    refine wpAny_bind (wpAny_mono one (fun r s' z => ?_) fun _ _ e => e)
    obtain ⟨v, rfl, hq⟩ := z
    exact wpAny_pure hq
end
section
variable {X : Cx} {k j i : Nat} {C : Addr} {sp : Sp} {x y : Str} {dvs : List V} {p pos : Pos} {e : Expr} {es : List Expr} {t : TA}
def rNeO (C : Addr) (sp : Sp) : R2 := fun x y H Q => ∃ a b dx dy fs gs, x = .ref a ∧ y = .ref b ∧ H a = some (.ins C dx fs) ∧ H b = some (.ins C dy gs) ∧ sp [.ref a, .ref b] H (fun v H' => ∃ t : Bool, v = .bl t ∧ Q (.bl (!t)) H') C8.E0
theorem op_neOwn (c : C8.Met X.prog X.w X.K X.mg X.base k C "__eq__" sp []) (N : NeT X.K C) (hr : Room j X.A) (hk : k + 1 ≤ j) : OpR X (compareOp .NotEq) (rNeO C sp) := by
  intro pins s σ H x y v u Q I rx ry h
  obtain ⟨a, b, dx, dy, fs, gs, rfl, rfl, ha, hb, hsp⟩ := h
  obtain ⟨f, fd, ps, ds, _, me, F, bn, d⟩ := c.ex
  obtain rfl := vals_nil d
  cases rx
  cases ry
  obtain ⟨mA, J, _⟩ := ins_get I.hok ha
  obtain ⟨mB, J', _⟩ := ins_get I.hok hb
  obtain ⟨od, J, _⟩ := J.look
  obtain ⟨od', J', _⟩ := J'.look
  have sb1 : Sub X (k + 1) X.A := ⟨hr.mono hk, rfl⟩
  have sb := sb1.in1
  show wpAny (model X.prog X.w) X.A (richCompare .NotEq (.ref a) (.ref b)) (EP X pins σ Q) X.xe s
  refine cmp_neK (tb := .ref C) sb1.room.units0 sb.room.units0 I.kIn J J'.type (by simp [PySem.W.notFirst]) N me.at_ me.fn ?_
  refine wpAny_mono (run_sub (vs := [.ref a, .ref b]) F sb bn C8.pass0 I (.cons rfl (.cons rfl .nil)) hsp) (fun u s' q => ?_) fun _ _ x => x
  obtain ⟨v, H', I', ru, t, ez, q⟩ := q
  subst ez
  cases (show u = Value.bool t from ru)
  exact ⟨t, rfl, .bl (!t), H', I', rfl, q⟩
def tMakeL (i : Nat) (C : Addr) (sp : Sp) (dvs : List V) (t : TA) : TE := fun σ H Q => σ[i]? = some (some (.ref C)) ∧ tMake C sp dvs C8.E0 t σ H Q
theorem pe_mkL (i : Nat) (c : C8.Mak X.prog X.w X.K X.mg X.base k y C sp dvs) (hr : Room j X.A) (hk : k + 1 ≤ j) (ha : PA X (e :: es) t) (hN : X.N[i]? = some x := by rfl) (hv : Vis X.env.scope x := by first | exact Or.inl rfl | exact Or.inr (Or.inl rfl) | exact Or.inr (Or.inr rfl))
    (hdb : (x == ("__debug__" : Str)) = false := by decide) (hcd : (x == ("__classdict__" : Str)) = false := by decide)
    (he : starEach (e :: es) X.env = (false, eval e X.env) :: starEach es X.env := by rfl) (hpl : (backTo pos (starEach es X.env)).any (·.1) = false := by rfl) : PE X (.Call (.Name x p) (e :: es) [] pos) (tMakeL i C sp dvs t) := by
  obtain ⟨f, fd, ps, ds, M, F, hm, b, d⟩ := c.ex
  refine ⟨fun pins s σ H Q I h => ?_⟩
  obtain ⟨hs, ht⟩ := h
  refine wpAny_Call_Name_kw (thn ((pe_var (pos := p) hN hv hdb hcd).run pins s σ H (fun v H1 => v = .ref C ∧ H1 = H) I ⟨.ref C, hs, rfl, rfl⟩) fun u s1 ⟨v, H1, I1, r1, q1⟩ => ?_)
  obtain ⟨rfl, rfl⟩ := q1
  cases r1
  refine PySem.W.callWith_K (h₀ := X.base) I.ok.mod.kin M.kp (thn (ha.run pos pins s1 σ _ _ I1 ht) fun us s2 ⟨vs, H2, I2, r, q⟩ => ⟨I2.kIn, ?_⟩) he hpl
  exact run_make M F (hr.mono hk) b d C8.pass0 I2 r q
theorem pe_mkL0 (i : Nat) (c : C8.Mak X.prog X.w X.K X.mg X.base k y C sp dvs) (hr : Room j X.A) (hk : k + 1 ≤ j) (hN : X.N[i]? = some x := by rfl) (hv : Vis X.env.scope x := by first | exact Or.inl rfl | exact Or.inr (Or.inl rfl) | exact Or.inr (Or.inr rfl))
    (hdb : (x == ("__debug__" : Str)) = false := by decide) (hcd : (x == ("__classdict__" : Str)) = false := by decide) : PE X (.Call (.Name x p) [] [] pos) (tMakeL i C sp dvs tNil) := by
  obtain ⟨f, fd, ps, ds, M, F, hm, b, d⟩ := c.ex
  refine ⟨fun pins s σ H Q I h => ?_⟩
  obtain ⟨hs, ht⟩ := h
  refine wpAny_Call_Name_kw (thn ((pe_var (pos := p) hN hv hdb hcd).run pins s σ H (fun v H1 => v = .ref C ∧ H1 = H) I ⟨.ref C, hs, rfl, rfl⟩) fun u s1 ⟨v, H1, I1, r1, q1⟩ => ?_)
  obtain ⟨rfl, rfl⟩ := q1
  cases r1
  exact PySem.W.callWith_K0 I1.kIn M.kp (run_make (us := []) M F (hr.mono hk) b d C8.pass0 I1 .nil ht)
structure CMt (P : Program) (w : World) (K : PySem.W.Frag) (mg : Str → Option Value) (base : Heap) (k : Nat) (x : Str) (C : Addr) (m : Str) (sp : Sp) : Prop where
  ex : ∃ (mc : Value) (p g : Addr) (fd : FuncData) (ps : List Str), mg x = some (.ref C) ∧ ClX.CRead K C mc ∧ ClX.CMet K C mc m p g ∧ FnOk P w K mg base C8.CX0 k g fd ps sp ∧ Binds K fd ps []
theorem pe_cm {m : Str} {apos : Pos} {pl : Sem Bool} (c : CMt X.prog X.w X.K X.mg X.base k x C m sp) (hr : Room j X.A) (hk : k ≤ j) (hg : Gl X x) (ha : PA X (e :: es) t) (hdb : (x == ("__debug__" : Str)) = false := by decide)
    (hst : starEach (e :: es) X.env = (false, eval e X.env) :: starEach es X.env := by rfl) (hpl : (backTo pos (starEach es X.env)).any (·.1) = false := by rfl)
    (ht : eval (.Call (.Attribute (.Name x p) m apos) (e :: es) [] pos) X.env = (do
      let ov ← eval (.Name x p) X.env
      standAt apos.atName
      let (f, first) ← holding [ov] (getMethod ov m pl)
      callWith pos f first (backTo pos (starEach (e :: es) X.env)) (backToKw pos (keywordEach [] X.env))) := by rfl) :
    PE X (.Call (.Attribute (.Name x p) m apos) (e :: es) [] pos) (ClX.tCMeth C sp C8.E0 (tC (.ref C)) t) := by
  obtain ⟨mc, q, g, fd, ps, hm, r, cm, F, b⟩ := c.ex
  exact ClX.pe_cmeth (pe_glob (v := .ref C) hg hm rfl hdb) r cm (F.raw b .nil |>.imp fun vs H Q E h => by rw [List.append_nil]; exact h) (hr.mono hk) C8.pass0 ha hst hpl ht
end
structure IsT (K : PySem.W.Frag) (C : Addr) : Prop where
  cl : Cls K C
  ha : PySem.W.findIn K (.ref C) "__class__" = some (some (.builtin "object.__class__"))
  hn : PySem.W.specialIn K (.builtin "object.__class__") "__get__" = some (some (.builtin "getset_descriptor.__get__"))
  ht : PySem.W.takesIn K (.builtin "object.__class__") = some true
  hm : PySem.W.mroIn K C (.type "object") = some true
theorem IsT.ty {K : PySem.W.Frag} {C a dx : Addr} {H : Hp} {fs : List (Str × V)} (I : IsT K C) (e : H a = some (.ins C dx fs)) : TyX K H (.ref a) (.ref C) := .base (.ins e I.cl I.ha I.hn I.ht I.hm)
theorem IsT.one {K : PySem.W.Frag} {C : Addr} (_ : IsT K C) : PySem.W.kitOne K (.ref C) (.ref C) = some true := by
  unfold PySem.W.kitOne
  rw [if_pos (beq_self_eq_true _)]
def tJn (ts : List TE) : TE := fun σ H Q => tJs ts Str.empty σ H fun out H1 => Q (.str out) H1
theorem pe_jn {X : Cx} {v1 v2 : Expr} {rest : List Expr} {ts : List TE} {pos : Pos} (h : PJ X (v1 :: v2 :: rest) ts) : PE X (.JoinedStr (v1 :: v2 :: rest) pos) (tJn ts) := pe_joined h
end Lx
set_option maxRecDepth 100000
set_option maxHeartbeats 4000000
namespace Lx
open PySem PySem.Spec PyProof.Rows L2
section
open PySem.W
variable {prog : Program} {w : World} {A : Around} {E : Value → Shared → Prop} {s : Shared} {K : PySem.W.Frag} {x C f : Addr} {ox : Obj} {od : Option Obj}
theorem decl_none : wpAny (model prog w) A (tryCompare .none "__eq__" (.ref x)) (fun r s' => r = none ∧ s' = s) E s :=
  wpAny_tryCompare_declines (show s.TypeIs .none "NoneType" from rfl) F.slot_NoneType_eq_refl (call_gives F.slot_NoneType_eq_refl rfl F.entry_NoneType_eq (F.args_NoneType_eq_2 _ _) (PySem.SeqAt.NoneType___eq___none_ref_0 x) ⟨rfl, rfl, rfl⟩)
theorem decl_tup {t : Addr} {items : Array Value} (ht : IsTup s.heap t items) (X : K.In s.heap) (I : PySem.W.InstAt s.heap x ox C od) (e : subIn K (.ref C) (.type "tuple") = some false) :
    wpAny (model prog w) A (tryCompare (.ref t) "__eq__" (.ref x)) (fun r s' => r = none ∧ s' = s) E s := by
  refine wpAny_tryCompare_declines ht.typeIs F.slot_tuple_eq (wpAny_call_entry F.slot_tuple_eq ht.typeIs F.entry_tuple_eq ?_ (F.args_tuple_eq_2 _ _))
  show wpAny _ _ (isInstance (.ref x) (.type "tuple") >>= _) _ _ s
  unfold isInstance
  refine wpAny_bind (wpAny_bind (I.type.here ((looks_subIn X e).here ?_)))
  exact wpAny_pure ⟨_, rfl, rfl, rfl, rfl⟩
theorem cmp_rev {v tv : Value} {Q : Value → Shared → Prop} (hu : A.units < cLine) (X : K.In s.heap) (I : PySem.W.InstAt s.heap x ox C od) (hv : Looks (model prog w) s.heap (typeOf v) tv) (ho : oneThing? .Eq v (.ref x) = none)
    (e : subIn K (.ref C) tv = some false) (one : wpAny (model prog w) A (tryCompare v "__eq__" (.ref x)) (fun r s' => r = none ∧ s' = s) E s)
    (he : PySem.W.findIn K (.ref C) "__eq__" = some (some (.ref f))) (hf : PySem.W.isFn K (.ref f) = true)
    (h : wpAny (model prog w) A (call (.ref f) [.ref x, v]) (fun r s' => ∃ t : Bool, r = .bool t ∧ Q (.bool t) s') E s) : wpAny (model prog w) A (richCompare .Eq v (.ref x)) Q E s := by
  have two : wpAny (model prog w) A (tryCompare (.ref x) "__eq__" v) (fun r s' => ∃ t : Bool, r = some (.bool t) ∧ Q (.bool t) s') E s := by
    unfold tryCompare
    refine wpAny_bind (ifBound_K X I he hf (wpAny_mono h (fun r s' z => ?_) fun _ _ e => e))
    obtain ⟨t, rfl, q⟩ := z
    exact wpAny_pure ⟨t, rfl, q⟩
  unfold richCompare
  simp only [ho]
  refine wpAny_holding (wpAny_bind (wpAny_cRoomFor hu ?_))
  refine wpAny_bind (hv.here (wpAny_bind (I.type.here ?_)))
  split
  · refine wpAny_bind ((looks_subIn X e).here ?_)
    simp only [Bool.false_eq_true, if_false, Bool.not_false, if_true]
    refine wpAny_bind (wpAny_mono one (fun r s1 z => ?_) fun _ _ e => e)
    obtain ⟨rfl, rfl⟩ := z
    refine wpAny_bind (wpAny_mono two (fun r s2 z => ?_) fun _ _ e => e)
    obtain ⟨t, rfl, q⟩ := z
    exact wpAny_pure q
  · refine wpAny_bind (wpAny_pure ?_)
    simp only [Bool.false_eq_true, if_false, Bool.not_false, if_true]
    refine wpAny_bind (wpAny_mono one (fun r s1 z => ?_) fun _ _ e => e)
    obtain ⟨rfl, rfl⟩ := z
    refine wpAny_bind (wpAny_mono two (fun r s2 z => ?_) fun _ _ e => e)
    obtain ⟨t, rfl, q⟩ := z
    exact wpAny_pure q
theorem eqBool_rev {v : Value} {Q : Bool → Shared → Prop} (hne : (v == Value.ref x) = false) (hfl : ∀ b t, v ≠ .float b t) (h : wpAny (model prog w) A (richCompare .Eq v (.ref x)) (fun u s' => ∃ r, u = .bool r ∧ Q r s') E s) : wpAny (model prog w) A (eqBool v (.ref x)) Q E s := by
  unfold eqBool
  refine wpAny_holding ?_
  rw [if_neg (by rw [hne]; decide)]
  have fin : wpAny (model prog w) A (do let y ← richCompare CmpOp.Eq v (.ref x); truthOfDropped y) Q E s := by
    refine wpAny_bind (wpAny_mono h (fun u s' hv => ?_) fun _ _ x => x)
    obtain ⟨r, rfl, q⟩ := hv
    exact wpAny_truthy_bool q
  cases v with
  | float b t => exact absurd rfl (hfl b t)
  | _ => exact fin
theorem tuple_contains2 {t : Addr} {y1 y2 z : Value} {P : Fin → Shared → Prop} (ht : IsTup s.heap t #[y1, y2])
    (h : wpAny (model prog w) A (eqBool y1 z) (fun r s1 => r = false ∧ wpAny (model prog w) A (eqBool y2 z) (fun r s2 => r = false ∧ P (.done (.ret (.bool false))) s2) E s1) E s) :
    wpAny (model prog w) A (Builtin.«tuple.__contains__» ⟨[.ref t, z], []⟩) P E s := by
  show wpAny _ _ (Builtin.Tuple.tupleItemsOf (.ref t) >>= _) _ _ s
  refine wpAny_bind (tupleItemsOf_ ht ?_)
  refine wpAny_bind (forIn_array_ _ (fun rest b s' => b.1 = none ∧ ((rest = [y1, y2] ∧ wpAny (model prog w) A (eqBool y1 z) (fun r s1 => r = false ∧ wpAny (model prog w) A (eqBool y2 z) (fun r s2 => r = false ∧ P (.done (.ret (.bool false))) s2) E s1) E s') ∨ (rest = [y2] ∧ wpAny (model prog w) A (eqBool y2 z) (fun r s2 => r = false ∧ P (.done (.ret (.bool false))) s2) E s') ∨ (rest = [] ∧ P (.done (.ret (.bool false))) s'))) _ ?_ ?_ _ _ ⟨rfl, .inl ⟨rfl, h⟩⟩)
  · rintro y rest b s' ⟨hb, hz | hz | hz⟩
    · obtain ⟨e, q⟩ := hz
      obtain ⟨rfl, rfl⟩ := List.cons.inj e
      refine wpAny_bind (wpAny_mono q (fun r s1 q1 => ?_) fun _ _ x => x)
      obtain ⟨rfl, q1⟩ := q1
      exact wpAny_pure ⟨rfl, .inr (.inl ⟨rfl, q1⟩)⟩
    · obtain ⟨e, q⟩ := hz
      obtain ⟨rfl, rfl⟩ := List.cons.inj e
      refine wpAny_bind (wpAny_mono q (fun r s1 q1 => ?_) fun _ _ x => x)
      obtain ⟨rfl, q1⟩ := q1
      exact wpAny_pure ⟨rfl, .inr (.inr ⟨rfl, q1⟩)⟩
    · cases hz.1
  · rintro ⟨b1, b2⟩ s' ⟨hb, hz | hz | hz⟩
    · cases hz.1
    · cases hz.1
    · simp only at hb
      subst hb
      exact wpAny_pure hz.2
theorem contains2 {t : Addr} {y1 y2 z : Value} {Q : Bool → Shared → Prop} (ht : IsTup s.heap t #[y1, y2])
    (h : wpAny (model prog w) A.in1 (eqBool y1 z) (fun r s1 => r = false ∧ wpAny (model prog w) A.in1 (eqBool y2 z) (fun r s2 => r = false ∧ Q false s2) E s1) E s) :
    wpAny (model prog w) A (contains (.ref t) z) Q E s := by
  unfold contains
  refine wpAny_holding ?_
  have e0 : stdlibNamesSay? (.ref t) z = none := rfl
  rw [e0]
  refine wpAny_bind (wpAny_specialOf ht.typeIs slot_tuple_contains.lookup ?_)
  rw [if_neg (by decide)]
  refine wpAny_bind (wpAny_callSpecialUnlessNone?_slot (name := Str.ofString "__contains__") ht.typeIs slot_tuple_contains
    (wpAny_call_entry slot_tuple_contains ht.typeIs entry_tuple_contains (tuple_contains2 ht (wpAny_mono h (fun r s1 q => ⟨q.1, wpAny_mono q.2 (fun r s2 q => ⟨q.1, ⟨_, rfl, wpAny_truthy_bool q.2⟩⟩) fun _ _ x => x⟩) fun _ _ x => x)) (args_tuple_contains _ _)))
end
section
variable {X : Cx} {k j : Nat} {C : Addr} {sp : Sp}
def rEqX (K : PySem.W.Frag) (C : Addr) (sp : Sp) : R2 := fun x y H Q => ∃ a dx fs z, x = .ref a ∧ y = .str z ∧ H a = some (.ins C dx fs) ∧ sp [.ref a, y] H (fun v H' => ∃ t : Bool, v = .bl t ∧ Q (.bl t) H') C8.E0
theorem op_eqX (c : C8.Met X.prog X.w X.K X.mg X.base k C "__eq__" sp []) (nf : PySem.W.notFirst X.K C (.type "str") = true) (hr : Room j X.A) (hk : k ≤ j) : OpR X (compareOp .Eq) (rEqX X.K C sp) := by
  intro pins s σ H x y v u Q I rx ry h
  obtain ⟨a, dx, fs, z, rfl, rfl, ha, hsp⟩ := h
  obtain ⟨f, fd, ps, ds, _, me, F, bn, d⟩ := c.ex
  obtain rfl := vals_nil d
  cases rx
  obtain ⟨tk, rfl⟩ := ry
  obtain ⟨mA, J, _⟩ := ins_get I.hok ha
  obtain ⟨od, J, _⟩ := J.look
  obtain ⟨m, hF⟩ := I.fr
  have sb : Sub X k X.A := ⟨hr.mono hk, rfl⟩
  have ty : PySem.W.Looks (model X.prog X.w) s.heap (typeOf (.str z tk)) (.type "str") := fun A Q E s k q => wpAny_typeOf (show s.TypeIs (.str z tk) "str" from rfl) q
  show wpAny (model X.prog X.w) X.A (richCompare .Eq (.ref a) (.str z tk)) (EP X pins σ Q) X.xe s
  refine PySem.W.cmp_K (op := .Eq) (tb := .type "str") sb.room.units0 hF I.ok.mod.kin J ty nf me.at_ me.fn ?_
  refine wpAny_mono (run_sub (vs := [.ref a, .str z]) F sb bn C8.pass0 I (.cons rfl (.cons ⟨tk, rfl⟩ .nil)) hsp) (fun u s' q => ?_) fun _ _ x => x
  obtain ⟨v, H', I', ru, t, ez, q⟩ := q
  subst ez
  cases (show u = Value.bool t from ru)
  exact ⟨.bl t, H', I', rfl, q⟩
def rIn2 (K : PySem.W.Frag) (C : Addr) (sp : Sp) : R2 := fun x y H Q => ∃ a p t dx fs ys, x = .ref a ∧ y = .ref p ∧ H a = some (.ins C dx fs) ∧ H p = some (.tup [.ref t, .non]) ∧ SqT K H t ys ∧ t ≠ a ∧
  sp [.ref a, .ref t] H (fun v H1 => v = .bl false ∧ H1 a = some (.ins C dx fs) ∧ sp [.ref a, .non] H1 (fun v H2 => v = .bl false ∧ Q (.bl false) H2) C8.E0) C8.E0
theorem op_in2 (c : C8.Met X.prog X.w X.K X.mg X.base k C "__eq__" sp []) (n1 : PySem.W.subIn X.K (.ref C) (.type "tuple") = some false) (n2 : PySem.W.subIn X.K (.ref C) (.type "NoneType") = some false) (hr : Room j X.A) (hk : k + 1 ≤ j) : OpR X (compareOp .In) (rIn2 X.K C sp) := by
  intro pins s σ H x y v u Q I rx ry h
  obtain ⟨a, p, t, dx, fs, ys, rfl, rfl, ha, hp, ht, hta, hsp⟩ := h
  obtain ⟨f, fd, ps, ds, _, me, F, bn, d⟩ := c.ex
  obtain rfl := vals_nil d
  cases rx
  cases ry
  obtain ⟨its, r, hz, _⟩ := I.tuple (SqT.of hp)
  obtain ⟨its2, r2, hz2, _⟩ := I.tuple ht
  cases r with
  | cons r1 rr =>
    cases rr with
    | cons r3 rr =>
      cases rr
      cases r1
      cases r3
      obtain ⟨mA, J, _⟩ := ins_get I.hok ha
      obtain ⟨od, J, _⟩ := J.look
      have sb1 : Sub X (k + 1) X.A := ⟨hr.mono hk, rfl⟩
      have sb := sb1.in1
      show wpAny (model X.prog X.w) X.A (do return .bool (← contains (.ref p) (.ref a))) (EP X pins σ Q) X.xe s
      refine wpAny_bind (contains2 hz ?_)
      have ty : PySem.W.Looks (model X.prog X.w) s.heap (typeOf (.ref t)) (.type "tuple") := fun A Q E s k q => by
        obtain ⟨o, ho, hc, _⟩ := hz2
        exact wpAny_typeOf_ref (k _ _ ho) (by rw [hc]; exact q)
      refine eqBool_rev (by rw [beq_eq_false_iff_ne]; intro z; exact hta (Value.ref.inj z)) (fun _ _ z => nomatch z) (cmp_rev sb.room.units0 I.kIn J ty rfl n1 (decl_tup hz2 I.kIn J n1) me.at_ me.fn ?_)
      refine wpAny_mono (run_sub (vs := [.ref a, .ref t]) F sb bn C8.pass0 I (.cons rfl (.cons rfl .nil)) hsp) (fun u s' q => ?_) fun _ _ x => x
      obtain ⟨v, H', I', ru, ez, ha', q⟩ := q
      subst ez
      cases (show u = Value.bool false from ru)
      refine ⟨false, rfl, false, rfl, rfl, ?_⟩
      obtain ⟨mA', J', _⟩ := ins_get I'.hok ha'
      obtain ⟨od', J', _⟩ := J'.look
      have ty2 : PySem.W.Looks (model X.prog X.w) s'.heap (typeOf .none) (.type "NoneType") := fun A Q E s k q => wpAny_typeOf (show s.TypeIs .none "NoneType" from rfl) q
      refine eqBool_rev rfl (fun _ _ z => nomatch z) (cmp_rev sb.room.units0 I'.kIn J' ty2 rfl n2 decl_none me.at_ me.fn ?_)
      refine wpAny_mono (run_sub (vs := [.ref a, .non]) F sb bn C8.pass0 I' (.cons rfl (.cons rfl .nil)) q) (fun u s2 q => ?_) fun _ _ x => x
      obtain ⟨v, H2, I2, ru, ez, q⟩ := q
      subst ez
      cases (show u = Value.bool false from ru)
      exact ⟨false, rfl, false, rfl, rfl, wpAny_pure ⟨.bl false, H2, I2, rfl, q⟩⟩
end
end Lx
set_option maxRecDepth 100000
set_option maxHeartbeats 4000000
namespace Lx
open PySem PySem.Spec PyProof.Rows L2
def pick {α : Type} (is : List Nat) (zs : List α) : List α := is.filterMap fun i => zs[i]?
def pickM (is : List Nat) (v : V) (zs : List V) : List V := v :: pick is zs
theorem vals_get : ∀ {zs : List V} {ws : List Value}, Vals zs ws → ∀ i : Nat, (∃ v u, zs[i]? = some v ∧ ws[i]? = some u ∧ RelV v u) ∨ (zs[i]? = none ∧ ws[i]? = none)
  | _, _, .nil, _ => .inr ⟨rfl, rfl⟩
  | _, _, .cons h _, 0 => .inl ⟨_, _, rfl, rfl, h⟩
  | _, _, .cons _ r, i + 1 => vals_get r i
theorem vals_pick {zs : List V} {ws : List Value} : ∀ (is : List Nat), Vals zs ws → Vals (pick is zs) (pick is ws)
  | [], _ => .nil
  | i :: is, r => by
    show Vals (List.filterMap _ (i :: is)) (List.filterMap _ (i :: is))
    rw [List.filterMap_cons, List.filterMap_cons]
    rcases vals_get r i with ⟨v, u, h1, h2, h3⟩ | ⟨h1, h2⟩
    · rw [h1, h2]; exact .cons h3 (vals_pick is r)
    · rw [h1, h2]; exact vals_pick is r
structure CalK (P : Program) (w : World) (K : PySem.W.Frag) (mg : Str → Option Value) (base : Heap) (k : Nat) (x : Str) (sp : Sp) (ks : List Str) (gV : List V → List V) : Prop where
  ex : ∃ (f : Addr) (fd : FuncData) (ps : List Str) (g : List Value → List Value → List Value), FnOk P w K mg base C8.CX0 k f fd ps sp ∧ mg x = some (.ref f) ∧ PySem.W.keepIn K (.ref f) = true ∧ KBn K fd ps 0 ks g (fun _ zs => gV zs)
structure MetK (P : Program) (w : World) (K : PySem.W.Frag) (mg : Str → Option Value) (base : Heap) (k : Nat) (C : Addr) (m : Str) (sp : Sp) (ks : List Str) (gV : V → List V → List V) : Prop where
  ex : ∃ (f : Addr) (fd : FuncData) (ps : List Str) (g : List Value → List Value → List Value), Cls K C ∧ Meth K C m f ∧ FnOk P w K mg base C8.CX0 k f fd ps sp ∧ KBn K fd ps 1 ks g (fun vs zs => gV (vs.headD .non) zs)
structure MakK (P : Program) (w : World) (K : PySem.W.Frag) (mg : Str → Option Value) (base : Heap) (k : Nat) (x : Str) (C : Addr) (sp : Sp) (ks : List Str) (gV : V → List V → List V) : Prop where
  ex : ∃ (f : Addr) (fd : FuncData) (ps : List Str) (g : List Value → List Value → List Value), Mk K C f ∧ FnOk P w K mg base C8.CX0 k f fd ps sp ∧ mg x = some (.ref C) ∧ KBn K fd ps 1 ks g (fun vs zs => gV (vs.headD .non) zs)
def tCallW (m : Nat) (sp : Sp) (gV : List V → List V) (tk : TA) : TE := fun σ H Q => tk σ H fun zs H1 => zs.length = m ∧ sp (gV zs) H1 Q C8.E0
def tMethW (C : Addr) (m : Str) (n : Nat) (sp : Sp) (gV : V → List V → List V) (ta : TE) (tk : TA) : TE := fun σ H Q => ta σ H fun x H1 => ∃ a dx fs, x = .ref a ∧ H1 a = some (.ins C dx fs) ∧ fs.lookup m = none ∧
  tk σ H1 fun zs H2 => zs.length = n ∧ sp (gV x zs) H2 Q C8.E0
def tMakeW (C : Addr) (n : Nat) (sp : Sp) (gV : V → List V → List V) (tk : TA) : TE := fun σ H Q => tk σ H fun zs H1 => zs.length = n ∧ ∀ x dx, H1 x = none → H1 dx = none → dx ≠ x →
  sp (gV (.ref x) zs) (upd (upd H1 dx (.own x)) x (.ins C dx [])) (fun v H2 => v = .non ∧ Q (.ref x) H2) C8.E0
section
variable {X : Cx} {k j : Nat} {C : Addr} {sp : Sp} {x m : Str} {p pos apos : Pos} {kws : List Keyword} {tk : TA} {ta : TE} {o : Expr} {ks : List Str} {gV : List V → List V} {gW : V → List V → List V}
theorem pe_cK (c : CalK X.prog X.w X.K X.mg X.base k x sp ks gV) (hr : Room j X.A) (hk : k ≤ j) (hg : Gl X x) (hkw : PK X kws tk) (hall : (backToKw pos (keywordEach kws X.env)).all (·.1.isSome) = true := by rfl) (hks : (backToKw pos (keywordEach kws X.env)).filterMap (·.1) = ks := by rfl)
    (hdb : (x == ("__debug__" : Str)) = false := by decide) (hpl : ((backTo pos (starEach [] X.env)).any (·.1) || (backToKw pos (keywordEach kws X.env)).any (·.1.isNone)) = false := by rfl) :
    PE X (.Call (.Name x p) [] kws pos) (tCallW ks.length sp gV tk) := by
  obtain ⟨f, fd, ps, g, F, hm, kp, b⟩ := c.ex
  refine ⟨fun pins s σ H Q I h => ?_⟩
  refine wpAny_Call_Name_kw (ld_glob I hg hm ?_ hdb)
  refine PySem.W.callWith_KW0 (first := []) (h₀ := X.base) I.ok.mod.kin kp hall (thn (hkw.run pos pins s σ H _ I h) fun ws s2 ⟨zs, H2, I2, rz, l2, q2⟩ => ⟨I2.kIn, ?_⟩) hpl
  rw [hks]
  exact run_fnN (us := []) (vs := []) F (hr.mono hk) b C8.pass0 I2 .nil rz rfl l2 q2
theorem pe_mtK {pl : Sem Bool} (c : MetK X.prog X.w X.K X.mg X.base k C m sp ks gW) (hr : Room j X.A) (hk : k ≤ j) (he : PE X o ta) (hkw : PK X kws tk) (hall : (backToKw pos (keywordEach kws X.env)).all (·.1.isSome) = true := by rfl) (hks : (backToKw pos (keywordEach kws X.env)).filterMap (·.1) = ks := by rfl)
    (hpl : ((backTo pos (starEach [] X.env)).any (·.1) || (backToKw pos (keywordEach kws X.env)).any (·.1.isNone)) = false := by rfl)
    (ht : eval (.Call (.Attribute o m apos) [] kws pos) X.env = (do
      let ov ← eval o X.env
      standAt apos.atName
      let (f, first) ← holding [ov] (getMethod ov m pl)
      callWith pos f first (backTo pos (starEach [] X.env)) (backToKw pos (keywordEach kws X.env))) := by rfl) :
    PE X (.Call (.Attribute o m apos) [] kws pos) (tMethW C m ks.length sp gW ta tk) := by
  obtain ⟨f, fd, ps, g, hc, hm, F, b⟩ := c.ex
  refine ⟨fun pins s σ H Q I h => ?_⟩
  refine PySem.W.methodCall_KW (pl := pl) (thn (he.run pins s σ H _ I h) fun u s1 ⟨x, H1, I1, rx, a, dx, fs, ex, ea, l, q⟩ => ?_) ht
  subst ex
  obtain rfl : u = Value.ref a := rx
  refine getmeth_ok I1 ea hc hm l ?_
  refine PySem.W.callWith_KW0 (first := [.ref a]) (h₀ := X.base) I.ok.mod.kin hm.kp hall (thn (hkw.run pos pins s1 σ H1 _ I1 q) fun ws s2 ⟨zs, H2, I2, rz, l2, q2⟩ => ⟨I2.kIn, ?_⟩) hpl
  rw [hks]
  exact run_fnN (us := [.ref a]) (vs := [.ref a]) F (hr.mono hk) b C8.pass0 I2 (.cons rfl .nil) rz rfl l2 q2
theorem pe_mkK (c : MakK X.prog X.w X.K X.mg X.base k x C sp ks gW) (hr : Room j X.A) (hk : k + 1 ≤ j) (hg : Gl X x) (hkw : PK X kws tk) (hall : (backToKw pos (keywordEach kws X.env)).all (·.1.isSome) = true := by rfl) (hks : (backToKw pos (keywordEach kws X.env)).filterMap (·.1) = ks := by rfl)
    (hdb : (x == ("__debug__" : Str)) = false := by decide) (hpl : ((backTo pos (starEach [] X.env)).any (·.1) || (backToKw pos (keywordEach kws X.env)).any (·.1.isNone)) = false := by rfl) :
    PE X (.Call (.Name x p) [] kws pos) (tMakeW C ks.length sp gW tk) := by
  obtain ⟨f, fd, ps, g, M, F, hm, b⟩ := c.ex
  refine ⟨fun pins s σ H Q I h => ?_⟩
  refine wpAny_Call_Name_kw (ld_glob I hg hm ?_ hdb)
  refine PySem.W.callWith_KW0 (first := []) (h₀ := X.base) I.ok.mod.kin M.kp hall (thn (hkw.run pos pins s σ H _ I h) fun ws s2 ⟨zs, H2, I2, rz, l2, q2⟩ => ⟨I2.kIn, ?_⟩) hpl
  rw [hks]
  exact run_makeN (n := 0) (us := []) (vs := []) M F (hr.mono hk) b C8.pass0 I2 .nil rz rfl l2 q2
end
end Lx
set_option maxRecDepth 100000
set_option maxHeartbeats 4000000
namespace ExS
open PySem PySem.Spec PyProof.Rows L2 NdefX
def spXI (C : Addr) (fld : Str) : Sp := fun vs H Q _ => ∃ (a : Addr) (v : V), vs = [.ref a, v] ∧ H a = some (exo a C none) ∧
  ∀ dx, H dx = none → dx ≠ a → Q .non (upd (upd H dx (exd dx [(fld, v)])) a (exo a C (some dx)))
theorem call_mw {X : Cx} {pins : List (Addr × Obj)} {σ : L2.St} {H : Hp} {s : Shared} {a C u : Addr} {us : List Value} {Q : Value → Shared → Prop} {E : Value → Shared → Prop} {A : Around}
    (T : OexC X.K C) (I : Inv X pins σ H s) (e : H a = some (exo a C none)) (hu : s.heap.get? u = some (PySem.W.kxs_mw "ValueError.__init__" a)) (hl : us.length ≤ sizeLine) (h : ∀ s', Inv X pins σ H s' → Q .none s') :
    wpAny (model X.prog X.w) A (call (.ref u) us) Q E s := by
  obtain ⟨nm, q, N, bs, bm, sn, sub, ab, col, dd, k0, k1, k2, k3, k5, hC, hbm⟩ := T.cls
  obtain ⟨t1, ho⟩ := exo_at I.hok e
  obtain ⟨hp, g, d, t, os⟩ := s
  have fin : ∀ h' : Heap, (∀ b o, b ≠ a → hp.get? b = some o → h'.get? b = some o) → h'.get? a = some (PySem.W.excObj C hp.objs.size none .none) → Q .none ⟨h', g, d, t, os⟩ := fun h' k hx => by
    have J := I.write (t' := t) (x := a) (e := a) (o := exo a C none) (by rw [e]; exact True.intro) (.inl rfl) k ⟨_, hx⟩ (exo_ok hx)
    have eu : upd H a (exo a C none) = H := funext fun b => by
      by_cases hb : b = a
      · rw [hb, upd_same, e]
      · rw [upd_ne hb]
    rw [eu] at J
    exact h _ J
  refine wpAny_call (codeAny_of_tree ?_)
  show wpAny _ A.in1 (callAny (.ref u) ⟨us, []⟩) _ _ _
  simp only [callAny]
  refine wpAny_bind (wpAny_load hu ?_)
  simp only [PySem.W.kxs_mw, show (Value.type "method-wrapper" == Value.type "method" || Value.type "method-wrapper" == Value.type "builtin_function_or_method" || Value.type "method-wrapper" == Value.type "method-wrapper") = true by decide, if_true]
  refine PySem.W.KFB.if_so (by decide) ?_
  refine wpAny_bind (PySem.W.check_bound_init F.excBase_ValueError.toExcCallFacts (I.kIn _ _ hC) ho rfl ?_)
  refine wpAny_bind (wpAny_pure (wpAny_pure ?_))
  refine ⟨plainId_quiet F.excBase_ValueError.init.plain _, codeAny_builtin F.excBase_ValueError.initEntry ?_⟩
  exact PySem.W.exc_init_tree (cls := .ref C) (t0 := t1) (dv := none) (c2 := .none) (c3 := .none) (b4 := .bool false) ho hl fun h' k hx _ => fin h' k hx
def Body2 (self word fld text : Str) (body : List Stmt) : Prop := ∃ (p0 p1 p2 p3 p4 p5 p6 p7 p8 p9 p10 : Pos) (j : Nat), body = [.Expr (.Call (.Attribute (.Call (.Name "super" p0) [] [] p1) "__init__" p2) [.Constant (.str text) j p3, .Name word p4] [] p5) p6, .Assign [.Attribute (.Name self p7) fld p8] (.Name word p9) p10] ∧ (p2.endLine == p5.line) = true
theorem eval_sup {o : Expr} {name : Str} {apos pos : Pos} {e1 e2 : Expr} {env : Env} (hl : (apos.endLine == pos.line) = true) (h1 : starEach [e1, e2] env = [(false, eval e1 env), (false, eval e2 env)]) :
    eval (.Call (.Attribute o name apos) [e1, e2] [] pos) env = (do
      let ov ← attributeBase o name env (eval o env)
      standAt apos.atName
      let (f, first) ← holding [ov] (getMethod ov name (do return (← importBound o env).getD true))
      callWith pos f first (backTo pos (starEach [e1, e2] env)) []) := by
  have hp : methodCallPos true o env apos pos = pure pos := by unfold methodCallPos; rw [hl]; rfl
  show (do
    let ov ← attributeBase o name env (eval o env)
    standAt apos.atName
    methodCall o name apos pos env ov 2 (backTo pos (starEach [e1, e2] env)) []) = _
  rw [h1]
  have hm : ∀ ov, methodCall o name apos pos env ov 2 (backTo pos [(false, eval e1 env), (false, eval e2 env)]) [] = (do
      let (f, first) ← holding [ov] (getMethod ov name (do return (← importBound o env).getD true))
      callWith pos f first (backTo pos [(false, eval e1 env), (false, eval e2 env)]) []) := fun ov => by
    unfold methodCall
    have hf : methodCallForm 2 (backTo pos [(false, eval e1 env), (false, eval e2 env)]) [] = true := rfl
    rw [hf, hp]
    rfl
  simp only [hm]
structure ExF (P : Program) (K : PySem.W.Frag) (mg : Str → Option Value) (C : Addr) (fld : Str) (f cc cda : Addr) (file : Str) : Prop where
  T : OexC K C
  no : PySem.W.findIn K (.ref C) fld = some none
  cell : ∃ cl cld csl, K.lookup cc = some ⟨cl, cld, .cell (some (.ref C)), csl⟩
  code : ∃ ccl cdd vs ccs tf, K.lookup cda = some ⟨ccl, cdd, .fields vs, ccs⟩ ∧ vs[2]? = some (.str file tf)
  file : ((P.main.file : Str) == file) = true
  top : (P.main.scope.names.lookup ("super" : Str)).isSome = false
  sub : PySem.W.mroIn K C (.ref C) = some true
  sup : mg "super" = none
  opq : PySem.W.nsIn K cStatics "thirdparty.any" = some none
  ini : PySem.W.ks_superIn K C C "__init__" = some (some (.builtin "ValueError.__init__"))
  ve : PySem.W.subIn K (.ref C) (.type "ValueError") = some true
theorem fn_exc {P : Program} {w : World} {K : PySem.W.Frag} {mg : Str → Option Value} {base : Heap} {C f cc cda : Addr} {name qual self word fld text file : Str} {params : Arguments} {body : List Stmt} {scope : Scope} {dV kV doc pm ct oc : Value} {an od : Option Addr} {osl : Array (Option Value)} {ar : Arg} {k : Nat}
    (X : ExF P K mg C fld f cc cda file) (lk : K.lookup f = some ⟨oc, od, .func (PySem.W.fnX name qual params body scope [("__class__", cc)] dV kV doc pm an (.ref cda) ct), osl⟩) (hcd : PySem.W.codeIn K (.ref cda) qual = true)
    (S : NScope [self, word, "__class__"] [self, word] ["__class__"] scope) (hks : scope.names.lookup ("super" : Str) = some .globalImplicit) (hp : (params.posonlyargs ++ params.args).head? = some ar) (har : ar.arg = self) (hb2 : Body2 self word fld text body) (hd0 : (self == ("__debug__" : Str)) = false) (hd1 : (word == ("__debug__" : Str)) = false) (hc0 : (self == ("__classdict__" : Str)) = false) (hc1 : (word == ("__classdict__" : Str)) = false) :
    FnOk P w K mg base CX0 (k + 1) f (PySem.W.fnX name qual params body scope [("__class__", cc)] dV kV doc pm an (.ref cda) ct) [self, word] (spXI C fld) := by
  refine ⟨fun vs H Q E h => by obtain ⟨_, _, rfl, _⟩ := h; rfl, fun A outer s H args us vs Q E hr e0 hb r hsp => ?_⟩
  obtain ⟨a, v, rfl, ha, kk⟩ := hsp
  obtain ⟨u1, rfl, rv⟩ : ∃ u1, us = [.ref a, u1] ∧ RelV v u1 := by
    cases r with
    | @cons _ u0 _ ur ra rr =>
      obtain rfl : u0 = Value.ref a := ra
      cases rr with
      | @cons _ u1 _ ur2 rv rn =>
        cases rn
        exact ⟨u1, rfl, rv⟩
  have KX : K.In s.heap := e0.mod.kin.keeps fun b o e => (e0.bs b o e).1
  have lim : s.heap.NoLimit := e0.mod.nolimit.keeps fun b o e => (e0.bs b o e).1
  obtain ⟨cl, cld, csl, lcc⟩ := X.cell
  obtain ⟨ccl, cdd, cvs, ccs, tf, lcd, hvs⟩ := X.code
  refine codeAny_call_function hr.depth (KX _ _ lk) rfl S.co S.gen rfl (PySem.W.codeRec_of KX hcd) (hb _ _ _ _ ?_)
  refine wpAny_newFunctionEnv S.nocell (fun ⟨n, _⟩ hy => S.par n (List.of_mem_zip hy).1) (fun h₁ hns hsb => ⟨lim.fresh _ hsb, ?_⟩) S.kind
  show codeAny _ _ (.func body (PySem.W.envX qual scope s.heap.objs.size f (.ref cda) [("__class__", cc)])) _ _
  refine ks_codeAny_funcAt ?_
  have kp : ∀ b o, s.heap.get? b = some o → h₁.get? b = some o := fun b o e => hsb.extBut b o (Nat.ne_of_lt (Heap.lt_size e)) (Heap.get?_push_of_some _ e)
  have hcb := e0.bs _ _ (e0.mod.kin _ _ lcc)
  have C0 : CellsAt [("__class__", cc)] ["__class__"] [some (.ref C)] s.heap H := by
    have one : ∀ y c, ([("__class__", cc)] : List (Str × Addr)).lookup y = some c → y = "__class__" ∧ c = cc := fun y c e => by
      rw [List.lookup_cons] at e
      split at e
      · rename_i z
        exact ⟨eq_of_beq z, (Option.some.inj e).symm⟩
      · cases e
    refine ⟨rfl, fun y c e => ?_, fun x y c e1 e2 => (one x c e1).1.trans (one y c e2).1.symm, fun i y e => ?_⟩
    · rw [(one y c e).2]
      exact ⟨hcb.2, _, _, hcb.1, rfl⟩
    · match i, e with
      | 0, e =>
        rw [← Option.some.inj e]
        exact ⟨cc, rfl, fun v hv => ⟨.ref C, by cases hv; exact rfl, _, hcb.1, rfl⟩⟩
  have I : Inv (ncx CX0 P w K mg base [self, word, "__class__"] ⟨name, qual, params, body, scope, [("__class__", cc)], cda⟩ f A outer s H E) [] (startF [self, word, "__class__"] [.ref a, v] [some (.ref C)]) H { s with heap := h₁, toks := s.toks + ([self, word].zip [Value.ref a, u1]).length } :=
    inv_startN (F := ⟨name, qual, params, body, scope, [("__class__", cc)], cda⟩) S hr.hd e0 rfl r C0 hns kp
  have KX1 : K.In h₁ := KX.keeps kp
  obtain ⟨p0, p1, p2, p3, p4, p5, p6, p7, p8, p9, p10, j, rfl, hline⟩ := hb2
  have hkc : scope.names.lookup ("__class__" : Str) = some .free := S.frk _ (List.mem_singleton.mpr rfl)
  have hself : scope.names.lookup self = some .local := S.par _ List.mem_cons_self
  have hword : scope.names.lookup word = some .local := S.par _ (List.mem_cons_of_mem _ List.mem_cons_self)
  obtain ⟨nm, q, N, bs, bm, sn, sub, ab, col, dd, k0, k1, k2, k3, k5, hC, hbm⟩ := X.T.cls
  have hcl : PySem.W.clsIn K C = some { name := nm, bases := bs, mro := .ref C :: bm, ns := N, qualname := q, hasDict := true, slotNames := sn, subclasses := sub, abstract := ab, collection := col, hasDel := false } := by unfold PySem.W.clsIn; rw [hC] <;> rfl
  obtain ⟨t1, hoa⟩ := exo_at I.hok ha
  obtain ⟨mb, b1, b2⟩ := I.mod.blt
  have boot : bootBuiltins "super" = some (.type "super") := by first | boot_by_name | rfl | kernel_rfl
  have hne : a ≠ C := fun z => by
    have := KX1 _ _ hC
    rw [← z, hoa] at this
    cases this
  refine ks_wpAt_execs_cons (ks_wpAt_Expr_any (ks_wpAt_MethodCall ?_ (eval_sup hline rfl)) I.quiet rfl)
  refine ks_wpAt_super_base (f := f) (cc := cda) hks hkc (by decide) rfl (KX1 _ _ lk) rfl hp rfl (KX1 _ _ lcd) rfl hvs X.file X.top ?_
  refine PySem.W.ks_loadName_global I.ok.kind hks (Calls.loadGlobal_builtin (I.mod.glob.keeps I.bk) X.sup (b1.keeps I.bk) ((b2 _ (by decide)).trans boot) ⟨rfl, ?_⟩)
  refine wpAny_loadName_free I.ok.kind hkc rfl ⟨_, kp _ _ hcb.1, rfl⟩ ?_
  rw [har]
  have ndp : [self, word].Nodup := (List.nodup_append.mp (show ([self, word] ++ [("__class__" : Str)]).Nodup from S.nd)).1
  refine wpAny_loadName_local I.ok.kind hself hns (zip_look (i := 0) ndp rfl rfl) ?_
  refine ks_wpAny_isType_cls (KX1 _ _ hC) rfl ⟨rfl, ?_⟩
  refine ks_wpAny_call_super (KX1 _ _ hC) rfl hoa rfl (fun c z => by cases z) (PySem.W.looks_mroIn KX1 X.sub) (fun h2 e2 kq => ?_)
  have I2 := I.kept (h' := h2) (t' := s.toks + ([self, word].zip [Value.ref a, u1]).length) kq
  have KX2 : K.In h2 := KX1.keeps kq
  have hoa2 := kq _ _ hoa
  have hal : PySem.W.alongIn K "__init__" (((Value.ref C :: bm).dropWhile (· != .ref C)).drop 1) = some (some (.builtin "ValueError.__init__")) := by
    have := X.ini
    unfold PySem.W.ks_superIn at this
    rw [hcl] at this
    exact this
  have IA : PySem.W.InstAt h2 a (PySem.W.excObj C t1 none .none) C none := ⟨hoa2, rfl, rfl, trivial⟩
  refine PySem.W.kxs_getMethod PySem.W.kxs_ValueError (l₀ := .ref C :: bm) e2 (PySem.W.looks_opaque KX2 X.opq) ?_ rfl KX2 hal (IA.type.andThen (PySem.W.looks_subIn KX2 X.ve)) hne (by decide) ?_
  · exact fun A Q E s k q => wpAny_bind ((PySem.W.looks_clsIn KX2 hcl) A _ E s k (wpAny_pure q))
  have kp3 : ∀ b o, h2.get? b = some o → (h2.push (PySem.W.kxs_mw "ValueError.__init__" a)).get? b = some o := fun b o e => Heap.get?_push_of_some _ e
  have I3 := I2.kept (h' := h2.push (PySem.W.kxs_mw "ValueError.__init__" a)) (t' := s.toks + ([self, word].zip [Value.ref a, u1]).length + 1) kp3
  have hu3 : (h2.push (PySem.W.kxs_mw "ValueError.__init__" a)).get? h2.objs.size = some (PySem.W.kxs_mw "ValueError.__init__" a) := Heap.get?_push_at rfl rfl
  have I4 := I3.pins_of (pins' := [(h2.objs.size, PySem.W.kxs_mw "ValueError.__init__" a)]) fun p hp => by
    rw [List.mem_singleton.mp hp]
    exact ⟨hu3, I2.hok.fresh (Nat.le_refl _), (Nat.ne_of_lt I2.lt).symm, I2.nofs (Nat.le_refl _), fun v z => by cases z⟩
  have pw : PE (ncx CX0 P w K mg base [self, word, "__class__"] ⟨name, qual, params, [.Expr (.Call (.Attribute (.Call (.Name "super" p0) [] [] p1) "__init__" p2) [.Constant (.str text) j p3, .Name word p4] [] p5) p6, .Assign [.Attribute (.Name self p7) fld p8] (.Name word p9) p10], scope, [("__class__", cc)], cda⟩ f A outer s H E) (.Name word p4) (tVar 1) := pe_var rfl (.inl hword) hd1 hc1
  have pa := pa_cons (pe_str (x := text) (j := j) (pos := p3)) (pa_cons pw pa_nil)
  refine PySem.W.kxs_callWith (i := "ValueError.__init__") (x := a) rfl (PySem.Calls.evalArgs_plain (thn (pa.run p5 _ _ _ _ (fun vs H1 => vs = [.str text, v] ∧ H1 = H) I4 ⟨v, rfl, rfl, rfl⟩) fun ws s5 h5 => ?_))
  obtain ⟨vs5, H5, I5, r5, rfl, rfl⟩ := h5
  have hu5 := (I5.pin _ (List.mem_append_right _ (List.mem_singleton.mpr rfl))).1
  have l5 : ws.length ≤ sizeLine := by
    have := Paired.length r5
    rw [← this]
    show 2 ≤ sizeLine
    decide
  refine ⟨hu5, ?_⟩
  refine call_mw X.T (I5.pins_of (pins' := []) fun p hp => absurd hp (by exact List.not_mem_nil)) ha hu5 l5 fun s6 I6 => ?_
  have pself : PE (ncx CX0 P w K mg base [self, word, "__class__"] ⟨name, qual, params, [.Expr (.Call (.Attribute (.Call (.Name "super" p0) [] [] p1) "__init__" p2) [.Constant (.str text) j p3, .Name word p4] [] p5) p6, .Assign [.Attribute (.Name self p7) fld p8] (.Name word p9) p10], scope, [("__class__", cc)], cda⟩ f A outer s H5 E) (.Name self p7) (tVar 0) := pe_var rfl (.inl hself) hd0 hc0
  have pword : PE (ncx CX0 P w K mg base [self, word, "__class__"] ⟨name, qual, params, [.Expr (.Call (.Attribute (.Call (.Name "super" p0) [] [] p1) "__init__" p2) [.Constant (.str text) j p3, .Name word p4] [] p5) p6, .Assign [.Attribute (.Name self p7) fld p8] (.Name word p9) p10], scope, [("__class__", cc)], cda⟩ f A outer s H5 E) (.Name word p9) (tVar 1) := pe_var rfl (.inl hword) hd1 hc1
  have st := pss_one (ps_ost (f := fld) (p' := p8) (pos := p10) pself pword)
  refine wpAt_of_wpAny (wpAny_mono (st.run [] s6 _ H5 { nx := fun _ H' => Q .non H', rt := Q } I6 ⟨v, rfl, .ref a, rfl, a, C, rfl, X.T, X.no, .inl ⟨ha, fun dx n ne => kk dx n ne⟩⟩) (fun fl s7 hs => ?_) fun e s' hs => hs)
  cases fl with
  | ret u =>
    obtain ⟨v7, σ7, H7, J, r7, q7⟩ := hs
    exact ⟨v7, H7, J.os, J.bare, J.base, J.hok, r7, q7⟩
  | next =>
    obtain ⟨σ7, H7, J, q7⟩ := hs
    exact ⟨.non, H7, J.os, J.bare, J.base, J.hok, rfl, q7⟩
  | brk =>
    obtain ⟨_, _, _, q7⟩ := hs
    exact False.elim q7
  | cont =>
    obtain ⟨_, _, _, q7⟩ := hs
    exact False.elim q7
end ExS
set_option maxRecDepth 100000
set_option maxHeartbeats 4000000
namespace ExS
open PySem PySem.Spec PyProof.Rows L2
structure XMk (P : Program) (w : World) (K : PySem.W.Frag) (mg : Str → Option Value) (base : Heap) (k : Nat) (x : Str) (C : Addr) (fld : Str) : Prop where
  ex : ∃ (fI : Addr) (fd : FuncData) (ps : List Str), OexC K C ∧ PySem.W.findIn K (.ref C) "__init__" = some (some (.ref fI)) ∧ PySem.W.typeIn K (.ref fI) = some (.type "function") ∧ FnOk P w K mg base L2.CX0 k fI fd ps (spXI C fld) ∧ Binds K fd ps [] ∧ mg x = some (.ref C)
section
variable {X : Cx} {x fld : Str} {C : Addr} {k j : Nat} {p pos : Pos} {e : Expr} {es : List Expr} {ta : TA}
theorem pmk_x (c : XMk X.prog X.w X.K X.mg X.base k x C fld) (hr : Room j X.A) (hk : k + 1 ≤ j) (hg : Gl X x) (ha : PA X (e :: es) ta)
    (hdb : (x == ("__debug__" : Str)) = false := by decide) (he : starEach (e :: es) X.env = (false, eval e X.env) :: starEach es X.env := by rfl) (hpl : (backTo pos (starEach es X.env)).any (·.1) = false := by rfl) :
    PMk X (.Call (.Name x p) (e :: es) [] pos) (tMkO C (spXI C fld) [] ta) := by
  obtain ⟨fI, fd, ps, T, iC, tI, F, b, hm⟩ := c.ex
  exact pmk_oex T iC tI F (hr.mono hk) b .nil L2.pass0 hg hm ha hdb he hpl
end
theorem exo_exd {a C d : Addr} {o : Option Addr} {fs : List (Str × V)} {H : Hp} (h1 : H a = some (exo a C o)) (h2 : H d = none) : d ≠ a := fun z => by
  rw [z, h1] at h2
  cases h2
theorem rd_x {C : Addr} {fld : Str} {H1 : Hp} {v : V} {Q : XK} (k : ∀ d H', Same H1 H' → H1 d = none → H' d = some (.xd [(fld, v)]) → Q (.ref C) (some d) H') :
    [v].length ≤ 1000 ∧ ∀ a, H1 a = none → spXI C fld (.ref a :: ([v] ++ [])) (upd H1 a (exo a C none)) (fun w H2 => w = .non ∧ ∃ (d : Addr) (fs : List (Str × V)), H2 a = some (exo a C (some d)) ∧ H2 d = some (exd d fs) ∧ H1 d = none ∧ Q (.ref C) (some d) (upd (del H2 a) d (.xd fs))) (fun _ _ _ => False) := by
  refine ⟨by show 1 ≤ 1000; decide, fun a na => ⟨a, v, rfl, upd_same, fun dx nd ne => ⟨rfl, dx, [(fld, v)], upd_same, by rw [upd_ne ne, upd_same], ?_, ?_⟩⟩⟩
  · rw [upd_ne ne] at nd
    exact nd
  · rw [upd_ne ne] at nd
    refine k dx _ (fun b o e => ?_) nd upd_same
    have b1 : b ≠ a := ne_of_none e na
    have b2 : b ≠ dx := ne_of_none e nd
    rw [upd_ne b2, del_ne b1, upd_ne b1, upd_ne b2, upd_ne b1]
    exact e
theorem takes0 {X : Cx} : L2.Takes X (fun _ _ _ _ => False) := fun _ _ ⟨_, _, _, _, _, _, _, _, _, _, _, _, _, _, _, _, w⟩ => w.elim
structure MakX (P : Program) (w : World) (K : PySem.W.Frag) (mg : Str → Option Value) (base : Heap) (k : Nat) (x : Str) (C : Addr) (sp : Sp) (dvs : List V) : Prop where
  ex : ∃ (f : Addr) (fd : FuncData) (ps : List Str) (ds : List Value), Mk K C f ∧ FnOk P w K mg base (L2.CX P w) k f fd ps sp ∧ mg x = some (.ref C) ∧ Binds K fd ps ds ∧ Vals dvs ds
def tMakeS (C : Addr) (sp : Sp) (dvs : List V) (E : L2.St → XK) (t : TA) : TE := fun σ H Q => t σ H fun vs H1 => ∀ x dx, H1 x = none → H1 dx = none → dx ≠ x →
  sp (.ref x :: (vs ++ dvs)) (upd (upd H1 dx (.own x)) x (.ins C dx [])) (fun v H2 => v = .non ∧ Q (.ref x) H2) (E σ)
section
variable {X : Cx} {x : Str} {C : Addr} {k j : Nat} {p pos : Pos} {e : Expr} {es : List Expr} {t : TA} {sp : Sp} {dvs : List V} {W : WX}
theorem pe_mkT (c : MakX X.prog X.w X.K X.mg X.base k x C sp dvs) (hr : Room j X.A) (hk : k + 1 ≤ j) (tk : Takes X W) (hg : Gl X x) (ha : PA X (e :: es) t)
    (hdb : (x == ("__debug__" : Str)) = false := by decide) (he : starEach (e :: es) X.env = (false, eval e X.env) :: starEach es X.env := by rfl) (hpl : (backTo pos (starEach es X.env)).any (·.1) = false := by rfl) :
    PE X (.Call (.Name x p) (e :: es) [] pos) (tMakeS C sp dvs (WE W) t) := by
  obtain ⟨f, fd, ps, ds, M, F, hm, b, d⟩ := c.ex
  refine ⟨fun pins s σ H Q I h => wpAny_Call_Name_kw (ld_glob I hg hm ?_ hdb)⟩
  refine PySem.W.callWith_K (h₀ := X.base) I.ok.mod.kin M.kp (thn (ha.run pos pins s σ H _ I h) fun us s1 ⟨vs, H1, I1, r, q⟩ => ⟨I1.kIn, ?_⟩) he hpl
  have q1 := q (s1.heap.objs.size + 1) s1.heap.objs.size (I1.hok.fresh (Nat.le_succ _)) (I1.hok.fresh (Nat.le_refl _)) (Nat.ne_of_lt (Nat.lt_succ_self _))
  have J := Inv.made (C := C) I1
  have rr : Vals (V.ref (s1.heap.objs.size + 1) :: (vs ++ dvs)) (Value.ref (s1.heap.objs.size + 1) :: (us ++ ds)) := .cons rfl (r.append d)
  have len : (Value.ref (s1.heap.objs.size + 1) :: us ++ ds).length = ps.length := (rr.length).symm.trans (F.len _ _ _ _ q1)
  have go := F.run (X.A.under (.builtin "type.__call__" ⟨.ref C :: us, []⟩)) X.stack _ _ ⟨Value.ref (s1.heap.objs.size + 1) :: us, []⟩ _ _ _ _ ((hr.mono hk).make C us []) (J.env0.make C us []) (b _ (Value.ref (s1.heap.objs.size + 1) :: us) J.kIn len) rr q1
  refine wpAny_call (make_map (f := f) I1.kIn M.makes M.init (beq_iff_eq.mp M.fn) (codeAny_mono go fun res s2 hres => ?_))
  match res, hres with
  | .error er, hres => exact passAt tk σ pins _ _ er s2 J hres
  | .ok (.ret u), hres =>
    obtain ⟨v, H2, J2, rv, ev, q2⟩ := J.after hres
    subst ev
    exact ⟨rv, V.ref (s1.heap.objs.size + 1), H2, J2, rfl, q2⟩
  | .ok .next, hres => exact False.elim hres
  | .ok .brk, hres => exact False.elim hres
  | .ok .cont, hres => exact False.elim hres
end
section
variable {P : Program} {w : World} {K : PySem.W.Frag} {mg : Str → Option Value} {base : Heap}
theorem fnR {x qual : Str} {st : Stmt} {f : Addr} {fd : FuncData} {N ps : List Str} {k : Nat} {sp : Sp} (F : C8.Fun K x qual st f fd) (S : FnScope N ps (C8.fnScope st)) (len : ∀ vs H Q E, sp vs H Q E → vs.length = ps.length)
    (hbody : ∀ (cdv : Value) (A : Around) (outer : List Env) (s : Shared) (H : Hp) (vs : List V) (Q : VK) (E : XK), Room k (A.deeper (envOfC qual (C8.fnScope st) s.heap.objs.size f cdv)) → sp vs H Q E →
      ∃ t, PSs (cxOf (L2.CX P w) P w K mg base N qual (C8.fnScope st) f cdv A outer s H E) (C8.fnBody st) t ∧ t { nx := fun _ H' => Q .non H', rt := Q } (start N vs) H) : FnOk P w K mg base (L2.CX P w) (k + 1) f fd ps sp := by
  obtain ⟨oc, od, dV, kV, doc, pm, an, cdv, ct, osl, rfl, lk, hcd⟩ := F.ex
  exact fn_of lk hcd S len fun A outer s H vs Q E hr hsp => hbody cdv A outer s H vs Q E hr hsp
end
end ExS
set_option maxRecDepth 100000
set_option maxHeartbeats 4000000
namespace ExS
open PySem PySem.Spec PyProof.Rows L2 NdefX
def spXI0 (C : Addr) : Sp := fun vs H Q _ => ∃ a : Addr, vs = [.ref a] ∧ H a = some (exo a C none) ∧ Q .non H
def Body1 (text : Str) (body : List Stmt) : Prop := ∃ (p0 p1 p2 p3 p5 p6 : Pos) (j : Nat), body = [.Expr (.Call (.Attribute (.Call (.Name "super" p0) [] [] p1) "__init__" p2) [.Constant (.str text) j p3] [] p5) p6] ∧ (p2.endLine == p5.line) = true
theorem eval_sup1 {o : Expr} {name : Str} {apos pos : Pos} {e1 : Expr} {env : Env} (hl : (apos.endLine == pos.line) = true) (h1 : starEach [e1] env = [(false, eval e1 env)]) :
    eval (.Call (.Attribute o name apos) [e1] [] pos) env = (do
      let ov ← attributeBase o name env (eval o env)
      standAt apos.atName
      let (f, first) ← holding [ov] (getMethod ov name (do return (← importBound o env).getD true))
      callWith pos f first (backTo pos (starEach [e1] env)) []) := by
  have hp : methodCallPos true o env apos pos = pure pos := by unfold methodCallPos; rw [hl]; rfl
  show (do
    let ov ← attributeBase o name env (eval o env)
    standAt apos.atName
    methodCall o name apos pos env ov 1 (backTo pos (starEach [e1] env)) []) = _
  rw [h1]
  have hm : ∀ ov, methodCall o name apos pos env ov 1 (backTo pos [(false, eval e1 env)]) [] = (do
      let (f, first) ← holding [ov] (getMethod ov name (do return (← importBound o env).getD true))
      callWith pos f first (backTo pos [(false, eval e1 env)]) []) := fun ov => by
    unfold methodCall
    have hf : methodCallForm 1 (backTo pos [(false, eval e1 env)]) [] = true := rfl
    rw [hf, hp]
    rfl
  simp only [hm]
theorem fn_exc0 {P : Program} {w : World} {K : PySem.W.Frag} {mg : Str → Option Value} {base : Heap} {C f cc cda : Addr} {name qual self fld text file : Str} {params : Arguments} {body : List Stmt} {scope : Scope} {dV kV doc pm ct oc : Value} {an od : Option Addr} {osl : Array (Option Value)} {ar : Arg} {k : Nat}
    (X : ExF P K mg C fld f cc cda file) (lk : K.lookup f = some ⟨oc, od, .func (PySem.W.fnX name qual params body scope [("__class__", cc)] dV kV doc pm an (.ref cda) ct), osl⟩) (hcd : PySem.W.codeIn K (.ref cda) qual = true)
    (S : NScope [self, "__class__"] [self] ["__class__"] scope) (hks : scope.names.lookup ("super" : Str) = some .globalImplicit) (hp : (params.posonlyargs ++ params.args).head? = some ar) (har : ar.arg = self) (hb2 : Body1 text body) :
    FnOk P w K mg base CX0 (k + 1) f (PySem.W.fnX name qual params body scope [("__class__", cc)] dV kV doc pm an (.ref cda) ct) [self] (spXI0 C) := by
  refine ⟨fun vs H Q E h => by obtain ⟨_, rfl, _⟩ := h; rfl, fun A outer s H args us vs Q E hr e0 hb r hsp => ?_⟩
  obtain ⟨a, rfl, ha, kk⟩ := hsp
  obtain rfl : us = [.ref a] := by
    cases r with
    | @cons _ u0 _ ur ra rr =>
      obtain rfl : u0 = Value.ref a := ra
      cases rr
      rfl
  have KX : K.In s.heap := e0.mod.kin.keeps fun b o e => (e0.bs b o e).1
  have lim : s.heap.NoLimit := e0.mod.nolimit.keeps fun b o e => (e0.bs b o e).1
  obtain ⟨cl, cld, csl, lcc⟩ := X.cell
  obtain ⟨ccl, cdd, cvs, ccs, tf, lcd, hvs⟩ := X.code
  refine codeAny_call_function hr.depth (KX _ _ lk) rfl S.co S.gen rfl (PySem.W.codeRec_of KX hcd) (hb _ _ _ _ ?_)
  refine wpAny_newFunctionEnv S.nocell (fun ⟨n, _⟩ hy => S.par n (List.of_mem_zip hy).1) (fun h₁ hns hsb => ⟨lim.fresh _ hsb, ?_⟩) S.kind
  show codeAny _ _ (.func body (PySem.W.envX qual scope s.heap.objs.size f (.ref cda) [("__class__", cc)])) _ _
  refine ks_codeAny_funcAt ?_
  have kp : ∀ b o, s.heap.get? b = some o → h₁.get? b = some o := fun b o e => hsb.extBut b o (Nat.ne_of_lt (Heap.lt_size e)) (Heap.get?_push_of_some _ e)
  have hcb := e0.bs _ _ (e0.mod.kin _ _ lcc)
  have C0 : CellsAt [("__class__", cc)] ["__class__"] [some (.ref C)] s.heap H := by
    have one : ∀ y c, ([("__class__", cc)] : List (Str × Addr)).lookup y = some c → y = "__class__" ∧ c = cc := fun y c e => by
      rw [List.lookup_cons] at e
      split at e
      · rename_i z
        exact ⟨eq_of_beq z, (Option.some.inj e).symm⟩
      · cases e
    refine ⟨rfl, fun y c e => ?_, fun x y c e1 e2 => (one x c e1).1.trans (one y c e2).1.symm, fun i y e => ?_⟩
    · rw [(one y c e).2]
      exact ⟨hcb.2, _, _, hcb.1, rfl⟩
    · match i, e with
      | 0, e =>
        rw [← Option.some.inj e]
        exact ⟨cc, rfl, fun v hv => ⟨.ref C, by cases hv; exact rfl, _, hcb.1, rfl⟩⟩
  have I : Inv (ncx CX0 P w K mg base [self, "__class__"] ⟨name, qual, params, body, scope, [("__class__", cc)], cda⟩ f A outer s H E) [] (startF [self, "__class__"] [.ref a] [some (.ref C)]) H { s with heap := h₁, toks := s.toks + ([self].zip [Value.ref a]).length } :=
    inv_startN (F := ⟨name, qual, params, body, scope, [("__class__", cc)], cda⟩) S hr.hd e0 rfl r C0 hns kp
  have KX1 : K.In h₁ := KX.keeps kp
  obtain ⟨p0, p1, p2, p3, p5, p6, j, rfl, hline⟩ := hb2
  have hkc : scope.names.lookup ("__class__" : Str) = some .free := S.frk _ (List.mem_singleton.mpr rfl)
  have hself : scope.names.lookup self = some .local := S.par _ List.mem_cons_self
  obtain ⟨nm, q, N, bs, bm, sn, sub, ab, col, dd, k0, k1, k2, k3, k5, hC, hbm⟩ := X.T.cls
  have hcl : PySem.W.clsIn K C = some { name := nm, bases := bs, mro := .ref C :: bm, ns := N, qualname := q, hasDict := true, slotNames := sn, subclasses := sub, abstract := ab, collection := col, hasDel := false } := by unfold PySem.W.clsIn; rw [hC] <;> rfl
  obtain ⟨t1, hoa⟩ := exo_at I.hok ha
  obtain ⟨mb, b1, b2⟩ := I.mod.blt
  have boot : bootBuiltins "super" = some (.type "super") := by first | boot_by_name | rfl | kernel_rfl
  have hne : a ≠ C := fun z => by
    have := KX1 _ _ hC
    rw [← z, hoa] at this
    cases this
  refine ks_wpAt_execs_cons (ks_wpAt_Expr_any (ks_wpAt_MethodCall ?_ (eval_sup1 hline rfl)) I.quiet rfl)
  refine ks_wpAt_super_base (f := f) (cc := cda) hks hkc (by decide) rfl (KX1 _ _ lk) rfl hp rfl (KX1 _ _ lcd) rfl hvs X.file X.top ?_
  refine PySem.W.ks_loadName_global I.ok.kind hks (Calls.loadGlobal_builtin (I.mod.glob.keeps I.bk) X.sup (b1.keeps I.bk) ((b2 _ (by decide)).trans boot) ⟨rfl, ?_⟩)
  refine wpAny_loadName_free I.ok.kind hkc rfl ⟨_, kp _ _ hcb.1, rfl⟩ ?_
  rw [har]
  have ndp : [self].Nodup := (List.nodup_append.mp (show ([self] ++ [("__class__" : Str)]).Nodup from S.nd)).1
  refine wpAny_loadName_local I.ok.kind hself hns (zip_look (i := 0) ndp rfl rfl) ?_
  refine ks_wpAny_isType_cls (KX1 _ _ hC) rfl ⟨rfl, ?_⟩
  refine ks_wpAny_call_super (KX1 _ _ hC) rfl hoa rfl (fun c z => by cases z) (PySem.W.looks_mroIn KX1 X.sub) (fun h2 e2 kq => ?_)
  have I2 := I.kept (h' := h2) (t' := s.toks + ([self].zip [Value.ref a]).length) kq
  have KX2 : K.In h2 := KX1.keeps kq
  have hoa2 := kq _ _ hoa
  have hal : PySem.W.alongIn K "__init__" (((Value.ref C :: bm).dropWhile (· != .ref C)).drop 1) = some (some (.builtin "ValueError.__init__")) := by
    have := X.ini
    unfold PySem.W.ks_superIn at this
    rw [hcl] at this
    exact this
  have IA : PySem.W.InstAt h2 a (PySem.W.excObj C t1 none .none) C none := ⟨hoa2, rfl, rfl, trivial⟩
  refine PySem.W.kxs_getMethod PySem.W.kxs_ValueError (l₀ := .ref C :: bm) e2 (PySem.W.looks_opaque KX2 X.opq) ?_ rfl KX2 hal (IA.type.andThen (PySem.W.looks_subIn KX2 X.ve)) hne (by decide) ?_
  · exact fun A Q E s k q => wpAny_bind ((PySem.W.looks_clsIn KX2 hcl) A _ E s k (wpAny_pure q))
  have kp3 : ∀ b o, h2.get? b = some o → (h2.push (PySem.W.kxs_mw "ValueError.__init__" a)).get? b = some o := fun b o e => Heap.get?_push_of_some _ e
  have I3 := I2.kept (h' := h2.push (PySem.W.kxs_mw "ValueError.__init__" a)) (t' := s.toks + ([self].zip [Value.ref a]).length + 1) kp3
  have hu3 : (h2.push (PySem.W.kxs_mw "ValueError.__init__" a)).get? h2.objs.size = some (PySem.W.kxs_mw "ValueError.__init__" a) := Heap.get?_push_at rfl rfl
  have I4 := I3.pins_of (pins' := [(h2.objs.size, PySem.W.kxs_mw "ValueError.__init__" a)]) fun p hp => by
    rw [List.mem_singleton.mp hp]
    exact ⟨hu3, I2.hok.fresh (Nat.le_refl _), (Nat.ne_of_lt I2.lt).symm, I2.nofs (Nat.le_refl _), fun v z => by cases z⟩
  have pa := pa_cons (pe_str (X := ncx CX0 P w K mg base [self, "__class__"] ⟨name, qual, params, [.Expr (.Call (.Attribute (.Call (.Name "super" p0) [] [] p1) "__init__" p2) [.Constant (.str text) j p3] [] p5) p6], scope, [("__class__", cc)], cda⟩ f A outer s H E) (x := text) (j := j) (pos := p3)) pa_nil
  refine PySem.W.kxs_callWith (i := "ValueError.__init__") (x := a) rfl (PySem.Calls.evalArgs_plain (thn (pa.run p5 _ _ _ _ (fun vs H1 => vs = [.str text] ∧ H1 = H) I4 ⟨rfl, rfl⟩) fun ws s5 h5 => ?_))
  obtain ⟨vs5, H5, I5, r5, rfl, rfl⟩ := h5
  have hu5 := (I5.pin _ (List.mem_append_right _ (List.mem_singleton.mpr rfl))).1
  have l5 : ws.length ≤ sizeLine := by
    have := Paired.length r5
    rw [← this]
    show 1 ≤ sizeLine
    decide
  refine ⟨hu5, ?_⟩
  refine call_mw X.T (I5.pins_of (pins' := []) fun p hp => absurd hp (by exact List.not_mem_nil)) ha hu5 l5 fun s6 I6 => ?_
  have st := pss_nil (X := ncx CX0 P w K mg base [self, "__class__"] ⟨name, qual, params, [.Expr (.Call (.Attribute (.Call (.Name "super" p0) [] [] p1) "__init__" p2) [.Constant (.str text) j p3] [] p5) p6], scope, [("__class__", cc)], cda⟩ f A outer s H5 E)
  refine wpAt_of_wpAny (wpAny_mono (st.run [] s6 _ H5 { nx := fun _ H' => Q .non H', rt := Q } I6 kk) (fun fl s7 hs => ?_) fun e s' hs => hs)
  cases fl with
  | ret u =>
    obtain ⟨v7, σ7, H7, J, r7, q7⟩ := hs
    exact ⟨v7, H7, J.os, J.bare, J.base, J.hok, r7, q7⟩
  | next =>
    obtain ⟨σ7, H7, J, q7⟩ := hs
    exact ⟨.non, H7, J.os, J.bare, J.base, J.hok, rfl, q7⟩
  | brk =>
    obtain ⟨_, _, _, q7⟩ := hs
    exact False.elim q7
  | cont =>
    obtain ⟨_, _, _, q7⟩ := hs
    exact False.elim q7
theorem mk_endN {X : Cx} {pins : List (Addr × Obj)} {σ : L2.St} {H1 H2 : Hp} {Q : XK} {hp hp2 h2 : Heap} {g1 g2 : Array GenState} {d1 d2 : Drawn} {t1 t2 : Nat} {os1 os2 : OsState} {a C : Addr} (T : Raises X (.ref C)) (I1 : Inv X pins σ H1 ⟨hp, g1, d1, t1, os1⟩)
    (ha : hp.objs.size ≤ a) (k : ∀ b o, hp.get? b = some o → hp2.get? b = some o) (un : Un (frs X.stack) [] (upd H1 a (exo a C none)) H2 hp2 h2) (hok : HOk X.prog X.w H2 h2) (ho : os2 = os1) (hb : AllBare g2)
    (ea : H2 a = some (exo a C none)) (q : Q (.ref C) none (del H2 a)) : MkP X pins σ Q (.ref a) ⟨h2, g2, d2, t2, os2⟩ := by
  obtain ⟨t0, hoe⟩ := exo_at hok ea
  have hn : H1 a = none := I1.hok.fresh ha
  obtain ⟨G, g1', g2'⟩ := restrict h2 fun b => decide (b ≠ a)
  have gk : ∀ b, b ≠ a → G.get? b = h2.get? b := fun b hb => g1' b (decide_eq_true hb)
  have ge : G.get? a = none := g2' a (by simp)
  have nha : ∀ {b : Addr} {o : Obj}, hp.get? b = some o → b ≠ a := fun {b o} z => Nat.ne_of_lt (Nat.lt_of_lt_of_le (Heap.lt_size z) ha)
  have up : ∀ {b : Addr}, b ≠ a → H1 b = none → upd H1 a (exo a C none) b = none := fun {b} hb n => by rw [upd_ne hb]; exact n
  have U : Un (frs X.stack) [] H1 (del H2 a) hp G := {
    keep := fun b o z n hf hx => by
      rw [gk b (nha z)]
      exact un.keep b o (k b o z) (up (nha z) n) hf hx
    slot := fun b o z n hf hx => by
      rw [gk b (nha z)]
      exact un.slot b o (k b o z) (up (nha z) n) hf hx
    free := fun b o z n hx => by
      rw [del_ne (nha z)]
      exact un.free b o (k b o z) (up (nha z) n) hx
    there := fun b o z hx => by
      rw [gk b (nha z)]
      exact un.there b o (k b o z) hx
    tups := fun b xs z => by
      rw [del_ne (ne_of_none z hn)]
      exact un.tups b xs (by rw [upd_ne (ne_of_none z hn)]; exact z)
    frzs := fun b o v z => by
      rw [del_ne (ne_of_none z hn)]
      exact un.frzs b o v (by rw [upd_ne (ne_of_none z hn)]; exact z)
    tbls := fun b ps z => by
      rw [del_ne (ne_of_none z hn)]
      exact un.tbls b ps (by rw [upd_ne (ne_of_none z hn)]; exact z) }
  have hok3 : HOk X.prog X.w (del H2 a) G := fun b o z => by
    have hba : b ≠ a := fun e => by
      rw [e, del_same] at z
      cases z
    rw [del_ne hba] at z
    have noa : ∀ {c : Addr}, H2 c = some (.own b) → c ≠ a := fun {c} hc => at_ne ea hc exo_own
    exact (hok b o z).stay (fun c v hc y => by
        have hca : c ≠ a := by
          rcases hc with hc | hc
          · rw [hc]
            exact hba
          · exact noa hc
        rw [gk c hca]
        exact y)
      (fun c hc => by rw [del_ne (noa hc)]; exact hc) (fun c xs hc => by rw [del_ne (at_ne ea hc exo_tup)]; exact hc)
  have J : Inv X pins σ (del H2 a) ⟨G, g2, d2, t2, os2⟩ := I1.call' (ch := []) ho U hok3 hb (fun b z => absurd z (by simp))
  refine ⟨a, _, _, ⟨G, g2, d2, t2, os2⟩, _, .ref C, none, rfl, J, fun b o z => ?_, ge, hoe, ⟨rfl, rfl⟩, rfl, rfl, del_same, rfl, hb, T, q⟩
  by_cases hba : b = a
  · have z : G.get? b = some o := z
    rw [hba, ge] at z
    cases z
  · exact (gk b hba).symm.trans z
structure XMk0 (P : Program) (w : World) (K : PySem.W.Frag) (mg : Str → Option Value) (base : Heap) (k : Nat) (x : Str) (C : Addr) : Prop where
  ex : ∃ (fI : Addr) (fd : FuncData) (ps : List Str), OexC K C ∧ PySem.W.findIn K (.ref C) "__init__" = some (some (.ref fI)) ∧ PySem.W.typeIn K (.ref fI) = some (.type "function") ∧ FnOk P w K mg base L2.CX0 k fI fd ps (spXI0 C) ∧ Binds K fd ps [] ∧ mg x = some (.ref C)
theorem pmk_x0 {X : Cx} {x : Str} {C : Addr} {k j : Nat} {p pos : Pos} (c : XMk0 X.prog X.w X.K X.mg X.base k x C) (hr : Room j X.A) (hk : k + 1 ≤ j) (hg : Gl X x) (hdb : (x == ("__debug__" : Str)) = false := by decide) :
    PMk X (.Call (.Name x p) [] [] pos) (fun _ H Q => Q (.ref C) none H) := by
  obtain ⟨fI, fd, ps, T, iC, tI, F1, hb, hm⟩ := c.ex
  intro pins s σ H Q I h
  obtain ⟨nm, q, N, bs, bm, sn, sub, ab, col, dd, k0, k1, k2, k3, k5, hC, hbm⟩ := T.cls
  refine wpAny_Call_Name_kw (ld_glob I hg hm ?_ hdb)
  refine PySem.W.callWith_K0 I.kIn T.kC ?_
  show wpAny _ _ (call (.ref C) []) _ _ _
  obtain ⟨hp, g, dr, tk, os⟩ := s
  have hsz : hp.objs.size ≤ hp.objs.size + 1 := Nat.le_succ _
  have hn : H (hp.objs.size + 1) = none := I.hok.fresh hsz
  have hq : spXI0 C [.ref (hp.objs.size + 1)] (upd H (hp.objs.size + 1) (exo (hp.objs.size + 1) C none)) (fun v H2 => v = .non ∧ H2 = upd H (hp.objs.size + 1) (exo (hp.objs.size + 1) C none)) (fun _ _ _ => False) := ⟨_, rfl, upd_same, rfl, rfl⟩
  have kk : ∀ b o, hp.get? b = some o → ((hp.push (PySem.W.kdv_tup [])).push (PySem.HandSPX.excO C hp.objs.size)).get? b = some o := fun b o e => Heap.get?_push_of_some _ (Heap.get?_push_of_some _ e)
  have hget : ((hp.push (PySem.W.kdv_tup [])).push (PySem.HandSPX.excO C hp.objs.size)).get? (hp.objs.size + 1) = some (PySem.HandSPX.excO C hp.objs.size) := by heap_get
  have I2 : Inv X pins σ (upd H (hp.objs.size + 1) (exo (hp.objs.size + 1) C none)) ⟨(hp.push (PySem.W.kdv_tup [])).push (PySem.HandSPX.excO C hp.objs.size), g, dr, tk, os⟩ :=
    I.laid (t' := tk) (a := hp.objs.size + 1) (o := exo (hp.objs.size + 1) C none) (h' := (hp.push (PySem.W.kdv_tup [])).push (PySem.HandSPX.excO C hp.objs.size)) kk hsz (exo_ok hget)
  have r2 : Vals [V.ref (hp.objs.size + 1)] [Value.ref (hp.objs.size + 1)] := .cons rfl .nil
  have hl : ([Value.ref (hp.objs.size + 1)] ++ []).length = ps.length := by
    have e := r2.length
    rw [F1.len _ _ _ _ hq] at e
    exact e.symm
  refine wpAny_call (PySem.HandSPX.call_own F.excBase_ValueError (fun Y => PySem.HandSPX.refsVE_contains Y bm hbm) (I.kIn _ _ hC) (PySem.W.looks_findIn I.kIn iC) (fun self => PySem.W.bind_fn I.kIn self tI) (Nat.zero_le _) ?_)
  refine codeAny_mono (F1.run _ X.stack _ _ ⟨Value.ref (hp.objs.size + 1) :: [], []⟩ [Value.ref (hp.objs.size + 1)] _ _ (fun _ _ _ => False) ((hr.mono hk).make C [] []) (I2.env0.make C [] []) (hb _ [Value.ref (hp.objs.size + 1)] I2.kIn hl) r2 hq) fun r s' hq' => ?_
  cases r with
  | error er => exact L2.pass0 pins σ _ _ er s' I2 hq'
  | ok fl =>
    cases fl with
    | ret u =>
      obtain ⟨v, H2, os2, bare2, un2, hok2, rv, ev, eH⟩ := hq'
      subst ev
      subst eH
      obtain ⟨h2, g2, d2, t2, os'⟩ := s'
      refine ⟨rv, mk_endN (raises_own T.exC T.tyC) I hsz kk un2 hok2 os2 bare2 upd_same ?_⟩
      have e : del (upd H (hp.objs.size + 1) (exo (hp.objs.size + 1) C none)) (hp.objs.size + 1) = H := funext fun b => by
        by_cases hb : b = hp.objs.size + 1
        · rw [hb, del_same, hn]
        · rw [del_ne hb, upd_ne hb]
      rw [e]
      exact h
    | next => exact False.elim hq'
    | brk => exact False.elim hq'
    | cont => exact False.elim hq'
structure MetT (P : Program) (w : World) (K : PySem.W.Frag) (mg : Str → Option Value) (base : Heap) (k : Nat) (C : Addr) (m : Str) (sp : Sp) : Prop where
  ex : ∃ (f : Addr) (fd : FuncData) (ps : List Str), Cls K C ∧ Meth K C m f ∧ FnOk P w K mg base (L2.CX P w) k f fd ps sp ∧ Binds K fd ps []
def tMethS (C : Addr) (m : Str) (sp : Sp) (E : L2.St → XK) (ta : TE) (t : TA) : TE := fun σ H Q => ta σ H fun x H1 => ∃ (a dx : Addr) (fs : List (Str × V)), x = .ref a ∧ H1 a = some (.ins C dx fs) ∧ fs.lookup m = none ∧ t σ H1 fun vs H2 => sp (.ref a :: vs) H2 Q (E σ)
theorem pe_mtT {X : Cx} {k j : Nat} {C : Addr} {m : Str} {sp : Sp} {pos apos : Pos} {e o : Expr} {es : List Expr} {ta : TE} {t : TA} {W : WX} {pl : Sem Bool} (c : MetT X.prog X.w X.K X.mg X.base k C m sp) (hr : Room j X.A) (hk : k ≤ j) (tk : Takes X W) (he : PE X o ta) (ha : PA X (e :: es) t)
    (hst : starEach (e :: es) X.env = (false, eval e X.env) :: starEach es X.env := by rfl) (hpl : (backTo pos (starEach es X.env)).any (·.1) = false := by rfl)
    (ht : eval (.Call (.Attribute o m apos) (e :: es) [] pos) X.env = (do
      let ov ← eval o X.env
      standAt apos.atName
      let (f, first) ← holding [ov] (getMethod ov m pl)
      callWith pos f first (backTo pos (starEach (e :: es) X.env)) (backToKw pos (keywordEach [] X.env))) := by rfl) :
    PE X (.Call (.Attribute o m apos) (e :: es) [] pos) (tMethS C m sp (WE W) ta t) := by
  obtain ⟨f, fd, ps, hc, hm, F, b⟩ := c.ex
  refine ⟨fun pins s σ H Q I h => ?_⟩
  refine PySem.W.methodCall_KW (pl := pl) (thn (he.run pins s σ H _ I h) fun u s1 ⟨x, H1, I1, rx, a, dx, fs, ex, ea, l, q⟩ => ?_) ht
  subst ex
  obtain rfl : u = Value.ref a := rx
  refine getmeth_ok I1 ea hc hm l ?_
  refine PySem.W.callWith_K (first := [.ref a]) (h₀ := X.base) I.ok.mod.kin hm.kp (thn (ha.run pos pins s1 σ H1 _ I1 q) fun us s2 ⟨vs, H2, I2, r, q2⟩ => ⟨I2.kIn, ?_⟩) hst hpl
  exact (run_fnS (us := .ref a :: us) (vs := .ref a :: vs) F (hr.mono hk) b (passAt tk σ) I2 (.cons rfl r) q2)
end ExS
set_option maxRecDepth 100000
set_option maxHeartbeats 4000000
namespace PySem.W
open PySem PySem.Spec PySem.Calls PyProof.Rows
section
variable {prog : Program} {w : World} {A : Around} {E : Value → Shared → Prop} {s : Shared} {K : Frag} {x D : Addr} {ox : Obj} {od : Option Obj}
theorem findObj_dataD {C : Addr} {name : Str} {a g : Value} (hc : (clsIn K C).isSome = true) (ha : findIn K (.ref C) name = some (some a)) (hg : specialIn K a "__get__" = some (some g)) (ht : takesIn K a = some true) : findObj K C od name = some (.bind g a) := by
  obtain ⟨cd, hc⟩ := Option.isSome_iff_exists.mp hc
  unfold findObj
  rw [hc, Option.bind_some, ha, Option.bind_some]
  simp [hg, ht]
theorem class_of_err {Q : Option Value → Shared → Prop} (T : L2.ExcC K D) (X : K.In s.heap) (I : InstAt s.heap x ox D od) (h : Q (some (.ref D)) { s with toks := s.toks + 1 }) : wpAny (model prog w) A (getAttr? (.ref x) "__class__") Q E s := by
  have hf : findObj K D od "__class__" = some (.bind (.builtin "getset_descriptor.__get__") (.builtin "object.__class__")) := findObj_dataD (by obtain ⟨cd, hc, _⟩ := any_some T.hd; rw [hc]; rfl) T.ha T.hn T.ht
  obtain ⟨hp, g, d, t, os⟩ := s
  have L0 := I.type (M := model prog w)
  have L1 := looks_findIn (M := model prog w) X T.hg
  have L2 := looks_findIn (M := model prog w) X T.hk
  have L3 := looks_find (M := model prog w) X I hf
  have sub : Looks (model prog w) hp (isInstance (.ref x) (.type "BaseException")) true := L0.andThen (looks_subIn X T.hs)
  have n2 : (Value.builtin "BaseException.__getattribute__" == Value.builtin "object.__getattribute__") = false := by decide +kernel
  have n1 : (onTheHeap (Value.ref D) && Value.builtin "BaseException.__getattribute__" == Value.builtin "object.__getattribute__") = false := by rw [n2]; rfl
  have n0 : (false && onTheHeap (Value.builtin "BaseException.__getattribute__")) = false := rfl
  unfold getAttr? getAttrBy? getAttrBy
  refine wpAny_bind (wpAny_mkText (wpAny_bind (wpAny_attempt (wpAny_holding (wpAny_bind (L0.at (wpAny_bind (L1.at ?_))))))))
  show wpAny _ _ (if (onTheHeap (Value.ref D) && Value.builtin "BaseException.__getattribute__" == Value.builtin "object.__getattribute__") = true then _ else _) _ _ _
  rw [n1, if_neg Bool.false_ne_true]
  unfold getAttrByItsOwn hookBefore
  refine wpAny_bind ?_
  rw [if_pos (show onTheHeap (Value.ref D) = true from rfl)]
  refine L2.at ?_
  refine wpAny_bind (wpAny_attempt (wpAny_holding ?_))
  unfold callGetattribute
  rw [n0, if_neg Bool.false_ne_true]
  unfold boundAndCalled
  rw [PySem.F.excAttr_ValueError.ga.bind (.ref x)]
  refine wpAny_bind (wpAny_pure ?_)
  show wpAny _ _ (call (.builtin "BaseException.__getattribute__") [.ref x, .str "__class__" t]) _ _ _
  refine wpAny_call (codeAny_call_builtin PySem.F.excAttr_ValueError.ga.plain PySem.F.entry_bexc_ga ?_)
  refine @check_slot (model prog w) _ _ ⟨hp, g, d, t + 1, os⟩ "BaseException.__getattribute__" "BaseException" "__getattribute__" (.ref x) [.str "__class__" t] [] _ (by decide +kernel) (by decide +kernel) sub (PySem.F.args_bexc_ga (.ref x) (.str "__class__" t)) ?_
  unfold Builtin.«object.__getattribute__»
  refine wpAny_bind (wpAny_of_eq (a := ((Value.ref x : Value), [Value.str "__class__" t])) (by first | rfl | (simp only [slotArgs]; rfl)) ?_)
  refine wpAny_bind (wpAny_pure (wpAny_bind (L0.at (wpAny_bind (L3.at ?_)))))
  show wpAny _ _ (holding [Value.builtin "object.__class__"] (call (.builtin "getset_descriptor.__get__") [.builtin "object.__class__", .ref x, .ref D]) >>= ret) _ _ _
  refine wpAny_bind (wpAny_holding (wpAny_call (class_get (s := ⟨hp, g, d, t + 1, os⟩) (ox := ox) (od := od) X I T.hm ?_)))
  refine wpAny_pure ?_
  show wpAny _ _ (handedOut (.ref D)) _ _ _
  rw [handedOut_of (v := .ref D) rfl]
  first
    | exact wpAny_pure (wpAny_pure h)
    | exact wpAny_pure h
    | exact wpAny_pure (wpAny_bind (wpAny_pure (wpAny_pure h)))
theorem kitx_err (T : L2.ExcC K D) : KitX K (.ref x) (.ref D) (fun h => InstAt h x ox D od) where
  ty := fun _ _ _ I => I.type
  it := fun _ _ X _ => by
    obtain ⟨cdD, hcD, _⟩ := any_some T.hd
    unfold clsIn at hcD
    split at hcD
    · rename_i c' d' cd' sl' ho
      intro A' Q' E' s' k q
      unfold isType loadHead
      exact wpAny_bind (wpAny_loadPart (k _ _ (X _ _ ho)) (wpAny_pure q))
    · cases hcD
  ne := fun h tp dd its n sl X htp => by
    obtain ⟨cdD, hcD, _⟩ := any_some T.hd
    refine Bool.eq_false_iff.mpr fun q => ?_
    have e : D = tp := Value.ref.inj (beq_iff_eq.mp q)
    subst e
    unfold clsIn at hcD
    split at hcD
    · rename_i c' d' cd' sl' ho
      have z := (X _ _ ho).symm.trans htp
      cases z
    · cases hcD
  ca := fun X I k => class_of_err T X I k
end
end PySem.W
namespace ExS
open PySem PySem.Spec PyProof.Rows L2
def rIsD (K : PySem.W.Frag) (a : Addr) (cls : Value) (d : Option Addr) : List V → Hp → VK → Prop := fun xs H Q => ∃ (D dd : Addr) (fs : List (Str × V)) (c : V) (cv : Value) (b : Bool), xs = [.ref a, c] ∧ cls = .ref D ∧ d = some dd ∧ H dd = some (.xd fs) ∧ ExcC K D ∧ ClsV c cv ∧ PySem.W.kitOne K (.ref D) cv = some b ∧ Q (.bl b) H
theorem call_isD {X : Cx} {a : Addr} {cls : Value} {d : Option Addr} {oe : Obj} {pn : List (Addr × Obj)} (hz : Zc cls d oe) (hf : ∃ vs, oe.data = .fields vs) : CallR (X.suite a ((a, oe) :: pn)) (.builtin "isinstance") (rIsD X.K a cls d) := by
  intro pins s σ H xs us Q I r h
  obtain ⟨D, dd, fs, c, cv, b, rfl, rfl, rfl, ea, T, hcv, e, q⟩ := h
  obtain ⟨u1, u2, rfl, rx, rt⟩ := vals2 r
  have ec := hcv.eq rt
  subst ec
  obtain rfl : u1 = Value.ref a := rx
  obtain ⟨ha, _⟩ := I.pin (a, oe) (List.mem_append.mpr (.inl List.mem_cons_self))
  obtain ⟨vs, hd⟩ := hf
  have hx : ObjOk X.prog X.w H s.heap dd (.xd fs) := I.hok dd _ ea
  obtain ⟨mA, hns, hr⟩ := hx
  obtain ⟨od, ho, hl⟩ := lookIn_ns hns
  have J : PySem.W.InstAt s.heap a oe D (some od) := ⟨ha, hz.1, by unfold PySem.W.notCls; rw [hd] <;> rfl, by rw [hz.2]; exact ho⟩
  exact PySem.W.kia_one (PySem.W.kitx_err T) I.kIn J e (fun z => nomatch z) fun tk => ⟨.bl b, H, I.kept (t' := tk) fun _ _ z => z, rfl, q⟩
end ExS
set_option maxRecDepth 100000
set_option maxHeartbeats 4000000
namespace ExK
open PySem PySem.HandSPX PySem.Builtin PySem.Builtin.ObjectAttr
section
variable {M : Model} {A : Around} {E : Value → Shared → Prop} {h : Heap} {g : Array GenState} {d : Drawn} {t : Nat} {os : OsState}
variable {nm q : Str} {C N : Addr} {bs bm bmB : List Value} {hdct : Bool} {sn : List Str} {sub : List Value} {ab : Bool} {col : Option Bool} {dd : Option Addr} {k0 k1 k2 k3 k5 : Option Value} {B newId initId : String}
theorem check_new_kw (F : ExcBaseFacts B newId initId bmB) (hT : ∀ X : String, bm.contains (.type X) = bmB.contains (.type X)) {kw : List (Str × Value)} {Q : Unit → Shared → Prop}
    (hC : h.get? C = some (excClassObj nm q C N bs bm hdct sn sub ab col dd k0 k1 k2 k3 k5 newId)) (hq : Q () ⟨h, g, d, t, os⟩) : wpAny M A (checkBuiltinCall newId ⟨[.ref C], kw⟩) Q E ⟨h, g, d, t, os⟩ := by
  have hcont : (Value.ref C :: bm).contains (.type B) = true := by rw [List.contains_cons, hT, F.hasB, Bool.or_true]
  have hstar := F.noStar
  simp only [checkBuiltinCall, F.newKind, F.newSplit, F.newRow]
  repeat (first | refine wpAny_loadPart_at hC ?_ | (refine wpAny_isSubtype_exc hC ?_; rw [hcont]) | refine wpAny_staticBase_exc hC ?_ | refine wpAny_madeBy_exc hC ?_ | simp only [bne_self_eq_false, Bool.false_eq_true, if_false] | wp_step)
  exact hq
end
section
variable {prog : Program} {w : World} {A : Around} {E : Value → Shared → Prop} {R : Result → Shared → Prop} {h : Heap} {g : Array GenState} {d : Drawn} {t : Nat} {os : OsState}
variable {nm q : Str} {C N : Addr} {bs bm bmB : List Value} {hdct : Bool} {sn : List Str} {sub : List Value} {ab : Bool} {col : Option Bool} {dd : Option Addr} {k0 k1 k2 k3 k5 : Option Value} {B newId initId : String}
theorem new_kw (F : ExcBaseFacts B newId initId bmB) (hT : ∀ X : String, bm.contains (.type X) = bmB.contains (.type X)) {kw : List (Str × Value)}
    (hC : h.get? C = some (excClassObj nm q C N bs bm hdct sn sub ab col dd k0 k1 k2 k3 k5 newId))
    (hq : R (.ok (.ret (.ref (h.objs.size + 1)))) ⟨(h.push { cls := .type "tuple", data := .seq #[] }).push
      { cls := .ref C, data := .fields #[.ref h.objs.size, .none, .none, .none, .bool false, .none] }, g, d, t, os⟩) :
    codeAny (model prog w) A (.builtin newId ⟨[.ref C], kw⟩) R ⟨h, g, d, t, os⟩ := by
  have hends := F.ends
  have hcB : (Value.ref C :: bm).contains (.type B) = true := by rw [List.contains_cons, hT, F.hasB, Bool.or_true]
  have hcA : (Value.ref C :: bm).contains (.type "AttributeError") = false := by rw [List.contains_cons, hT, F.noAttr]; rfl
  have hcN : (Value.ref C :: bm).contains (.type "NameError") = false := by rw [List.contains_cons, hT, F.noName]; rfl
  refine codeAny_builtinAt F.entry ?_
  unfold Builtin.«BaseException.__new__»
  refine wpAt_bind ?_
  show wpAt _ _ _ (stack >>= _) _ _ _
  refine wpAt_bind (wpAt_stack fun p below => wpAt_of_wpAny ?_)
  wp_walk
  refine wpAt_of_wpAny ?_
  rw [F.owner]
  repeat (first | with_reducible refine wpAny_madeHere_exc F.canon hC ?_ | with_reducible refine wpAny_loadPart_at hC ?_ | (with_reducible refine wpAny_isSubtype_exc hC ?_; first | rw [hcB] | rw [hcA] | rw [hcN]) | wp_step)
  show R _ _
  rw [Heap.size_push]
  exact hq
theorem type_call_kw (F : ExcBaseFacts B newId initId bmB) (hT : ∀ X : String, bm.contains (.type X) = bmB.contains (.type X)) {kw : List (Str × Value)} {fI : Addr} {Q : Fin → Shared → Prop}
    (hC : h.get? C = some (excClassObj nm q C N bs bm hdct sn sub ab col dd k0 k1 k2 k3 k5 newId))
    (hi : W.Looks (model prog w) h (typeLookup (.ref C) "__init__") (some (.ref fI))) (hb : ∀ self, W.Looks (model prog w) h (bindSpecial (.ref fI) self) (.ref fI, [self]))
    (hq : codeAny (model prog w) A (.call (.ref fI) ⟨[.ref (h.objs.size + 1)], kw⟩)
      (fun r s' => match r with | .ok (.ret v) => v = .none ∧ Q (.done (.ret (.ref (h.objs.size + 1)))) s' | .ok _ => False | .error e => E e s')
      ⟨(h.push (W.kdv_tup [])).push (excO C h.objs.size), g, d, t, os⟩) :
    wpAny (model prog w) A (Builtin.«type.__call__» ⟨[.ref C], kw⟩) Q E ⟨h, g, d, t, os⟩ := by
  repeat (first | with_reducible refine wpAny_loadPart_at hC ?_ | with_reducible refine wpAny_madeBy_exc hC ?_ | wp_step)
  refine codeAny_call_builtin_code (Code.quiet_builtin _ F.quiet) (check_new_kw F hT hC ?_)
  refine new_kw F hT hC ?_
  show wpAny _ _ _ _ _ _
  have k : ∀ b o, h.get? b = some o → ((h.push (W.kdv_tup [])).push (excO C h.objs.size)).get? b = some o := fun b o e => Heap.get?_push_of_some _ (Heap.get?_push_of_some _ e)
  have hC₁ := k _ _ hC
  have hget : ((h.push (W.kdv_tup [])).push (excO C h.objs.size)).get? (h.objs.size + 1) = some (excO C h.objs.size) := by heap_get
  have hcC : (Value.ref C :: bm).contains (.ref C) = true := by simp
  have i1 := hi.keeps k
  have b1 := (hb (.ref (h.objs.size + 1))).keeps k
  unfold isInstance
  repeat (first | with_reducible refine wpAny_loadPart_at hget ?_ | (with_reducible refine wpAny_isSubtype_exc hC₁ ?_; rw [hcC]) | wp_step)
  show wpAny _ _ (typeLookup (.ref C) _) _ _ _
  refine i1.at ?_
  refine wpAny_holding (wpAny_bind (b1.at ?_))
  refine wpAny_bind (wpAny_call (codeAny_mono hq fun r s' z => ?_))
  rcases r with e | (v | _ | _ | _) <;> first | exact z | exact z.elim | skip
  obtain ⟨rfl, z⟩ := z
  first
    | exact wpAny_pure (wpAny_pure z)
    | (wp_walk; exact z)
theorem call_kw (F : ExcBaseFacts B newId initId bmB) (hT : ∀ X : String, bm.contains (.type X) = bmB.contains (.type X)) {kw : List (Str × Value)} {fI : Addr}
    (hC : h.get? C = some (excClassObj nm q C N bs bm hdct sn sub ab col dd k0 k1 k2 k3 k5 newId))
    (hi : W.Looks (model prog w) h (typeLookup (.ref C) "__init__") (some (.ref fI))) (hb : ∀ self, W.Looks (model prog w) h (bindSpecial (.ref fI) self) (.ref fI, [self]))
    (hq : codeAny (model prog w) (A.under (.builtin "type.__call__" ⟨[.ref C], kw⟩)) (.call (.ref fI) ⟨[.ref (h.objs.size + 1)], kw⟩) (W.InitBack (h.objs.size + 1) R)
      ⟨(h.push (W.kdv_tup [])).push (excO C h.objs.size), g, d, t, os⟩) :
    codeAny (model prog w) A (.call (.ref C) ⟨[], kw⟩) R ⟨h, g, d, t, os⟩ := by
  have f1 := tc_lookup
  have f2 := tc_bind (.ref C)
  have hTy : (⟨h, g, d, t, os⟩ : Shared).TypeIs (.ref C) "type" := ⟨_, hC, rfl⟩
  refine codeAny_of_tree ?_
  show wpAny _ _ (callAny (.ref C) _) _ _ _
  repeat (any_goals (first | assumption | with_reducible refine wpAny_loadPart_at hC ?_ | wp_step))
  refine ⟨rfl, ?_⟩
  refine codeAny_call_builtin_at (Code.quiet_builtin _ (by decide +kernel)) entry_typeCall (wpAny_check_type_call_sub hC (type_call_kw F hT hC hi hb ?_))
  refine codeAny_mono hq fun r s' z => ?_
  rcases r with e | (v | _ | _ | _) <;> exact z
end
end ExK
namespace ExS
open PySem PySem.Spec PyProof.Rows L2
def tMkE (C : Addr) (fld : Str) (ta : TA) : TE := fun σ H Q => ta σ H fun vs H1 => ∃ v, vs = [v] ∧ ∀ a d H', H1 a = none → H1 d = none → d ≠ a → Same H1 H' → H' a = some (exo a C (some d)) → H' d = some (exd d [(fld, v)]) → Q (.ref a) H'
structure XMkK (P : Program) (w : World) (K : PySem.W.Frag) (mg : Str → Option Value) (base : Heap) (k : Nat) (x : Str) (C : Addr) (fld : Str) (ks : List Str) : Prop where
  ex : ∃ (fI : Addr) (fd : FuncData) (ps : List Str), OexC K C ∧ PySem.W.findIn K (.ref C) "__init__" = some (some (.ref fI)) ∧ PySem.W.typeIn K (.ref fI) = some (.type "function") ∧ FnOk P w K mg base L2.CX0 k fI fd ps (spXI C fld) ∧ KBn K fd ps 1 ks (fun us ws => us ++ ws) (fun vs zs => vs ++ zs) ∧ mg x = some (.ref C) ∧ ks.length = 1
theorem xi_run {C : Addr} {fld : Str} {H1 : Hp} {a : Addr} {v : V} {Q : VK} (na : H1 a = none) (k : ∀ a d H', H1 a = none → H1 d = none → d ≠ a → Same H1 H' → H' a = some (exo a C (some d)) → H' d = some (exd d [(fld, v)]) → Q (.ref a) H') :
    spXI C fld [.ref a, v] (upd H1 a (exo a C none)) (fun w H2 => w = .non ∧ Q (.ref a) H2) (fun _ _ _ => False) := by
  refine ⟨a, v, rfl, upd_same, fun dx nd ne => ⟨rfl, ?_⟩⟩
  rw [upd_ne ne] at nd
  refine k a dx _ na nd ne (fun b o e => ?_) upd_same (by rw [upd_ne ne, upd_same])
  have b1 : b ≠ a := ne_of_none e na
  have b2 : b ≠ dx := ne_of_none e nd
  rw [upd_ne b1, upd_ne b2, upd_ne b1]
  exact e
section
variable {X : Cx} {x fld n : Str} {C : Addr} {k j : Nat} {p pos : Pos} {e : Expr} {es : List Expr} {ta : TA} {te : TE} {kws : List Keyword} {ks : List Str}
theorem pe_xm (c : XMk X.prog X.w X.K X.mg X.base k x C fld) (hr : Room j X.A) (hk : k + 1 ≤ j) (hg : Gl X x) (ha : PA X (e :: es) ta)
    (hdb : (x == ("__debug__" : Str)) = false := by decide) (he : starEach (e :: es) X.env = (false, eval e X.env) :: starEach es X.env := by rfl) (hpl : (backTo pos (starEach es X.env)).any (·.1) = false := by rfl) :
    PE X (.Call (.Name x p) (e :: es) [] pos) (tMkE C fld ta) := by
  obtain ⟨fI, fd, ps, T, iC, tI, F1, hb, hm⟩ := c.ex
  refine ⟨fun pins s σ H Q I h => ?_⟩
  obtain ⟨nm, q, N, bs, bm, sn, sub, ab, col, dd, k0, k1, k2, k3, k5, hC, hbm⟩ := T.cls
  refine wpAny_Call_Name_kw (ld_glob I hg hm ?_ hdb)
  refine PySem.W.callWith_K (h₀ := X.base) I.ok.mod.kin T.kC (thn (ha.run pos pins s σ H _ I h) fun us s1 ⟨vs, H1, I1, r1, v0, ev, q1⟩ => ⟨I1.kIn, ?_⟩) he hpl
  subst ev
  show wpAny _ _ (call (.ref C) us) _ _ _
  obtain ⟨hp, g, dr, tk, os⟩ := s1
  have hsz : hp.objs.size ≤ hp.objs.size + 1 := Nat.le_succ _
  have hn : H1 (hp.objs.size + 1) = none := I1.hok.fresh hsz
  have hq := xi_run (a := hp.objs.size + 1) (C := C) (fld := fld) (v := v0) (Q := Q) hn q1
  have kk : ∀ b o, hp.get? b = some o → ((hp.push (PySem.W.kdv_tup us)).push (PySem.HandSPX.excO C hp.objs.size)).get? b = some o := fun b o e => Heap.get?_push_of_some _ (Heap.get?_push_of_some _ e)
  have hget : ((hp.push (PySem.W.kdv_tup us)).push (PySem.HandSPX.excO C hp.objs.size)).get? (hp.objs.size + 1) = some (PySem.HandSPX.excO C hp.objs.size) := by heap_get
  have I2 : Inv X pins σ (upd H1 (hp.objs.size + 1) (exo (hp.objs.size + 1) C none)) ⟨(hp.push (PySem.W.kdv_tup us)).push (PySem.HandSPX.excO C hp.objs.size), g, dr, tk, os⟩ :=
    I1.laid (t' := tk) (a := hp.objs.size + 1) (o := exo (hp.objs.size + 1) C none) (h' := (hp.push (PySem.W.kdv_tup us)).push (PySem.HandSPX.excO C hp.objs.size)) kk hsz (exo_ok hget)
  have r2 : Vals [V.ref (hp.objs.size + 1), v0] (Value.ref (hp.objs.size + 1) :: us) := .cons rfl r1
  have hl : (Value.ref (hp.objs.size + 1) :: us).length = ps.length := by
    have e := r2.length
    rw [F1.len _ _ _ _ hq] at e
    exact e.symm
  have hus : us.length ≤ sizeLine := by
    rw [← Paired.length r1, sizeLine_eq]
    show 1 ≤ _
    decide
  refine wpAny_call (PySem.HandSPX.call_own F.excBase_ValueError (fun Y => PySem.HandSPX.refsVE_contains Y bm hbm) (I1.kIn _ _ hC) (PySem.W.looks_findIn I1.kIn iC) (fun self => PySem.W.bind_fn I1.kIn self tI) hus
    (codeAny_mono (F1.run _ X.stack _ _ ⟨Value.ref (hp.objs.size + 1) :: us, []⟩ (Value.ref (hp.objs.size + 1) :: us) _ _ (fun _ _ _ => False) ((hr.mono hk).make C us []) (I2.env0.make C us []) (by have := hb _ (Value.ref (hp.objs.size + 1) :: us) I2.kIn (by rw [List.append_nil]; exact hl); rw [List.append_nil] at this; exact this) r2 hq) fun r s' hq' => ?_))
  cases r with
  | error er => exact L2.pass0 pins σ _ _ er s' I2 hq'
  | ok fl =>
    cases fl with
    | ret u =>
      obtain ⟨v, H', I3, rv, ev, q3⟩ := I2.after hq'
      subst ev
      exact ⟨rv, ⟨V.ref (hp.objs.size + 1), H', I3, rfl, q3⟩⟩
    | next => exact False.elim hq'
    | brk => exact False.elim hq'
    | cont => exact False.elim hq'
theorem pe_xmK (c : XMkK X.prog X.w X.K X.mg X.base k x C fld ks) (hr : Room j X.A) (hk : k + 1 ≤ j) (hg : Gl X x) (hkw : PK X kws ta) (hall : (backToKw pos (keywordEach kws X.env)).all (·.1.isSome) = true := by rfl) (hks : (backToKw pos (keywordEach kws X.env)).filterMap (·.1) = ks := by rfl)
    (hdb : (x == ("__debug__" : Str)) = false := by decide) (hpl : ((backTo pos (starEach [] X.env)).any (·.1) || (backToKw pos (keywordEach kws X.env)).any (·.1.isNone)) = false := by rfl) :
    PE X (.Call (.Name x p) [] kws pos) (tMkE C fld ta) := by
  obtain ⟨fI, fd, ps, T, iC, tI, F1, hb, hm, hk1⟩ := c.ex
  refine ⟨fun pins s σ H Q I h => ?_⟩
  obtain ⟨nm, q, N, bs, bm, sn, sub, ab, col, dd, k0, k1, k2, k3, k5, hC, hbm⟩ := T.cls
  refine wpAny_Call_Name_kw (ld_glob I hg hm ?_ hdb)
  refine PySem.W.callWith_KW0 (first := []) (h₀ := X.base) I.ok.mod.kin T.kC hall (thn (hkw.run pos pins s σ H _ I h) fun ws s1 ⟨zs, H1, I1, rz, v0, ev, q1⟩ => ⟨I1.kIn, ?_⟩) hpl
  subst ev
  rw [hks]
  obtain ⟨hp, g, dr, tk, os⟩ := s1
  have hsz : hp.objs.size ≤ hp.objs.size + 1 := Nat.le_succ _
  have hn : H1 (hp.objs.size + 1) = none := I1.hok.fresh hsz
  have hq := xi_run (a := hp.objs.size + 1) (C := C) (fld := fld) (v := v0) (Q := Q) hn q1
  have kk : ∀ b o, hp.get? b = some o → ((hp.push (PySem.W.kdv_tup [])).push (PySem.HandSPX.excO C hp.objs.size)).get? b = some o := fun b o e => Heap.get?_push_of_some _ (Heap.get?_push_of_some _ e)
  have hget : ((hp.push (PySem.W.kdv_tup [])).push (PySem.HandSPX.excO C hp.objs.size)).get? (hp.objs.size + 1) = some (PySem.HandSPX.excO C hp.objs.size) := by heap_get
  have I2 : Inv X pins σ (upd H1 (hp.objs.size + 1) (exo (hp.objs.size + 1) C none)) ⟨(hp.push (PySem.W.kdv_tup [])).push (PySem.HandSPX.excO C hp.objs.size), g, dr, tk, os⟩ :=
    I1.laid (t' := tk) (a := hp.objs.size + 1) (o := exo (hp.objs.size + 1) C none) (h' := (hp.push (PySem.W.kdv_tup [])).push (PySem.HandSPX.excO C hp.objs.size)) kk hsz (exo_ok hget)
  have r1 : Vals [V.ref (hp.objs.size + 1)] [Value.ref (hp.objs.size + 1)] := .cons rfl .nil
  have e2 : ws.length = ks.length := by rw [hk1]; exact (Paired.length rz).symm
  refine wpAny_call (ExK.call_kw F.excBase_ValueError (fun Y => PySem.HandSPX.refsVE_contains Y bm hbm) (I1.kIn _ _ hC) (PySem.W.looks_findIn I1.kIn iC) (fun self => PySem.W.bind_fn I1.kIn self tI)
    (codeAny_mono (F1.run _ X.stack _ _ ⟨[Value.ref (hp.objs.size + 1)], ks.zip ws⟩ ([Value.ref (hp.objs.size + 1)] ++ ws) _ _ (fun _ _ _ => False) ((hr.mono hk).make C [] (ks.zip ws)) (I2.env0.make C [] (ks.zip ws)) (hb.to _ _ ws I2.kIn rfl e2) (hb.rel r1 rz) hq) fun r s' hq' => ?_))
  cases r with
  | error er => exact L2.pass0 pins σ _ _ er s' I2 hq'
  | ok fl =>
    cases fl with
    | ret u =>
      obtain ⟨v, H', I3, rv, ev, q3⟩ := I2.after hq'
      subst ev
      exact ⟨rv, ⟨V.ref (hp.objs.size + 1), H', I3, rfl, q3⟩⟩
    | next => exact False.elim hq'
    | brk => exact False.elim hq'
    | cont => exact False.elim hq'
def tXfl (C : Addr) (f : Str) (te : TE) : TE := fun σ H Q => te σ H fun x H1 => ∃ (a d : Addr) (fs : List (Str × V)) (v : V), x = .ref a ∧ H1 a = some (exo a C (some d)) ∧ H1 d = some (exd d fs) ∧ fs.lookup f = some v ∧ Q v H1
theorem pe_xfl (T : XfC X.K C) (hno : PySem.W.findIn X.K (.ref C) n = some none) (he : PE X e te) (hb : attributeBase e n X.env (eval e X.env) = eval e X.env := by rfl) : PE X (.Attribute e n pos) (tXfl C n te) := by
  refine ⟨fun pins s σ H Q I h => ?_⟩
  refine attr_of hb (thn (he.run pins s σ H _ I h) fun u s1 hh => ?_)
  obtain ⟨x, H1, I1, rx, a, d, fs, v, ex, ea, ed, l, q⟩ := hh
  subst ex
  obtain rfl : u = Value.ref a := rx
  obtain ⟨t1, ha⟩ := exo_at I1.hok ea
  obtain ⟨mA, hns, hr⟩ := exd_at I1.hok ed
  obtain ⟨od, ho, hl⟩ := lookIn_ns hns
  obtain ⟨u, hu, ru⟩ := RelO.some_of (v := v) (o := mA n) (by rw [← l]; exact hr n)
  have J : PySem.W.InstAt s1.heap a _ C (some od) := ⟨ha, rfl, rfl, ho⟩
  exact HandSPX.exc_get I1.kIn J T.ga T.gg T.exC (PySem.W.findObj_own T.hdC hno rfl (by rw [hl, hu])) (handed_of ru) ⟨v, H1, I1.tok _, ru, q⟩
end
end ExS
namespace Lx
open PySem PySem.Spec PyProof.Rows L2
structure CMtK (P : Program) (w : World) (K : PySem.W.Frag) (mg : Str → Option Value) (base : Heap) (k : Nat) (x : Str) (C : Addr) (m : Str) (sp : Sp) (ks : List Str) : Prop where
  ex : ∃ (mc : Value) (p g : Addr) (fd : FuncData) (ps : List Str), mg x = some (.ref C) ∧ ClX.CRead K C mc ∧ ClX.CMet K C mc m p g ∧ FnOk P w K mg base C8.CX0 k g fd ps sp ∧ KBn K fd ps 1 ks (fun us ws => us ++ ws) (fun vs zs => vs ++ zs)
def tCMethK (C : Addr) (n : Nat) (sp : Sp) (tk : TA) : TE := fun σ H Q => tk σ H fun zs H1 => zs.length = n ∧ sp (.ref C :: zs) H1 Q C8.E0
section
variable {X : Cx} {k j : Nat} {C : Addr} {sp : Sp} {x m : Str} {p pos apos : Pos} {kws : List Keyword} {tk : TA} {ks : List Str}
theorem pe_cmK {pl : Sem Bool} (c : CMtK X.prog X.w X.K X.mg X.base k x C m sp ks) (hr : Room j X.A) (hk : k ≤ j) (hg : Gl X x) (hkw : PK X kws tk) (hall : (backToKw pos (keywordEach kws X.env)).all (·.1.isSome) = true := by rfl) (hks : (backToKw pos (keywordEach kws X.env)).filterMap (·.1) = ks := by rfl)
    (hdb : (x == ("__debug__" : Str)) = false := by decide)
    (hpl : ((backTo pos (starEach [] X.env)).any (·.1) || (backToKw pos (keywordEach kws X.env)).any (·.1.isNone)) = false := by rfl)
    (ht : eval (.Call (.Attribute (.Name x p) m apos) [] kws pos) X.env = (do
      let ov ← eval (.Name x p) X.env
      standAt apos.atName
      let (f, first) ← holding [ov] (getMethod ov m pl)
      callWith pos f first (backTo pos (starEach [] X.env)) (backToKw pos (keywordEach kws X.env))) := by rfl) :
    PE X (.Call (.Attribute (.Name x p) m apos) [] kws pos) (tCMethK C ks.length sp tk) := by
  obtain ⟨mc, q, g, fd, ps, hm, r, cm, F, b⟩ := c.ex
  refine ⟨fun pins s σ H Q I h => ?_⟩
  refine PySem.W.methodCall_KW (pl := pl) (thn ((pe_glob (pos := p) (v := .ref C) hg hm rfl hdb).run pins s σ H (fun v H1 => v = .ref C ∧ H1 = H) I ⟨rfl, rfl⟩) fun u s1 ⟨x1, H1, I1, rx, ex, eh⟩ => ?_) ht
  subst ex eh
  obtain rfl : u = Value.ref C := rx
  refine ClX.getmethcm_ok I1 r cm fun s2 I2 => ?_
  have hq := ClX.pin_at I2
  refine PySem.W.callWith_of hpl (fun h P => PySem.W.keeps_M cm.fi h P) (evalArgs_kw2_nil hall (thn (hkw.run pos _ s2 σ H1 _ I2 h) fun ws s3 ⟨zs, H2, I3, rz, l2, q2⟩ => ⟨⟨ClX.pin_at I3, I3.kIn⟩, ?_⟩))
  rw [hks]
  have z : wpAny (model X.prog X.w) X.A (call (.ref s1.heap.objs.size) [] (ks.zip ws)) (EP X ((s1.heap.objs.size, PySem.W.methodObj (.ref g) (.ref C)) :: pins) σ Q) X.xe s3 := by
    refine wpAny_call (PySem.W.method_call (ClX.pin_at I3) ?_)
    refine codeAny_mono (F.run X.A X.stack s3 H2 ⟨[.ref C], ks.zip ws⟩ ([.ref C] ++ ws) ([.ref C] ++ zs) Q C8.E0 (hr.mono hk) I3.env0 (b.to s3 _ ws I3.kIn rfl (rz.length.symm.trans l2)) (b.rel (vs := [V.ref C]) (us := [Value.ref C]) (.cons rfl .nil) rz) q2) fun r s' hq => ?_
    cases r with
    | error e => exact (C8.pass0 (X := X) (E := C8.E0)) _ σ H2 s3 e s' I3 hq
    | ok fl =>
      cases fl with
      | ret u => exact I3.after hq
      | next => exact False.elim hq
      | brk => exact False.elim hq
      | cont => exact False.elim hq
  exact thn z fun _ _ y => ClX.unpinE y
structure MakD (P : Program) (w : World) (K : PySem.W.Frag) (mg : Str → Option Value) (base : Heap) (k : Nat) (x : Str) (C : Addr) (sp : Sp) (ks : List Str) (is : List Nat) (dvs : List V) : Prop where
  ex : ∃ (f : Addr) (fd : FuncData) (ps : List Str) (g : List Value → List Value → List Value), Mk K C f ∧ FnOk P w K mg base C8.CX0 k f fd ps sp ∧ mg x = some (.ref C) ∧ KBn K fd ps 1 ks g (fun vs zs => vs ++ pick is (zs ++ dvs))
def tMakeD (C : Addr) (n : Nat) (sp : Sp) (is : List Nat) (dvs : List V) (tk : TA) : TE := fun σ H Q => tk σ H fun zs H1 => zs.length = n ∧ ∀ x dx, H1 x = none → H1 dx = none → dx ≠ x →
  sp ([.ref x] ++ pick is (zs ++ dvs)) (upd (upd H1 dx (.own x)) x (.ins C dx [])) (fun v H2 => v = .non ∧ Q (.ref x) H2) C8.E0
theorem pe_mkD {is : List Nat} {dvs : List V} (c : MakD X.prog X.w X.K X.mg X.base k x C sp ks is dvs) (hr : Room j X.A) (hk : k + 1 ≤ j) (hg : Gl X x) (hkw : PK X kws tk) (hall : (backToKw pos (keywordEach kws X.env)).all (·.1.isSome) = true := by rfl) (hks : (backToKw pos (keywordEach kws X.env)).filterMap (·.1) = ks := by rfl)
    (hdb : (x == ("__debug__" : Str)) = false := by decide) (hpl : ((backTo pos (starEach [] X.env)).any (·.1) || (backToKw pos (keywordEach kws X.env)).any (·.1.isNone)) = false := by rfl) :
    PE X (.Call (.Name x p) [] kws pos) (tMakeD C ks.length sp is dvs tk) := by
  obtain ⟨f, fd, ps, g, M, F, hm, b⟩ := c.ex
  refine ⟨fun pins s σ H Q I h => ?_⟩
  refine wpAny_Call_Name_kw (ld_glob I hg hm ?_ hdb)
  refine PySem.W.callWith_KW0 (first := []) (h₀ := X.base) I.ok.mod.kin M.kp hall (thn (hkw.run pos pins s σ H _ I h) fun ws s2 ⟨zs, H2, I2, rz, l2, q2⟩ => ⟨I2.kIn, ?_⟩) hpl
  rw [hks]
  exact run_makeN (n := 0) (us := []) (vs := []) M F (hr.mono hk) b C8.pass0 I2 .nil rz rfl l2 q2
theorem vals_pick2 {vs zs dvs : List V} {us ws its : List Value} (is : List Nat) (r1 : Vals vs us) (rd : Vals dvs its) (r2 : Vals zs ws) : Vals (vs ++ pick is (zs ++ dvs)) (us ++ pick is (ws ++ its)) := r1.append (vals_pick is (r2.append rd))
theorem valsM_pick {vs zs : List V} {us ws : List Value} (is : List Nat) (r1 : Vals vs us) (r2 : Vals zs ws) : Vals (pickM is (vs.headD .non) zs) (us.headD .none :: pick is ws) := by
  cases r1 with
  | nil => exact .cons rfl (vals_pick is r2)
  | cons h _ => exact .cons h (vals_pick is r2)
end
end Lx
set_option maxRecDepth 100000
set_option maxHeartbeats 4000000
namespace ExS
open PySem PySem.Spec PyProof.Rows L2
def tMk0 (C : Addr) : TE := fun _ H Q => ∀ a H', H a = none → Same H H' → H' a = some (exo a C none) → Q (.ref a) H'
theorem pe_xm0 {X : Cx} {x : Str} {C : Addr} {k j : Nat} {p pos : Pos} (c : XMk0 X.prog X.w X.K X.mg X.base k x C) (hr : Room j X.A) (hk : k + 1 ≤ j) (hg : Gl X x) (hdb : (x == ("__debug__" : Str)) = false := by decide) :
    PE X (.Call (.Name x p) [] [] pos) (tMk0 C) := by
  obtain ⟨fI, fd, ps, T, iC, tI, F1, hb, hm⟩ := c.ex
  refine ⟨fun pins s σ H Q I h => ?_⟩
  obtain ⟨nm, q, N, bs, bm, sn, sub, ab, col, dd, k0, k1, k2, k3, k5, hC, hbm⟩ := T.cls
  refine wpAny_Call_Name_kw (ld_glob I hg hm ?_ hdb)
  refine PySem.W.callWith_K0 I.kIn T.kC ?_
  show wpAny _ _ (call (.ref C) []) _ _ _
  obtain ⟨hp, g, dr, tk, os⟩ := s
  have hsz : hp.objs.size ≤ hp.objs.size + 1 := Nat.le_succ _
  have hn : H (hp.objs.size + 1) = none := I.hok.fresh hsz
  have hq : spXI0 C [.ref (hp.objs.size + 1)] (upd H (hp.objs.size + 1) (exo (hp.objs.size + 1) C none)) (fun v H2 => v = .non ∧ Q (.ref (hp.objs.size + 1)) H2) (fun _ _ _ => False) := ⟨_, rfl, upd_same, rfl, h _ _ hn (fun b o e => by rw [upd_ne (ne_of_none e hn)]; exact e) upd_same⟩
  have kk : ∀ b o, hp.get? b = some o → ((hp.push (PySem.W.kdv_tup [])).push (PySem.HandSPX.excO C hp.objs.size)).get? b = some o := fun b o e => Heap.get?_push_of_some _ (Heap.get?_push_of_some _ e)
  have hget : ((hp.push (PySem.W.kdv_tup [])).push (PySem.HandSPX.excO C hp.objs.size)).get? (hp.objs.size + 1) = some (PySem.HandSPX.excO C hp.objs.size) := by heap_get
  have I2 : Inv X pins σ (upd H (hp.objs.size + 1) (exo (hp.objs.size + 1) C none)) ⟨(hp.push (PySem.W.kdv_tup [])).push (PySem.HandSPX.excO C hp.objs.size), g, dr, tk, os⟩ :=
    I.laid (t' := tk) (a := hp.objs.size + 1) (o := exo (hp.objs.size + 1) C none) (h' := (hp.push (PySem.W.kdv_tup [])).push (PySem.HandSPX.excO C hp.objs.size)) kk hsz (exo_ok hget)
  have r2 : Vals [V.ref (hp.objs.size + 1)] [Value.ref (hp.objs.size + 1)] := .cons rfl .nil
  have hl : ([Value.ref (hp.objs.size + 1)] ++ []).length = ps.length := by
    have e := r2.length
    rw [F1.len _ _ _ _ hq] at e
    exact e.symm
  refine wpAny_call (PySem.HandSPX.call_own F.excBase_ValueError (fun Y => PySem.HandSPX.refsVE_contains Y bm hbm) (I.kIn _ _ hC) (PySem.W.looks_findIn I.kIn iC) (fun self => PySem.W.bind_fn I.kIn self tI) (Nat.zero_le _) ?_)
  refine codeAny_mono (F1.run _ X.stack _ _ ⟨Value.ref (hp.objs.size + 1) :: [], []⟩ [Value.ref (hp.objs.size + 1)] _ _ (fun _ _ _ => False) ((hr.mono hk).make C [] []) (I2.env0.make C [] []) (hb _ [Value.ref (hp.objs.size + 1)] I2.kIn hl) r2 hq) fun r s' hq' => ?_
  cases r with
  | error er => exact L2.pass0 pins σ _ _ er s' I2 hq'
  | ok fl =>
    cases fl with
    | ret u =>
      obtain ⟨v, H', I3, rv, ev, q3⟩ := I2.after hq'
      subst ev
      exact ⟨rv, ⟨V.ref (hp.objs.size + 1), H', I3, rfl, q3⟩⟩
    | next => exact False.elim hq'
    | brk => exact False.elim hq'
    | cont => exact False.elim hq'
def rIsV (K : PySem.W.Frag) : List V → Hp → VK → Prop := fun xs H Q => ∃ (a D : Addr) (c : V) (cv : Value) (b : Bool), xs = [.ref a, c] ∧ H a = some (exo a D none) ∧ ExcC K D ∧ ClsV c cv ∧ PySem.W.kitOne K (.ref D) cv = some b ∧ Q (.bl b) H
theorem call_isV {X : Cx} : CallR X (.builtin "isinstance") (rIsV X.K) := by
  intro pins s σ H xs us Q I r h
  obtain ⟨a, D, c, cv, b, rfl, hea, C, hcv, e, q⟩ := h
  cases r with
  | cons rx rr =>
    cases rr with
    | cons rt rr =>
      cases rr
      cases rx
      have ec := hcv.eq rt
      subst ec
      obtain ⟨t1, hget⟩ := exo_at I.hok hea
      have J : PySem.W.InstAt s.heap a _ D none := ⟨hget, rfl, rfl, trivial⟩
      exact PySem.W.kia_one (PySem.W.handS_kitx_exc C.hg C.hk C.hs C.hd C.ha C.hn C.ht C.hm) I.kIn J e (fun z => nomatch z) fun tk => ⟨.bl b, H, I.kept (t' := tk) fun _ _ z => z, rfl, q⟩
end ExS
set_option maxRecDepth 100000
set_option maxHeartbeats 4000000
namespace ExS
open PySem PySem.Spec PyProof.Rows L2
def ErA (H : Hp) (a D : Addr) : Prop := H a = some (exo a D none) ∨ (∃ d fs, H a = some (exo a D (some d)) ∧ H d = some (exd d fs)) ∨ H a = some (ExO (.ref D) a)
theorem ErA.same {H H' : Hp} {a D : Addr} (h : ErA H a D) (s : ∀ c o, H c = some o → H' c = some o) : ErA H' a D := by
  rcases h with h | ⟨d, fs, h1, h2⟩ | h
  · exact .inl (s _ _ h)
  · exact .inr (.inl ⟨d, fs, s _ _ h1, s _ _ h2⟩)
  · exact .inr (.inr (s _ _ h))
theorem ErA.inst {P : Program} {w : World} {H : Hp} {h : Heap} {a D : Addr} (x : ErA H a D) (hok : HOk P w H h) : ∃ ox od, PySem.W.InstAt h a ox D od := by
  rcases x with e | ⟨d, fs, e, ed⟩ | e
  · obtain ⟨t1, hget⟩ := exo_at hok e
    exact ⟨_, none, hget, rfl, rfl, trivial⟩
  · obtain ⟨t1, hget⟩ := exo_at hok e
    obtain ⟨mA, hns, _⟩ := exd_at hok ed
    obtain ⟨od, ho, hl⟩ := lookIn_ns hns
    exact ⟨_, some od, hget, rfl, rfl, ho⟩
  · have q : ObjOk P w H h a (ExO (.ref D) a) := hok a _ e
    obtain ⟨⟨oe, vs, ho, hz, hd, _⟩, _⟩ := q
    exact ⟨oe, none, ho, hz.1, by unfold PySem.W.notCls; rw [hd] <;> rfl, by rw [hz.2]; trivial⟩
def rIsE (K : PySem.W.Frag) : List V → Hp → VK → Prop := fun xs H Q => ∃ (a D : Addr) (c : V) (cv : Value) (b : Bool), xs = [.ref a, c] ∧ ErA H a D ∧ ExcC K D ∧ ClsV c cv ∧ PySem.W.kitOne K (.ref D) cv = some b ∧ Q (.bl b) H
def rIsET (K : PySem.W.Frag) : List V → Hp → VK → Prop := fun xs H Q => ∃ (a D tp : Addr) (cs : List V) (us : List Value) (b : Bool), xs = [.ref a, .ref tp] ∧ H tp = some (.tup cs) ∧ Paired ClsV cs us ∧ ErA H a D ∧ ExcC K D ∧ PySem.W.kitAny K (.ref D) us = some b ∧ Q (.bl b) H
theorem call_isE {X : Cx} : CallR X (.builtin "isinstance") (rIsE X.K) := by
  intro pins s σ H xs us Q I r h
  obtain ⟨a, D, c, cv, b, rfl, hea, C, hcv, e, q⟩ := h
  obtain ⟨u1, u2, rfl, rx, rt⟩ := vals2 r
  have ec := hcv.eq rt
  subst ec
  obtain rfl : u1 = Value.ref a := rx
  obtain ⟨ox, od, J⟩ := hea.inst I.hok
  exact PySem.W.kia_one (PySem.W.kitx_err C) I.kIn J e (fun z => nomatch z) fun tk => ⟨.bl b, H, I.kept (t' := tk) fun _ _ z => z, rfl, q⟩
theorem call_isET {X : Cx} : CallR X (.builtin "isinstance") (rIsET X.K) := by
  intro pins s σ H xs us Q I r h
  obtain ⟨a, D, tp, cs, ws, b, rfl, hT, k, hea, C, e, q⟩ := h
  obtain ⟨u1, u2, rfl, rx, r2⟩ := vals2 r
  obtain rfl : u1 = Value.ref a := rx
  cases (show u2 = Value.ref tp from r2)
  obtain ⟨ox, od, J⟩ := hea.inst I.hok
  obtain ⟨_, its, rv, o, h1, h2, n, h3⟩ := (show ObjOk X.prog X.w H s.heap tp (.tup cs) from I.hok tp _ hT)
  have e3 := ClsV.all k rv
  subst e3
  obtain ⟨oc, od', dt, sl⟩ := o
  simp only at h2 h3
  subst h2 h3
  exact PySem.W.kia_tup (PySem.W.kitx_err C) I.kIn J h1 e (fun z => nomatch z) fun tk => ⟨.bl b, H, I.tok tk, rfl, q⟩
theorem pe_exc0 {X : Cx} {C : Addr} {bmB : List Value} {B newId initId : String} {x : Str} {p pos : Pos} (F : ExcBaseFacts B newId initId bmB) (q : PySem.W.excIn X.K C bmB newId = true) (gC : X.mg x = some (.ref C)) (kC : PySem.W.keepIn X.K (.ref C) = true) (hg : Gl X x)
    (hdb : (x == ("__debug__" : Str)) = false := by decide) :
    PE X (.Call (.Name x p) [] [] pos) (fun _ H Q => ∀ a, H a = none → Q (.ref a) (upd H a (ExO (.ref C) a))) := by
  refine ⟨fun pins s σ H Q I h => ?_⟩
  refine wpAny_Call_Name_kw (ld_glob I hg gC ?_ hdb)
  refine PySem.W.callWith_K0 I.kIn kC ?_
  show wpAny _ _ (call (.ref C) []) _ _ _
  obtain ⟨bm, N, nm, qn, bs, hdct, sn, sub, ab, col, dd, k0, k1, k2, k3, k5, mN, hC, hN, hni, T⟩ := exc_obj I.kIn q
  refine wpAny_call_exc_subT F T hC hN hni (fun h' a hm => ?_) (Nat.zero_le _)
  have hn : H a = none := I.hok.gone hm.new
  obtain ⟨t, ht, _, _⟩ := hm.there
  exact ⟨.ref a, upd H a (ExO (.ref C) a), I.laidN hm.keeps hm.new hn (exO_ok ht ⟨rfl, rfl⟩ rfl rfl rfl (show 4 < 6 by decide)), rfl, h a hn⟩
end ExS
set_option maxRecDepth 100000
set_option maxHeartbeats 4000000
namespace U
open PySem PySem.Spec PyProof.Rows
open L2 hiding Fun CX0 E0 pass0 Fun.binds
open C8 Lx SX
def bt (b : Bool) : Nat := if b then 49 else 48
def W (l : List Bool) : Str := S (l.map bt)
theorem bt_inj : ∀ {a b : Bool}, bt a = bt b → a = b := by decide
theorem map_bt_inj : ∀ {a b : List Bool}, a.map bt = b.map bt → a = b
  | [], [], _ => rfl
  | [], _ :: _, h => by simp at h
  | _ :: _, [], h => by simp at h
  | x :: l, y :: m, h => by
    rw [List.map_cons, List.map_cons] at h
    injection h with h1 h2
    rw [bt_inj h1, map_bt_inj h2]
theorem W_inj {a b : List Bool} (h : W a = W b) : a = b := map_bt_inj (S_inj h)
theorem W_eq {a b : List Bool} : (W a = W b) ↔ a = b := ⟨W_inj, fun h => by rw [h]⟩
theorem W_len (a : List Bool) : (W a).length = a.length := by unfold W; rw [S_len, List.length_map]
theorem W_size (a : List Bool) : (W a).cps.size = a.length := by unfold W; simp
theorem W_cat (a b : List Bool) : W a ++ W b = W (a ++ b) := by unfold W; rw [S_cat, List.map_append]
theorem W_nil : ("" : Str) = W [] := by decide +kernel
theorem W_0 : ("0" : Str) = W [false] := by decide +kernel
theorem W_1 : ("1" : Str) = W [true] := by decide +kernel
theorem W_get {a : List Bool} {i : Nat} {c : Nat} (h : (W a).cps[i]? = some c) : ∃ b, a[i]? = some b ∧ c = bt b := by
  unfold W S at h
  rw [List.getElem?_toArray, List.getElem?_map] at h
  cases e : a[i]? with
  | none => rw [e] at h; cases h
  | some b => rw [e] at h; exact ⟨b, rfl, (Option.some.inj h).symm⟩
theorem W_bit (b : Bool) : (⟨#[bt b]⟩ : Str) = W [b] := rfl
theorem W_tl (a : List Bool) : (W a).cps.toList = a.map bt := rfl
theorem joinL_nil : ∀ ys : List (List Nat), TL.joinL [] ys = ys.flatten
  | [] => rfl
  | [p] => by simp [TL.joinL]
  | p :: q :: r => by
    show p ++ ([] ++ TL.joinL [] (q :: r)) = _
    rw [List.nil_append, joinL_nil (q :: r)]
    rfl
theorem join_W (ls : List (List Bool)) : Txt.join "" (ls.map W) = W ls.flatten := by
  have e : (ls.map W) = (ls.map (·.map bt)).map S := by rw [List.map_map]; rfl
  have e2 : ("" : Str) = S [] := by decide +kernel
  rw [e, e2, join_S, joinL_nil]
  unfold W
  rw [List.map_flatten]
theorem join_bits (l : List Bool) : Txt.join "" (l.map fun b => W [b]) = W l := by
  have e : (l.map fun b => W [b]) = (l.map fun b => [b]).map W := by rw [List.map_map]; rfl
  rw [e, join_W]
  congr 1
  induction l with
  | nil => rfl
  | cons b r ih => simp [ih]
theorem sum_lens : ∀ ls : List (List Bool), ((ls.map W).map (·.length)).sum = (ls.map (·.length)).sum
  | [] => rfl
  | l :: r => by
    rw [List.map_cons, List.map_cons, List.map_cons, List.sum_cons, List.sum_cons, W_len, sum_lens r]
theorem sl_len {n : Nat} (h : n ≤ 100000) : n ≤ sizeLine := Nat.le_trans h (by decide)
theorem sl_lt {n : Nat} (h : n < 100000) : n < sizeLine := Nat.lt_of_lt_of_le h (by decide)
def bitsV (l : List Bool) : List V := (l.map fun b => W [b]).map V.str
theorem lens_bits (l : List Bool) : ((l.map fun b => W [b]).map (·.length)).sum = l.length := by
  induction l with
  | nil => rfl
  | cons b r ih => rw [List.map_cons, List.map_cons, List.sum_cons, ih, W_len, List.length_cons]; simp only [List.length_cons, List.length_nil]; omega
theorem bitsV_len (l : List Bool) : (bitsV l).length = l.length := by unfold bitsV; rw [List.length_map, List.length_map]
theorem bitsV_snoc (l : List Bool) (b : Bool) : bitsV l ++ [V.str (W [b])] = bitsV (l ++ [b]) := by unfold bitsV; simp
theorem mem2 {v : V} (h : v ∈ ([.str "0", .str "1"] : List V)) : ∃ b : Bool, v = .str (W [b]) := by
  rcases List.mem_cons.mp h with rfl | h
  · exact ⟨false, by rw [W_0]⟩
  · rcases List.mem_cons.mp h with rfl | h
    · exact ⟨true, by rw [W_1]⟩
    · cases h
theorem empty_len : ("" : Str).length = 0 := by decide +kernel
theorem q_dec {c : Prop} [Decidable c] {Q : VK} {H : Hp} (hc : c) (h : Q (.bl true) H) : Q (.bl (decide c)) H := by rw [decide_eq_true hc]; exact h
theorem q_ndec {c : Prop} [Decidable c] {Q : VK} {H : Hp} (hc : ¬ c) (h : Q (.bl false) H) : Q (.bl (decide c)) H := by rw [decide_eq_false hc]; exact h
theorem iteDT {c A B : Prop} [Decidable c] (hc : c) (h : A) : if decide c = true then A else B := by rw [decide_eq_true hc]; exact iteT h
theorem iteDF {c A B : Prop} [Decidable c] (hc : ¬ c) (h : B) : if decide c = true then A else B := by rw [decide_eq_false hc]; exact iteF h
theorem iteNT {c A B : Prop} [Decidable c] (hc : ¬ c) (h : A) : if (!decide c) = true then A else B := by rw [decide_eq_false hc]; exact iteT h
theorem iteBT {b : Bool} {A B : Prop} (hc : b = true) (h : A) : if b = true then A else B := by rw [hc]; exact iteT h
theorem iteBF {b : Bool} {A B : Prop} (hc : b = false) (h : B) : if b = true then A else B := by rw [hc]; exact iteF h
def oW : Option (List Bool) → V
  | none => .non
  | some x => .str (W x)
theorem W_drop {a : List Bool} {i : Int} (h : 0 ≤ i) : Txt.slice (W a) (some i) none = W (a.drop i.toNat) := by
  unfold W; rw [slice_from h, List.map_drop]
theorem W_take {a : List Bool} {i : Int} (h : 0 ≤ i) : Txt.slice (W a) none (some i) = W (a.take i.toNat) := by
  unfold W; rw [slice_to h, List.map_take]
theorem repl_succ (l : List Bool) (n : Nat) : (List.replicate (n + 1) l).flatten = l ++ (List.replicate n l).flatten := by rw [List.replicate_succ]; rfl
theorem foldl_app : ∀ (n : Nat) (a b : Array Nat), ((List.replicate n a).foldl (· ++ ·) b).toList = b.toList ++ (List.replicate n a.toList).flatten
  | 0, a, b => by simp
  | n + 1, a, b => by
    rw [List.replicate_succ, List.foldl_cons, foldl_app n a (b ++ a), List.replicate_succ, List.flatten_cons, Array.toList_append, List.append_assoc]
theorem mul_W {l : List Bool} {n : Nat} (h : 1 ≤ n) : Txt.mul (W l) (n : Int) = W (List.replicate n l).flatten := by
  refine TL.ext_tl ?_
  unfold Txt.mul
  rw [if_neg (by omega)]
  by_cases c : (((n : Int) == 1) || (W l).length == 0) = true
  · rw [if_pos c]
    simp only [Bool.or_eq_true, beq_iff_eq] at c
    rcases c with c | c
    · have : n = 1 := by omega
      subst this
      simp
    · rw [W_len] at c
      have : l = [] := List.length_eq_zero_iff.mp c
      subst this
      rw [show (List.replicate n ([] : List Bool)).flatten = [] by simp]
  · rw [if_neg c]
    show ((List.replicate (n : Int).toNat (W l).cps).foldl (· ++ ·) #[]).toList = _
    rw [foldl_app, Int.toNat_natCast]
    show [] ++ (List.replicate n (l.map bt)).flatten = ((List.replicate n l).flatten).map bt
    rw [List.map_flatten, List.map_replicate, List.nil_append]
end U
set_option maxRecDepth 100000
set_option maxHeartbeats 4000000
namespace U
open PySem PySem.Spec PyProof.Rows L2
def top (i : Nat) : Stmt := PySem.Challenge.pw_unseenflips_k01_errors_and_what_they_kee.main.body.getD i (.Pass ⟨0, 0, 0, 0⟩)
abbrev s_InvalidRule_init : Stmt := inClass (top 2) 0
abbrev s_InvalidCheck_init : Stmt := inClass (top 3) 0
abbrev s_InvalidText_init : Stmt := inClass (top 4) 0
abbrev s_InvalidWord_init : Stmt := inClass (top 5) 0
abbrev s_InvalidHits_init : Stmt := inClass (top 6) 0
abbrev s_InvalidCommand_init : Stmt := inClass (top 7) 0
abbrev s_Refused_init : Stmt := inClass (top 8) 0
abbrev s_l_seed : Stmt := top 10
abbrev s_l_choose : Stmt := top 11
abbrev s_l_one_of : Stmt := top 12
abbrev s_l_leaf : Stmt := top 13
abbrev s_l_any : Stmt := top 14
abbrev s_l_kept : Stmt := top 15
abbrev s_l_sorts : Stmt := top 16
abbrev s_law : Stmt := top 17
structure Tx (mg : Str → Option Value) : Prop where
  b_len : mg "len" = none
  b_abs : mg "abs" = none
  b_int : mg "int" = none
  b_range : mg "range" = none
  b_max : mg "max" = none
  b_min : mg "min" = none
  b_enumerate : mg "enumerate" = none
  b_zip : mg "zip" = none
  b_dict : mg "dict" = none
  b_list : mg "list" = none
  b_tuple : mg "tuple" = none
  b_isinstance : mg "isinstance" = none
  b_bool : mg "bool" = none
  b_str : mg "str" = none
  b_all : mg "all" = none
  b_any : mg "any" = none
  b_sum : mg "sum" = none
  b_sorted : mg "sorted" = none
  b_repr : mg "repr" = none
end U
set_option maxRecDepth 100000
set_option maxHeartbeats 4000000
namespace U
open PySem PySem.Spec PyProof.Rows
open L2 hiding Fun CX0 E0 pass0 Fun.binds
open C8 Lx
local macro_rules | `(tactic| walk_at "g") => `(tactic| repeat (first | (refine ⟨_, rfl, ?_⟩) | (refine ⟨_, _, rfl, rfl, ?_⟩) | (refine ⟨rfl, ?_⟩) | (refine .inl ⟨_, rfl, ?_⟩)))
def Box (H : Hp) (b : Addr) : Prop := ∃ x y : Int, H b = some (.lst [.int x, .int y])
def Up (b : Addr) (H H' : Hp) : Prop := (∀ c o, H c = some o → c ≠ b → H' c = some o) ∧ Box H' b
theorem Box.same {b : Addr} {H H' : Hp} (h : Box H b) (y : Same H H') : Box H' b := by obtain ⟨i, j, e⟩ := h; exact ⟨i, j, y _ _ e⟩
theorem Up.refl {b : Addr} {H : Hp} (h : Box H b) : Up b H H := ⟨fun _ _ e _ => e, h⟩
theorem Up.trans {b : Addr} {H H1 H2 : Hp} (x : Up b H H1) (y : Up b H1 H2) : Up b H H2 := ⟨fun c o e n => y.1 c o (x.1 c o e n) n, y.2⟩
theorem Up.same {b : Addr} {H H1 H2 : Hp} (x : Up b H H1) (y : Same H1 H2) : Up b H H2 := ⟨fun c o e n => y c o (x.1 c o e n), x.2.same y⟩
theorem Up.of_same {b : Addr} {H H2 : Hp} (h : Box H b) (y : Same H H2) : Up b H H2 := (Up.refl h).same y
theorem same_upd {H : Hp} {p : Addr} {o : HO} (h : H p = none) : Same H (upd H p o) := fun b x e => by
  rw [upd_ne (ne_of_none e h)]
  exact e
theorem same_mut' {H H1 : Hp} {p : Addr} {o : HO} (s : Same H H1) (n : H p = none) : Same H (upd H1 p o) := fun c u e => by
  rw [upd_ne (ne_of_none e n)]
  exact s _ _ e
theorem Box.ne {H : Hp} {b p : Addr} (h : Box H b) (n : H p = none) : p ≠ b := by
  obtain ⟨i, j, e⟩ := h
  intro z
  rw [z, e] at n
  cases n
theorem Box.neT {H : Hp} {b p : Addr} {xs : List V} (h : Box H b) (n : H p = some (.tup xs)) : p ≠ b := by
  obtain ⟨i, j, e⟩ := h
  intro z
  rw [z, e] at n
  cases n
theorem Up.mut {b : Addr} {H H1 : Hp} {p : Addr} {o : HO} (x : Up b H H1) (h : H p = none) (n : p ≠ b) : Up b H (upd H1 p o) :=
  ⟨fun c u e nc => by rw [upd_ne (ne_of_none e h)]; exact x.1 c u e nc, by obtain ⟨i, j, e⟩ := x.2; exact ⟨i, j, by rw [upd_ne (Ne.symm n)]; exact e⟩⟩
theorem Up.free {b : Addr} {H H1 : Hp} {p : Addr} (x : Up b H H1) (h : H1 p = none) : H p = none := by
  cases e : H p with
  | none => rfl
  | some o =>
    by_cases n : p = b
    · obtain ⟨i, j, e2⟩ := x.2
      rw [n, e2] at h
      cases h
    · rw [x.1 p o e n] at h
      cases h
def NL (H H' : Hp) : Prop := ∀ c o, H c = some o → (∀ xs, o ≠ .lst xs) → H' c = some o
theorem NL.refl (H : Hp) : NL H H := fun _ _ e _ => e
theorem NL.trans {H H1 H2 : Hp} (a : NL H H1) (b : NL H1 H2) : NL H H2 := fun c o e n => b c o (a c o e n) n
theorem NL.of {H H' : Hp} (s : Same H H') : NL H H' := fun c o e _ => s c o e
theorem Up.nl {b : Addr} {H H' : Hp} (hb : Box H b) (u : Up b H H') : NL H H' := fun c o e n => u.1 c o e fun z => by
  obtain ⟨i, j, hb⟩ := hb
  rw [z, hb] at e
  exact n _ (Option.some.inj e).symm
theorem nl_upd {H : Hp} {q : Addr} {xs : List V} {o : HO} (h : H q = some (.lst xs)) : NL H (upd H q o) := fun c u e n => by
  have nq : c ≠ q := fun z => by
    rw [z, h] at e
    exact n _ (Option.some.inj e).symm
  rw [upd_ne nq]
  exact e
theorem NL.tup {H H' : Hp} {a : Addr} {xs : List V} (n : NL H H') (h : H a = some (.tup xs)) : H' a = some (.tup xs) := n _ _ h fun _ z => by cases z
theorem NL.ins {H H' : Hp} {a C dx : Addr} {fs : List (Str × V)} (n : NL H H') (h : H a = some (.ins C dx fs)) : H' a = some (.ins C dx fs) := n _ _ h fun _ z => by cases z
def spSeed (K : PySem.W.Frag) : Sp := fun vs H Q _ => ∃ (a : Addr) (ns : List Int) (k : Nat), vs = [.ref a, .int k] ∧ SqL K H a (ns.map V.int) ∧
  ∀ p H', H p = none → Same H H' → Box H' p → Q (.ref p) H'
def spChoose : Sp := fun vs H Q _ => ∃ (b : Addr) (m : Int), vs = [.ref b, .int m] ∧ Box H b ∧ 0 < m ∧ m < 1073741824 ∧
  ∀ (d : Int) H', 0 ≤ d → d < m → Up b H H' → Q (.int d) H'
def spOneOf : Sp := fun vs H Q _ => ∃ (b l : Addr) (xs : List V), vs = [.ref b, .ref l] ∧ Box H b ∧ H l = some (.lst xs) ∧ l ≠ b ∧ 0 < xs.length ∧ xs.length < 1000 ∧
  ∀ (v : V) H', v ∈ xs → Up b H H' → Q v H'
theorem cell_at {ns : List Int} {k : Int} (h0 : 0 ≤ k) (h1 : k < ns.length) : ∃ z, atI (ns.map V.int) k = some (V.int z) := by
  obtain ⟨j, rfl⟩ := Int.eq_ofNat_of_zero_le h0
  have h2 : j < ns.length := by omega
  exact ⟨ns[j], atI_nat (by simp [h2])⟩
section
variable {P : Program} {w : World} {K : PySem.W.Frag} {mg : Str → Option Value} {base : Heap}
theorem sc_l_choose : FnScope ["_law_box", "_law_many", "_law_digit", "_law_raw"] ["_law_box", "_law_many"] (fnScope s_l_choose) := fnScope_by (by decide +kernel)
theorem cal_l_choose {f : Addr} {fd : FuncData} (F : Def K mg "_law_choose" s_l_choose f fd) (b : Binds K fd ["_law_box", "_law_many"] []) (T : Tx mg) : Cal P w K mg base 1 "_law_choose" spChoose [] := by
  refine cal0 F b .nil sc_l_choose (fun vs H Q E h => ?_) (fun cdv A outer s H vs Q E hr h => ?_)
  · obtain ⟨_, _, rfl, _⟩ := h; rfl
  · obtain ⟨bx, m, rfl, ⟨x, y, hb⟩, m0, m1, k⟩ := h
    refine ⟨_, (pss_cons (ps_if (pt_cmpR op_gt (pe_ix ix_list (pv 0) pe_int (fun _ _ => rfl)) pe_int (nomark _)) (pss_cons (ps_set (i := 2) sc_l_choose.nd rfl (.inl rfl) (pe_op op_mod (pe_callTy call_int1 (by rfl) T.b_int (by decide +kernel) (pa_cons (pe_ix ix_list (pv 0) pe_int (fun _ _ => rfl)) pa_nil)) (pv 1)))
    (pss_cons (ps_asg (pe_op op_fdiv (pe_ix ix_list (pv 0) pe_int (fun _ _ => rfl)) (pv 1)) (pg_sub (pv 0) pe_int set_list))
    (pss_one (ps_ret (pv 2))))) pss_nil)
    (pss_cons (ps_set (i := 3) sc_l_choose.nd rfl (.inl rfl) (pe_op op_mod (pe_callTy call_int1 (by rfl) T.b_int (by decide +kernel) (pa_cons (pe_op op_add (pe_op op_mul (pe_ix ix_list (pv 0) pe_int (fun _ _ => rfl)) pe_int) pe_int) pa_nil)) pe_int))
    (pss_cons (ps_asg (pe_op op_add (pe_op op_mod (pe_callTy call_int1 (by rfl) T.b_int (by decide +kernel) (pa_cons (pe_op op_add (pe_op op_mul (pv 3) pe_int) pe_int) pa_nil)) pe_int) pe_int) (pg_sub (pv 0) pe_int set_list))
    (pss_one (ps_ret (pe_op op_mod (pe_callTy call_int1 (by rfl) T.b_int (by decide +kernel) (pa_cons (pe_op op_fdiv (pe_op op_add (pe_op op_mul (pv 3) pe_int) (pe_ix ix_list (pv 0) pe_int (fun _ _ => rfl))) pe_int) pa_nil)) (pv 1))))))), ?_⟩
    have up : ∀ x' y' : Int, Up bx H (upd H bx (.lst [.int x', .int y'])) := fun x' y' => ⟨fun c o e n => by rw [upd_ne n]; exact e, _, _, upd_same⟩
    refine ⟨_, rfl, bx, _, _, _, rfl, rfl, SqL.of hb, atI_nat (j := 0) rfl, _, _, rfl, rfl, _, rfl, ?_⟩
    refine ite2 (fun h1 => ?_) (fun h1 => ?_)
    · refine ⟨_, rfl, bx, _, _, _, rfl, rfl, SqL.of hb, atI_nat (j := 0) rfl, .inl ⟨_, rfl, _, rfl, _, _, rfl, rfl, m0, ?_⟩⟩
      refine ⟨_, rfl, bx, _, _, _, rfl, rfl, SqL.of hb, atI_nat (j := 0) rfl, _, rfl, _, _, rfl, rfl, ⟨m0, m1⟩, _, rfl, bx, _, _, 0, rfl, rfl, hb, rfl, ?_⟩
      exact ⟨_, rfl, k _ _ (Int.emod_nonneg _ (by omega)) (Int.emod_lt_of_pos _ m0) (up _ _)⟩
    · refine ⟨_, rfl, bx, _, _, _, rfl, rfl, SqL.of hb, atI_nat (j := 1) rfl, _, _, rfl, rfl, .inr ⟨by decide, by decide⟩, _, _, rfl, rfl, .inl ⟨_, rfl, _, _, rfl, rfl, (by show (0 : Int) < 2147483563; decide), ?_⟩⟩
      refine ⟨_, rfl, _, _, rfl, rfl, .inr ⟨by decide, by decide⟩, _, _, rfl, rfl, .inl ⟨_, rfl, _, _, rfl, rfl, (by show (0 : Int) < 2147483629; decide), _, _, rfl, rfl, _, rfl, bx, _, _, 1, rfl, rfl, hb, rfl, ?_⟩⟩
      refine ⟨_, rfl, _, _, rfl, rfl, .inr ⟨by decide, by decide⟩, _, rfl, bx, _, _, _, rfl, rfl, SqL.of upd_same, atI_nat (j := 1) rfl, _, _, rfl, rfl, _, _, rfl, rfl, ⟨by decide, by decide⟩, .inl ⟨_, rfl, _, rfl, _, _, rfl, rfl, m0, ?_⟩⟩
      exact k _ _ (Int.emod_nonneg _ (by omega)) (Int.emod_lt_of_pos _ m0) (up _ _)
theorem sc_l_seed : FnScope ["_law_script", "_law_k", "_law_cell"] ["_law_script", "_law_k"] (fnScope s_l_seed) := fnScope_by (by decide +kernel)
theorem cal_l_seed {f : Addr} {fd : FuncData} (F : Def K mg "_law_seed" s_l_seed f fd) (b : Binds K fd ["_law_script", "_law_k"] []) (T : Tx mg) : Cal P w K mg base 1 "_law_seed" (spSeed K) [] := by
  refine cal0 F b .nil sc_l_seed (fun vs H Q E h => ?_) (fun cdv A outer s H vs Q E hr h => ?_)
  · obtain ⟨_, _, _, rfl, _⟩ := h; rfl
  · obtain ⟨a, ns, n, rfl, hS, k⟩ := h
    refine ⟨_, (pss_cons (ps_set (i := 2) sc_l_seed.nd rfl (.inl rfl) (pe_op op_add (pe_op op_mul pe_int (pv 1)) pe_int))
    (pss_cons (ps_if (pt_cmpR op_lt (pv 1) (pe_callB call_len_seq (by rfl) T.b_len (by decide +kernel) (pa_cons (pv 0) pa_nil)) (nomark _)) (pss_one (ps_set (i := 2) sc_l_seed.nd rfl (.inl rfl) (pe_callB call_abs (by rfl) T.b_abs (by decide +kernel) (pa_cons (pe_ix ix_list (pv 0) (pv 1) (fun _ _ => rfl)) pa_nil)))) (pss_one (ps_if (pt_cmpR op_gt (pe_callB call_len_seq (by rfl) T.b_len (by decide +kernel) (pa_cons (pv 0) pa_nil)) pe_int (nomark _)) (pss_one (ps_set (i := 2) sc_l_seed.nd rfl (.inl rfl) (pe_op op_add (pv 2) (pe_op op_mul (pe_op op_mod (pe_callTy call_int1 (by rfl) T.b_int (by decide +kernel) (pa_cons (pe_callB call_abs (by rfl) T.b_abs (by decide +kernel) (pa_cons (pe_ix ix_list (pv 0) (pe_op op_mod (pe_callTy call_int1 (by rfl) T.b_int (by decide +kernel) (pa_cons (pv 1) pa_nil)) (pe_callB call_len_seq (by rfl) T.b_len (by decide +kernel) (pa_cons (pv 0) pa_nil))) (fun _ _ => rfl)) pa_nil)) pa_nil)) pe_int) pe_int)))) pss_nil)))
    (pss_one (ps_ret (pe_lst (pa_cons (pe_ifExp (pt_cmpR op_ge (pv 2) (pe_op op_pow pe_int pe_int) (nomark _)) (pv 2) pe_int) (pa_cons (pe_op op_add (pe_op op_mod (pe_callTy call_int1 (by rfl) T.b_int (by decide +kernel) (pa_cons (pe_op op_add (pe_op op_mul (pe_op op_mod (pe_callTy call_int1 (by rfl) T.b_int (by decide +kernel) (pa_cons (pv 2) pa_nil)) pe_int) pe_int) (pe_op op_mul pe_int (pv 1))) pa_nil)) pe_int) pe_int) pa_nil))))))), ?_⟩
    have fin : ∀ z : Int, tRet (tLst (tCons (tIf (tTest (tOp (rI0 fun i j => V.bl (decide (j ≤ i))) (tVar 2) (tOp (rI CPow fun i j => V.int (i ^ j.toNat)) (tC (V.int 10)) (tC (V.int 18))))) (tVar 2) (tC (V.int 0))) (tCons (tOp (rI0 fun i j => V.int (i + j)) (tOp (rI (fun _ j => 0 < j) fun i j => V.int (i % j)) (tCB (fun xs H Q => (∃ i, xs = [V.int i] ∧ Q (V.int i) H) ∨ ∃ k, xs = [V.bl k] ∧ Q (V.int (if k = true then 1 else 0)) H) (tCons (tOp (rI0 fun i j => V.int (i + j)) (tOp (rI CMul fun i j => V.int (i * j)) (tOp (rI (fun _ j => 0 < j) fun i j => V.int (i % j)) (tCB (fun xs H Q => (∃ i, xs = [V.int i] ∧ Q (V.int i) H) ∨ ∃ k, xs = [V.bl k] ∧ Q (V.int (if k = true then 1 else 0)) H) (tCons (tVar 2) tNil)) (tC (V.int 2147483629))) (tC (V.int 48271))) (tOp (rI CMul fun i j => V.int (i * j)) (tC (V.int 39019)) (tVar 1))) tNil)) (tC (V.int 2147483629))) (tC (V.int 1))) tNil))) { nx := fun _ H' => Q .non H', rt := Q } [some (.ref a), some (.int n), some (.int z)] H := by
      intro z
      refine ⟨_, rfl, _, _, rfl, rfl, ⟨by decide, by decide, by decide⟩, _, _, rfl, rfl, _, rfl, ?_⟩
      refine ite2 (fun h1 => ?_) (fun h1 => ?_)
      all_goals
        first
          | refine ⟨_, rfl, _, rfl, .inl ⟨_, rfl, _, _, rfl, rfl, (by show (0 : Int) < 2147483629; decide), _, _, rfl, rfl, .inr ⟨by decide, by decide⟩, _, rfl, _, _, rfl, rfl, .inl ⟨by decide, by decide⟩, _, _, rfl, rfl, .inl ⟨_, rfl, _, _, rfl, rfl, (by show (0 : Int) < 2147483629; decide), _, _, rfl, rfl, ?_⟩⟩⟩
          | refine ⟨_, rfl, .inl ⟨_, rfl, _, _, rfl, rfl, (by show (0 : Int) < 2147483629; decide), _, _, rfl, rfl, .inr ⟨by decide, by decide⟩, _, rfl, _, _, rfl, rfl, .inl ⟨by decide, by decide⟩, _, _, rfl, rfl, .inl ⟨_, rfl, _, _, rfl, rfl, (by show (0 : Int) < 2147483629; decide), _, _, rfl, rfl, ?_⟩⟩⟩
        exact ⟨by show 2 ≤ sizeLine; decide, fun p hp => k p _ hp (same_upd hp) ⟨_, _, upd_same⟩⟩
    refine ⟨_, rfl, _, _, rfl, rfl, .inl ⟨by decide, by decide⟩, _, _, rfl, rfl, ?_⟩
    refine ⟨_, rfl, _, rfl, a, _, rfl, .inl hS, _, _, rfl, rfl, _, rfl, ?_⟩
    refine ite2 (fun h1 => ?_) (fun h1 => ?_)
    · have h2 : (n : Int) < ((ns.map V.int).length : Int) := of_decide_eq_true h1
      rw [List.length_map] at h2
      obtain ⟨z, hz⟩ := cell_at (ns := ns) (by omega : (0 : Int) ≤ n) h2
      refine ⟨_, rfl, _, rfl, a, _, _, _, rfl, rfl, hS, hz, _, rfl, ?_⟩
      exact fin _
    · refine ⟨_, rfl, a, _, rfl, .inl hS, _, _, rfl, rfl, _, rfl, ?_⟩
      refine ite2 (fun h3 => ?_) (fun h3 => ?_)
      · have h4 : (0 : Int) < ((ns.map V.int).length : Int) := of_decide_eq_true h3
        have h5 := h4
        rw [List.length_map] at h5
        obtain ⟨z, hz⟩ := cell_at (ns := ns) (k := (n : Int) % ((ns.map V.int).length : Int)) (Int.emod_nonneg _ (by omega)) (by have := Int.emod_lt_of_pos (n : Int) h4; rw [List.length_map] at this ⊢; exact this)
        refine ⟨_, rfl, _, rfl, _, rfl, .inl ⟨_, rfl, _, rfl, a, _, rfl, .inl hS, _, _, rfl, rfl, h4, a, _, _, _, rfl, rfl, hS, hz, _, rfl, .inl ⟨_, rfl, _, _, rfl, rfl, (by show (0 : Int) < 2147483629; decide), _, _, rfl, rfl, .inr ⟨by decide, by decide⟩, _, _, rfl, rfl, ?_⟩⟩⟩
        exact fin _
      · exact fin _
theorem sc_l_one_of : FnScope ["_law_box", "_law_some"] ["_law_box", "_law_some"] (fnScope s_l_one_of) := fnScope_by (by decide +kernel)
theorem cal_l_one_of {f : Addr} {fd : FuncData} (F : Def K mg "_law_one_of" s_l_one_of f fd) (b : Binds K fd ["_law_box", "_law_some"] []) (T : Tx mg) (c_l_choose : Cal P w K mg base 1 "_law_choose" spChoose []) : Cal P w K mg base 2 "_law_one_of" spOneOf [] := by
  refine cal0 F b .nil sc_l_one_of (fun vs H Q E h => ?_) (fun cdv A outer s H vs Q E hr h => ?_)
  · obtain ⟨_, _, _, rfl, _⟩ := h; rfl
  · obtain ⟨bx, l, xs, rfl, hb, hl, nl, x0, x1, k⟩ := h
    refine ⟨_, (pss_one (ps_ret (pe_ix ix_list (pv 1) (pe_c c_l_choose hr (by decide) rfl (pa_cons (pv 0) (pa_cons (pe_callB call_len_seq (by rfl) T.b_len (by decide +kernel) (pa_cons (pv 1) pa_nil)) pa_nil))) (fun _ _ => rfl)))), ?_⟩
    refine ⟨_, rfl, _, rfl, _, rfl, l, _, rfl, .inl (SqL.of hl), bx, _, rfl, hb, by omega, by omega, fun d H' d0 d1 u => ?_⟩
    obtain ⟨j, rfl⟩ := Int.eq_ofNat_of_zero_le d0
    have hj : j < xs.length := by omega
    have g : xs[j]? = some xs[j] := by simp [hj]
    exact ⟨l, xs, _, xs[j], rfl, rfl, SqL.of (u.1 l _ hl nl), atI_nat g, k _ _ (List.getElem_mem hj) u⟩
end
end U
set_option maxRecDepth 100000
set_option maxHeartbeats 4000000
namespace U
open PySem PySem.Spec PyProof.Rows
open L2 hiding Fun CX0 E0 pass0 Fun.binds
open C8 Lx SX
def isW (z : Str) : Bool := z.cps.toList.all fun c => decide (c ∈ ("01" : Str).cps.toList)
theorem isW_W (l : List Bool) : isW (W l) = true := by
  unfold isW
  rw [W_tl, List.all_map, List.all_eq_true]
  intro b _
  cases b <;> decide +kernel
def spIsWord (K : PySem.W.Frag) : Sp := fun vs H Q _ => ∃ x, vs = [x] ∧ ((∃ z : Str, x = .str z ∧ z.length ≤ 100000 ∧ ∀ H', Same H H' → Q (.bl (isW z)) H') ∨
  (∃ t, TyX K H x t ∧ PySem.W.kitOne K t (.type "str") = some false ∧ Q (.bl false) H))
theorem spIsWord.word {K : PySem.W.Frag} {H : Hp} {Q : VK} {E : XK} {l : List Bool} (hl : l.length ≤ 100000) (k : ∀ H', Same H H' → Q (.bl true) H') : spIsWord K [.str (W l)] H Q E :=
  ⟨_, rfl, .inl ⟨_, rfl, by rw [W_len]; exact hl, fun H' s => by rw [isW_W]; exact k H' s⟩⟩
section
variable {P : Program} {w : World} {K : PySem.W.Frag} {mg : Str → Option Value} {base : Heap}
end
end U
set_option maxRecDepth 100000
set_option maxHeartbeats 4000000
namespace U
open PySem PySem.Spec PyProof.Rows
open L2 hiding Fun CX0 E0 pass0 Fun.binds
open C8 Lx SX
def AnyS (K : PySem.W.Frag) (H : Hp) (x : V) : Prop := (∃ z : Str, x = .str z ∧ z.length ≤ 10000 ∧ PyData.strOk z = true) ∨ ((∀ z, x ≠ .str z) ∧ ∃ t, PySem.W.kitOne K t (.type "str") = some false ∧ ∀ H', Same H H' → TyX K H' x t)
theorem AnyS.same {K : PySem.W.Frag} {H H' : Hp} {x : V} (h : AnyS K H x) (s : Same H H') : AnyS K H' x := by
  rcases h with h | ⟨h1, t, h2, h3⟩
  · exact .inl h
  · exact .inr ⟨h1, t, h2, fun H2 s2 => h3 H2 (s.trans s2)⟩
def AnyU (K : PySem.W.Frag) (b : Addr) (H : Hp) (x : V) : Prop := ∀ H', Up b H H' → AnyS K H' x
theorem AnyU.up {K : PySem.W.Frag} {b : Addr} {H H' : Hp} {x : V} (h : AnyU K b H x) (u : Up b H H') : AnyU K b H' x := fun H2 u2 => h H2 (u.trans u2)
theorem AnyU.now {K : PySem.W.Frag} {b : Addr} {H : Hp} {x : V} (h : AnyU K b H x) (hb : Box H b) : AnyS K H x := h H (Up.refl hb)
theorem anyS_str {K : PySem.W.Frag} {H : Hp} {z : Str} (h : z.length ≤ 10000) (o : PyData.strOk z = true) : AnyS K H (.str z) := .inl ⟨z, rfl, h, o⟩
theorem anyS_non {K : PySem.W.Frag} {H : Hp} : AnyS K H .non := .inr ⟨(fun _ z => by cases z), _, kit_ty (by decide +kernel), fun _ _ => .base .non⟩
theorem anyS_bl {K : PySem.W.Frag} {H : Hp} (x : Bool) : AnyS K H (.bl x) := .inr ⟨(fun _ z => by cases z), _, kit_ty (by decide +kernel), fun _ _ => .base (.bl x)⟩
theorem anyS_int {K : PySem.W.Frag} {H : Hp} (i : Int) : AnyS K H (.int i) := .inr ⟨(fun _ z => by cases z), _, kit_ty (by decide +kernel), fun _ _ => .base (.int i)⟩
theorem anyS_lst {K : PySem.W.Frag} {H : Hp} {a : Addr} {xs : List V} (e : H a = some (.lst xs)) : AnyS K H (.ref a) := .inr ⟨(fun _ z => by cases z), _, kit_ty (by decide +kernel), fun _ s => .base (.lst (s _ _ e))⟩
theorem anyS_tup {K : PySem.W.Frag} {H : Hp} {a : Addr} {xs : List V} (e : H a = some (.tup xs)) : AnyS K H (.ref a) := .inr ⟨(fun _ z => by cases z), _, kit_ty (by decide +kernel), fun _ s => .base (.tup (s _ _ e))⟩
theorem anyU_str {K : PySem.W.Frag} {b : Addr} {H : Hp} {z : Str} (h : z.length ≤ 10000) (o : PyData.strOk z = true) : AnyU K b H (.str z) := fun _ _ => anyS_str h o
theorem anyU_lst {K : PySem.W.Frag} {b : Addr} {H : Hp} {a : Addr} {xs : List V} (e : H a = some (.lst xs)) (n : a ≠ b) : AnyU K b H (.ref a) := fun _ u => anyS_lst (u.1 _ _ e n)
theorem anyU_tup {K : PySem.W.Frag} {b : Addr} {H : Hp} {a : Addr} {xs : List V} (hb : Box H b) (e : H a = some (.tup xs)) : AnyU K b H (.ref a) := fun _ u => anyS_tup (u.1 _ _ e (hb.neT e))
def wordB : V → Bool
  | .str z => isW z
  | _ => false
theorem AnyS.no {K : PySem.W.Frag} {H : Hp} {x : V} (h : ∀ z, x ≠ .str z) : wordB x = false := by
  unfold wordB
  split
  · exact absurd rfl (h _)
  · rfl
theorem spIsWord.any {K : PySem.W.Frag} {H : Hp} {Q : VK} {E : XK} {x : V} (h : AnyS K H x) (k : ∀ H', Same H H' → Q (.bl (wordB x)) H') : spIsWord K [x] H Q E := by
  rcases h with ⟨z, rfl, hz, _⟩ | ⟨h1, t, h2, h3⟩
  · exact ⟨_, rfl, .inl ⟨z, rfl, by omega, k⟩⟩
  · refine ⟨_, rfl, .inr ⟨t, h3 H (Same.refl H), h2, ?_⟩⟩
    have := k H (Same.refl H)
    rw [AnyS.no (K := K) (H := H) h1] at this
    exact this
def unW (z : Str) : List Bool := z.cps.toList.map fun c => decide (c = 49)
theorem isW_un {z : Str} (h : isW z = true) : z = W (unW z) := by
  refine TL.ext_tl ?_
  have e : TL.tl (W (unW z)) = (unW z).map bt := W_tl _
  rw [e]
  unfold unW
  rw [List.map_map]
  unfold isW at h
  rw [List.all_eq_true] at h
  have e2 : TL.tl z = z.cps.toList := rfl
  rw [e2]
  have key : ∀ l : List Nat, (∀ c ∈ l, decide (c ∈ ("01" : Str).cps.toList) = true) → l = l.map (bt ∘ fun c => decide (c = 49)) := fun l => by
    induction l with
    | nil => intro _; rfl
    | cons c r ih =>
      intro hl
      rw [List.map_cons, ← ih fun u hu => hl u (List.mem_cons_of_mem _ hu)]
      have hc := of_decide_eq_true (hl c List.mem_cons_self)
      have e0 : ("01" : Str).cps.toList = [48, 49] := by decide +kernel
      rw [e0] at hc
      congr 1
      rcases List.mem_cons.mp hc with rfl | hc
      · rfl
      · rw [List.mem_singleton.mp hc]; rfl
  exact key _ h
theorem wordB_W {l : List Bool} : wordB (.str (W l)) = true := isW_W l
theorem wordB_some {x : V} (h : wordB x = true) : ∃ l, x = .str (W l) := by
  unfold wordB at h
  split at h
  · rename_i z
    exact ⟨unW z, by rw [← isW_un h]⟩
  · cases h
end U
set_option maxRecDepth 100000
set_option maxHeartbeats 4000000
namespace Lx
open PySem PySem.Spec PyProof.Rows L2
structure FnAt (P : Program) (w : World) (K : PySem.W.Frag) (mg : Str → Option Value) (base : Heap) (k : Nat) (f : Addr) (fd : FuncData) (ps : List Str) (sp : Sp) : Prop where
  run : ∀ (s : Shared) (H : Hp) (args : Args) (us : List Value) (vs : List V) (Q : VK) (E : XK), Room k callerA → Env0 P w K mg base callerA [] s H → BindsTo s fd args (ps.zip us) → Vals vs us → sp vs H Q E →
    codeAny (model P w) callerA (.call (.ref f) args) (CR C8.CX0 [] P w H s Q E) s
abbrev lawA (x : Str) (st : Stmt) (f : Addr) (cdv : Value) (s : Shared) : Around := callerA.deeper (envOfC x (C8.fnScope st) s.heap.objs.size f cdv)
theorem lawA_guards (x : Str) (st : Stmt) (f : Addr) (cdv : Value) (s : Shared) : (lawA x st f cdv s).guards = some [] := rfl
section
variable {P : Program} {w : World} {K : PySem.W.Frag} {mg : Str → Option Value} {base : Heap}
theorem fn_at {x qual : Str} {st : Stmt} {f : Addr} {fd : FuncData} {N ps : List Str} {k : Nat} {sp : Sp} (F : C8.Fun K x qual st f fd) (S : FnScope N ps (C8.fnScope st)) (len : ∀ vs H Q E, sp vs H Q E → vs.length = ps.length)
    (hbody : ∀ (cdv : Value) (s : Shared) (H : Hp) (vs : List V) (Q : VK) (E : XK), Room k (lawA qual st f cdv s) → sp vs H Q E →
      ∃ t, PSs (cxOf C8.CX0 P w K mg base N qual (C8.fnScope st) f cdv callerA [] s H E).nox (C8.fnBody st) t ∧ t { nx := fun _ H' => Q .non H', rt := Q } (start N vs) H) : FnAt P w K mg base (k + 1) f fd ps sp := by
  obtain ⟨oc, od, dV, kV, doc, pm, an, cdv, ct, osl, rfl, lk, hcd⟩ := F.ex
  refine ⟨fun s H args us vs Q E hr e0 hb r hsp => ?_⟩
  have KX : K.In s.heap := e0.mod.kin.keeps fun b o e => (e0.bs b o e).1
  have lim : s.heap.NoLimit := e0.mod.nolimit.keeps fun b o e => (e0.bs b o e).1
  refine codeAny_call_function hr.depth (KX _ _ lk) rfl S.co S.gen rfl (PySem.W.codeRec_of KX hcd) (hb _ _ _ _ ?_)
  refine wpAny_newFunctionEnv_cells S.kind (fun ⟨n, v⟩ hy => (S.par n (List.of_mem_zip hy).1).imp id fun q => ⟨q, PySem.W.cellsFrom_some _ _ _ (.inl q)⟩) fun env he s1 x => ?_
  subst he
  obtain ⟨t, ht, hq⟩ := hbody cdv s H vs Q E (hr.deeper _) hsp
  refine ⟨lim.keeps x.toInCall.keep, codeAny_func (wpAny_mono (ht.nox.run [] s1 (start N vs) H _ (inv_start S hr.hd e0 (len _ _ _ _ hsp) r x) hq) (fun fl s' hs => ?_) fun e s' hs => hs)⟩
  match fl, hs with
  | .ret u, ⟨v, σ', H', J, rv, q⟩ => exact ⟨v, H', J.os, J.bare, J.base, J.hok, rv, q⟩
  | .next, ⟨σ', H', J, q⟩ => exact ⟨V.non, H', J.os, J.bare, J.base, J.hok, rfl, q⟩
  | .brk, ⟨_, _, _, q⟩ => exact False.elim q
  | .cont, ⟨_, _, _, q⟩ => exact False.elim q
end
def rReprD (K : PySem.W.Frag) : List V → Hp → VK → Prop := fun xs H Q => ∃ (a : Addr) (d : PyData), xs = [.ref a] ∧ Dp K H (.ref a) d ∧ d.showable = true ∧ d.hasDict = false ∧ d.depth ≤ 64 ∧ d.shown.length ≤ sizeLine ∧ Q (.str d.shown) H
theorem call_reprD {X : Cx} (hg : X.A.guards = some []) (hu : X.A.units + 65 < cLine) : CallR X (.builtin "repr") (rReprD X.K) := by
  intro pins s σ H xs us Q I r h
  obtain ⟨a, d, rfl, hd, h1, h2, h3, h4, q⟩ := h
  cases r with
  | cons r rr =>
    cases rr
    obtain ⟨as, rd⟩ := Dp.reads I d _ _ hd r
    cases r
    exact repr_of_reads' rd h1 (fun e => by rw [h2] at e; cases e) hg (by omega) (fun _ _ e => e) (fun h' u tk hk => ⟨.str d.shown, H, I.kept (h' := h') (t' := tk) hk, ⟨_, rfl⟩, q⟩) h4
theorem law_at {P : Program} {w : World} {K : PySem.W.Frag} {mg mb : Str → Option Value} {k : Nat} {fa a : Addr} {fd : FuncData} {x : Str} {sp : Sp} {s₁ : Shared} {vs : List Value} {ns : List Int}
    (KX : K.In s₁.heap) (hns : s₁.heap.Ns mainGlobals mg) (hb : s₁.heap.Ns builtinsNs mb) (hbb : ∀ x : Str, x ≠ "__name__" → mb x = bootBuiltins x) (hlim : s₁.heap.NoLimit) (hg : s₁.gens = #[])
    (ha : s₁.heap.get? a = some { cls := .type "list", data := .seq vs.toArray }) (hi : IntsAre vs ns) (hl : ns.length ≤ sizeLine) (hr : Room k callerA)
    (F : ∀ base : Heap, K.In base → base.Ns mainGlobals mg → FnAt P w K mg base k fa fd [x] sp) (hbind : ∀ (s : Shared) (u : Value), BindsTo s fd ⟨[u], []⟩ [(x, u)])
    (hsp : ∀ H : Hp, Only H → SqL K H a (ns.map V.int) → sp [.ref a] H (fun v _ => v = .bl true) fun _ _ _ => False) :
    codeAny (model P w) callerA (.call (.ref fa) ⟨[.ref a], []⟩) (fun r s' => r = .ok (.ret (.bool true)) ∧ OldK s₁.heap s'.heap ∧ s'.os = s₁.os ∧ AllBare s'.gens) s₁ := by
  have key : ∀ H : Hp, Only H → SqL K H a (ns.map V.int) → HOk P w H s₁.heap → (∀ b, H b ≠ none → b = a) → (H a ≠ none → K.lookup a = none) →
      codeAny (model P w) callerA (.call (.ref fa) ⟨[.ref a], []⟩) (fun r s' => r = .ok (.ret (.bool true)) ∧ OldK s₁.heap s'.heap ∧ s'.os = s₁.os ∧ AllBare s'.gens) s₁ := fun H hO hS hok hA hK => by
    have out : ∀ b, b ≠ a → H b = none := fun b hb => Classical.byContradiction fun z => hb (hA b z)
    have nsK : ∀ {b : Addr} {m : Str → Option Value}, s₁.heap.Ns b m → (hidT s₁.heap H).Ns b m := fun {b m} ⟨o, es, ep, e, d, r⟩ => ⟨o, es, ep, hidT_get e (out b fun z => by
      rw [z, ha] at e
      obtain rfl := Option.some.inj e
      cases d), d, r⟩
    have hKb : K.In (hidT s₁.heap H) := fun b o e => hidT_get (KX b o e) (Classical.byContradiction fun z => by
      have e' := hA b z
      rw [e'] at e z
      rw [hK z] at e
      cases e)
    have hM : Mod K mg (hidT s₁.heap H) := ⟨hKb, nsK hns, ⟨mb, nsK hb, hbb⟩, let ⟨mc, h1, h2⟩ := hlim; ⟨mc, nsK h1, h2⟩⟩
    have e0 : Env0 P w K mg (hidT s₁.heap H) callerA [] s₁ H := ⟨rfl, hM, fun b o e => of_hidT e, Nat.le_of_eq (hidT_size _ _), trivial, (fun b hb => nomatch hb), hok, .of_eq hg⟩
    refine codeAny_mono ((F _ hKb (nsK hns)).run s₁ H ⟨[.ref a], []⟩ [.ref a] [.ref a] _ _ hr e0 (hbind s₁ (.ref a)) (.cons rfl .nil) (hsp H hO hS)) fun r s' h => ?_
    match r, h with
    | .error e, h => exact h.elim
    | .ok .next, h => exact False.elim h
    | .ok .brk, h => exact False.elim h
    | .ok .cont, h => exact False.elim h
    | .ok (.ret u), ⟨v, H', os, bare, un, hok', r', q⟩ =>
      obtain rfl : v = .bl true := q
      obtain rfl : u = Value.bool true := r'
      refine ⟨rfl, OldK.of_keep fun b o e => ?_, os, bare⟩
      cases q : H b with
      | none => exact un.keep b o e q (fun z => nomatch (show b ∈ ([] : List Addr) from z)) (by simp)
      | some u =>
        rcases hO b with z | ⟨ob, xs, z⟩
        · rw [q] at z; cases z
        · obtain ⟨e1, _⟩ := hok b _ z
          obtain ⟨e2, _⟩ := hok' b _ (un.frzs b ob _ z)
          rw [e] at e1
          cases e1
          exact e2
  have rv := vals_ints hi
  have lv := hi.length
  cases hk : K.lookup a with
  | some o =>
    have e := KX a o hk
    rw [ha] at e
    cases e
    exact key (fun _ => none) (fun _ => .inl rfl) (.inr ⟨_, vs.toArray, _, hk, rfl, rfl, rfl, by rw [List.size_toArray, lv]; exact hl, by simpa using rv⟩) (fun b u z => nomatch (show (none : Option HO) = some u from z)) (fun b z => absurd rfl z) fun z => absurd rfl z
  | none =>
    have at_ : ∀ {b : Addr} {u : HO}, (if b = a then some (HO.frz { cls := .type "list", data := .seq vs.toArray } (.lst (ns.map V.int))) else none) = some u → b = a ∧ u = .frz { cls := .type "list", data := .seq vs.toArray } (.lst (ns.map V.int)) := fun {b u} z => by
      split at z
      · exact ⟨by assumption, (Option.some.inj z).symm⟩
      · cases z
    refine key (fun b => if b = a then some (.frz { cls := .type "list", data := .seq vs.toArray } (.lst (ns.map V.int))) else none) (fun b => ?_) (.inl (.inr ⟨_, if_pos rfl⟩)) (fun b u z => ?_) (fun b z => ?_) fun _ => hk
    · by_cases hb : b = a
      · exact .inr ⟨_, _, if_pos hb⟩
      · exact .inl (if_neg hb)
    · obtain ⟨rfl, rfl⟩ := at_ z
      exact ⟨ha, by rw [List.length_map]; exact hl, vs, _, rv, ha⟩
    · exact Classical.byContradiction fun hb => z (if_neg hb)
theorem walk_at {l : PySem.W.OpenLaw} {n k : Nat} {q : Program} {loose : List Str} {XP : (Str → Option Value) → Heap → Prop} {YP : World → Heap → Prop} {d : DefRec} {K : Params → PySem.W.Frag} {sp : World → Sp} {x : Str}
    (hn : l.most = some n) (hn2 : n ≤ sizeLine) (hdf : d.params.defaults = []) (hr : Room k callerA) (hY : ∀ (w : World) (h : Heap), YP w h → (K w.params).In h)
    (F : ∀ (w : World) (mg : Str → Option Value) (fa : Addr) (h : Heap), (K w.params).In h → h.Ns mainGlobals mg → mg d.name = some (.ref fa) →
      ∃ fd : FuncData, (∀ (s : Shared) (u : Value), BindsTo s fd ⟨[u], []⟩ [(x, u)]) ∧ ∀ base : Heap, (K w.params).In base → base.Ns mainGlobals mg → FnAt l.prog w (K w.params) mg base k fa fd [x] (sp w))
    (hsp : ∀ (w : World) (H : Hp) (a : Addr) (ns : List Int), ns.length ≤ n → Only H → SqL (K w.params) H a (ns.map V.int) → sp w [.ref a] H (fun v _ => v = .bl true) fun _ _ _ => False) :
    PySem.W.WalkO q loose XP YP l.row.toRowW d [] (fun f vs => PySem.call f vs) := by
  refine Att.attach_call hn hdf fun w s₀ s₁ mg mb fa o pm cd doc a vs ns G Y ho hd hcd hmg hobj hints hlen hg => ?_
  obtain ⟨fd, hb, hF⟩ := F w mg fa _ (hY w _ Y) G.T.g hmg
  exact law_at (hY w _ Y) G.T.g G.T.b G.T.builtins G.T.nolimit hg hobj hints (Nat.le_trans hlen hn2) hr hF hb fun H hO hS => hsp w H a ns hlen hO hS
end Lx
set_option maxRecDepth 100000
set_option maxHeartbeats 4000000
namespace U
open PySem PySem.Spec PyProof.Rows
open L2 hiding Fun CX0 E0 pass0 Fun.binds
open C8 Lx SX
def lfV : List V := [.non, .bl true, .bl false, .int 0, .int 1, .int (0 - 1), .int 2, .str "", .str "0", .str "1", .str "01", .str "turn", .str "012", .str " 0", .str "cut"]
def LB : Nat → Nat
  | 0 => 8
  | n + 1 => 3 * LB n + 9
structure Shw (n B : Nat) (d : PyData) : Prop where
  sh : d.showable = true
  nd : d.hasDict = false
  dp : d.depth ≤ n
  ln : d.shown.length ≤ B
theorem Shw.mono {n m B C : Nat} {d : PyData} (h : Shw n B d) (hn : n ≤ m) (hB : B ≤ C) : Shw m C d := ⟨h.sh, h.nd, Nat.le_trans h.dp hn, Nat.le_trans h.ln hB⟩
theorem shw_all {n B : Nat} : ∀ {ds : List PyData}, (∀ d ∈ ds, Shw n B d) → PyData.showableAll ds = true ∧ PyData.hasDictAll ds = false ∧ PyData.depthAll ds ≤ n ∧ ((PyData.shownAll ds).map (·.length)).sum ≤ ds.length * B ∧ (PyData.shownAll ds).length = ds.length
  | [], _ => ⟨rfl, rfl, Nat.zero_le _, Nat.zero_le _, rfl⟩
  | d :: r, h => by
    obtain ⟨a1, a2, a3, a4, a5⟩ := shw_all (ds := r) fun e he => h e (List.mem_cons_of_mem _ he)
    have hd := h d List.mem_cons_self
    refine ⟨?_, ?_, ?_, ?_, ?_⟩
    · simp only [PyData.showableAll, hd.sh, a1, Bool.and_self]
    · simp only [PyData.hasDictAll, hd.nd, a2, Bool.or_self]
    · simp only [PyData.depthAll]
      exact Nat.max_le.mpr ⟨hd.dp, a3⟩
    · simp only [PyData.shownAll, List.map_cons, List.sum_cons, List.length_cons]
      have := hd.ln
      rw [Nat.add_mul]
      omega
    · simp only [PyData.shownAll, List.length_cons, a5]
theorem shw_list {n B : Nat} {ds : List PyData} (h : ∀ d ∈ ds, Shw n B d) : Shw (n + 1) (ds.length * B + 2 * ds.length + 3) (.list ds) := by
  obtain ⟨a1, a2, a3, a4, a5⟩ := shw_all h
  refine ⟨by simp only [PyData.showable, a1], by simp only [PyData.hasDict, a2], by simp only [PyData.depth]; omega, ?_⟩
  simp only [PyData.shown]
  have := listText_len_le (PyData.shownAll ds)
  rw [a5] at this
  omega
theorem shw_tup {n B : Nat} {ds : List PyData} (h : ∀ d ∈ ds, Shw n B d) : Shw (n + 1) (ds.length * B + 2 * ds.length + 3) (.tuple ds) := by
  obtain ⟨a1, a2, a3, a4, a5⟩ := shw_all h
  refine ⟨by simp only [PyData.showable, a1], by simp only [PyData.hasDict, a2], by simp only [PyData.depth]; omega, ?_⟩
  simp only [PyData.shown]
  have := tupleText_len_le (PyData.shownAll ds)
  rw [a5] at this
  omega
def DaK (K : PySem.W.Frag) (n : Nat) (P : Hp → Prop) (v : V) : Prop := ∃ d, Shw n (LB n) d ∧ ∀ H, P H → Dp K H v d
theorem DaK.mono {K : PySem.W.Frag} {n : Nat} {P P' : Hp → Prop} {v : V} (h : DaK K n P v) (m : ∀ H, P' H → P H) : DaK K n P' v := by
  obtain ⟨d, h1, h2⟩ := h
  exact ⟨d, h1, fun H p => h2 H (m H p)⟩
theorem LB_le (n : Nat) : 8 ≤ LB n := by
  induction n with
  | zero => exact Nat.le_refl _
  | succ n ih => show 8 ≤ 3 * LB n + 9; omega
def lfD : V → PyData
  | .bl x => .bool x
  | .int i => .int i
  | .str z => .str z
  | _ => .none
theorem lf_sm : ∀ v ∈ lfV, (match v with | .non => true | .bl _ => true | .int _ => true | .str _ => true | _ => false) = true ∧ (lfD v).showable = true ∧ (lfD v).shown.length ≤ 8 := by
  have h : lfV.all (fun v => (match v with | .non => true | .bl _ => true | .int _ => true | .str _ => true | _ => false) && ((lfD v).showable && decide ((lfD v).shown.length ≤ 8))) = true := by decide +kernel
  intro v hv
  have := List.all_eq_true.mp h v hv
  rw [Bool.and_eq_true, Bool.and_eq_true, decide_eq_true_iff] at this
  exact this
theorem DaK.leaf {K : PySem.W.Frag} {n : Nat} {P : Hp → Prop} {v : V} (hv : v ∈ lfV) : DaK K n P v := by
  obtain ⟨h1, h2, h3⟩ := lf_sm v hv
  have l8 := LB_le n
  refine ⟨lfD v, ⟨h2, ?_, ?_, by omega⟩, fun H _ => ?_⟩
  · cases v <;> first | rfl | cases h1
  · cases v <;> first | exact Nat.zero_le _ | cases h1
  · cases v with
    | non => exact .non
    | bl x => exact .bl x
    | int i => exact .int i
    | str z => exact .str z
    | _ => cases h1
theorem all_da {K : PySem.W.Frag} {n : Nat} {P : Hp → Prop} : ∀ {xs : List V}, (∀ x ∈ xs, DaK K n P x) → ∃ ds, (∀ d ∈ ds, Shw n (LB n) d) ∧ ds.length = xs.length ∧ ∀ H, P H → DpAll K H xs ds
  | [], _ => ⟨[], (fun _ h => nomatch h), rfl, fun _ _ => .nil⟩
  | x :: r, h => by
    obtain ⟨d, h1, h2⟩ := h x List.mem_cons_self
    obtain ⟨ds, h3, h4, h5⟩ := all_da (xs := r) fun y hy => h y (List.mem_cons_of_mem _ hy)
    refine ⟨d :: ds, fun e he => ?_, by rw [List.length_cons, List.length_cons, h4], fun H p => .cons (h2 H p) (h5 H p)⟩
    rcases List.mem_cons.mp he with rfl | he
    · exact h1
    · exact h3 e he
theorem DaK.seq {K : PySem.W.Frag} {n : Nat} {P : Hp → Prop} {a : Addr} {xs : List V} (l : xs.length ≤ 3) (h : ∀ x ∈ xs, DaK K n P x) (one : (∀ H, P H → H a = some (.lst xs)) ∨ (∀ H, P H → H a = some (.tup xs))) : DaK K (n + 1) P (.ref a) := by
  obtain ⟨ds, h1, h2, h3⟩ := all_da h
  have hb : ds.length * LB n + 2 * ds.length + 3 ≤ LB (n + 1) := by
    show _ ≤ 3 * LB n + 9
    have : ds.length * LB n ≤ 3 * LB n := Nat.mul_le_mul_right _ (by omega)
    omega
  rcases one with o | o
  · exact ⟨.list ds, (shw_list h1).mono (Nat.le_refl _) hb, fun H p => .lst (SqL.of (o H p)) (h3 H p)⟩
  · exact ⟨.tuple ds, (shw_tup h1).mono (Nat.le_refl _) hb, fun H p => .tup (SqT.of (o H p)) (h3 H p)⟩
def DaX (K : PySem.W.Frag) (n : Nat) (H H' : Hp) (v : V) : Prop := DaK K n (fun H'' => ∀ c o, H c = none → H' c = some o → H'' c = some o) v
def spLeafV : Sp := fun vs H Q _ => ∃ b : Addr, vs = [.ref b] ∧ Box H b ∧ ∀ v H', Up b H H' → v ∈ lfV → Q v H'
def spAnyR (K : PySem.W.Frag) (n : Nat) : Sp := fun vs H Q _ => ∃ b : Addr, vs = [.ref b, .int n] ∧ Box H b ∧ ∀ v H', Up b H H' → DaX K n H H' v → Q v H'
def spAnyS (K : PySem.W.Frag) : Sp := fun vs H Q _ => ∃ (b : Addr) (n : Nat), vs = [.ref b, .int n] ∧ n ≤ 8 ∧ Box H b ∧ ∀ v H', Up b H H' → DaX K n H H' v → Q v H'
section
variable {P : Program} {w : World} {K : PySem.W.Frag} {mg : Str → Option Value} {base : Heap}
theorem sc_l_leaf : FnScope ["_law_box"] ["_law_box"] (fnScope s_l_leaf) := fnScope_by (by decide +kernel)
theorem cal_l_leaf {f : Addr} {fd : FuncData} (F : Def K mg "_law_leaf" s_l_leaf f fd) (b : Binds K fd ["_law_box"] []) (T : Tx mg) (c_l_one_of : Cal P w K mg base 2 "_law_one_of" spOneOf []) : Cal P w K mg base 3 "_law_leaf" spLeafV [] := by
  refine cal0 F b .nil sc_l_leaf (fun vs H Q E h => ?_) (fun cdv A outer s H vs Q E hr h => ?_)
  · obtain ⟨_, rfl, _⟩ := h; rfl
  · obtain ⟨bx, rfl, hb, k⟩ := h
    refine ⟨_, (pss_one (ps_ret (pe_c c_l_one_of hr (by decide) rfl (pa_cons (pv 0) (pa_cons (pe_lst (pa_cons pe_non (pa_cons pe_bl (pa_cons pe_bl (pa_cons pe_int (pa_cons pe_int (pa_cons (pe_op op_sub pe_int pe_int) (pa_cons pe_int (pa_cons pe_str (pa_cons pe_str (pa_cons pe_str (pa_cons pe_str (pa_cons pe_str (pa_cons pe_str (pa_cons pe_str (pa_cons pe_str pa_nil)))))))))))))))) pa_nil))))), ?_⟩
    refine ⟨_, rfl, _, _, rfl, rfl, by show 15 ≤ sizeLine; decide, fun l1 n1 => ?_⟩
    have s1 := same_upd (o := .lst lfV) n1
    exact ⟨bx, l1, _, rfl, hb.same s1, upd_same, hb.ne n1, by show 0 < 15; decide, by show 15 < 1000; decide, fun v H' hv u => k v H' ((Up.of_same hb s1).trans u) hv⟩
theorem sc_l_any : FnScope ["_law_box", "_law_deep", "_law_form", "_law_found", "_law_turn"] ["_law_box", "_law_deep"] (fnScope s_l_any) := fnScope_by (by decide +kernel)
theorem any_fn {f : Addr} {fd : FuncData} (F : Def K mg "_law_any" s_l_any f fd) (b : Binds K fd ["_law_box", "_law_deep"] []) (T : Tx mg) (c_l_choose : Cal P w K mg base 1 "_law_choose" spChoose []) (c_l_leaf : Cal P w K mg base 3 "_law_leaf" spLeafV []) (n : Nat) : FnOk P w K mg base CX0 (4 + n) f fd ["_law_box", "_law_deep"] (spAnyR K n) := by
  induction n with
  | zero =>
    refine fn0 F.fn sc_l_any (fun vs H Q E h => ?_) (fun cdv A outer s H vs Q E hr h => ?_)
    · obtain ⟨_, rfl, _⟩ := h; rfl
    · obtain ⟨bx, rfl, hb, k⟩ := h
      refine ⟨_, (pss_cons (ps_set (i := 2) sc_l_any.nd rfl (.inl rfl) (pe_ifExp (pt_cmpR op_gt (pv 1) pe_int (nomark _)) (pe_c c_l_choose hr (by decide) rfl (pa_cons (pv 0) (pa_cons pe_int pa_nil))) pe_int))
        (pss_cons (ps_if (pt_cmpR op_gt (pv 2) pe_int (nomark _)) (pss_one (ps_ret (pe_c c_l_leaf hr (by decide) rfl (pa_cons (pv 0) pa_nil)))) pss_nil) pss_never)), ?_⟩
      refine ⟨_, rfl, _, _, rfl, rfl, _, rfl, iteDF (by decide) ?_⟩
      refine ⟨_, rfl, _, _, rfl, rfl, _, rfl, iteDT (by decide) ?_⟩
      exact ⟨_, rfl, bx, rfl, hb, fun v H' u hv => k v H' u (DaK.leaf hv)⟩
  | succ n ih =>
    have c_l_any : Cal P w K mg base (4 + n) "_law_any" (spAnyR K n) [] := ⟨f, fd, _, [], ih, F.mgf, F.kp, b, .nil⟩
    refine fn0 F.fn sc_l_any (fun vs H Q E h => ?_) (fun cdv A outer s H vs Q E hr h => ?_)
    · obtain ⟨_, rfl, _⟩ := h; rfl
    · obtain ⟨bx, rfl, hb, k⟩ := h
      refine ⟨_, (pss_cons (ps_set (i := 2) sc_l_any.nd rfl (.inl rfl) (pe_ifExp (pt_cmpR op_gt (pv 1) pe_int (nomark _)) (pe_c c_l_choose hr (by show _ ≤ 4 + n; omega) rfl (pa_cons (pv 0) (pa_cons pe_int pa_nil))) pe_int))
    (pss_cons (ps_if (pt_cmpR op_gt (pv 2) pe_int (nomark _)) (pss_one (ps_ret (pe_c c_l_leaf hr (by show _ ≤ 4 + n; omega) rfl (pa_cons (pv 0) pa_nil)))) pss_nil)
    (pss_cons (ps_setLc (i := 3) (own := [("_law_turn", 4)]) (g := gName 4) (by rfl) sc_l_any.nd rfl rfl (sw_true rfl rfl rfl (by decide +kernel)) (pi_range1 (by rfl) T.b_range (pa_cons (pe_c c_l_choose hr (by show _ ≤ 4 + n; omega) rfl (pa_cons (pv 0) (pa_cons pe_int pa_nil))) pa_nil)) (blkOk_by (own := [("_law_turn", 4)]) (N := ["_law_box", "_law_deep", "_law_form", "_law_found", "_law_turn"]) (sc := fnScope s_l_any) (by decide +kernel)) (fun _ _ _ _ _ => (pg_name (i := 4) sc_l_any.nd rfl (.inl rfl))) (fun _ _ _ _ _ => pts_nil) (fun _ _ _ _ _ => (pe_c c_l_any hr (by show _ ≤ 4 + n; omega) rfl (pa_cons (pv 0) (pa_cons (pe_op op_sub (pv 1) pe_int) pa_nil)))))
    (pss_one (ps_ret (pe_ifExp (pt_cmpR op_eq (pv 2) pe_int (nomark _)) (pe_callTy call_tuple_of (by rfl) T.b_tuple (by decide +kernel) (pa_cons (pv 3) pa_nil)) (pv 3))))))), ?_⟩
      refine ⟨_, rfl, _, _, rfl, rfl, _, rfl, iteDT (by show (0 : Int) < ((n + 1 : Nat) : Int); omega) ?_⟩
      refine ⟨_, rfl, bx, 6, rfl, hb, by decide, by decide, fun d H1 d0 d6 u1 => ?_⟩
      refine ⟨_, rfl, _, _, rfl, rfl, _, rfl, ?_⟩
      by_cases c1 : d > 1
      · refine iteDT c1 ?_
        exact ⟨_, rfl, bx, rfl, u1.2, fun v H' u hv => k v H' (u1.trans u) (DaK.leaf hv)⟩
      · refine iteDF c1 ?_
        refine ⟨_, rfl, bx, 4, rfl, u1.2, by decide, by decide, fun e H2 e0 e4 u2 => ?_⟩
        refine ⟨_, rfl, by omega, by omega, fun D nD => ?_⟩
        have u12 := u1.trans u2
        have Db : D ≠ bx := u2.2.ne nD
        have nD2 : H2 D = none := nD
        have bx2 : ∀ c, H2 c = none → c ≠ bx := fun c e z => by
          obtain ⟨x, y, e'⟩ := u2.2
          rw [z, e'] at e
          cases e
        refine lc_it (walk_range (lo := 0) (n := e.toNat)) (fun i H3 => Up bx H2 H3 ∧ ∃ vs : List V, H3 D = some (.lst vs) ∧ vs.length = i ∧ ∀ v ∈ vs, DaK K n (fun H'' => ∀ c o, H2 c = none → c ≠ D → H3 c = some o → H'' c = some o) v) ⟨(Up.refl u2.2).mut nD Db, [], upd_same, rfl, fun _ h => nomatch h⟩ (fun _ _ _ _ => trivial) ?_ ?_
        · rintro i x H3' H3 hi ⟨u3, vs, hD, lvs, av0⟩ ⟨rfl, rfl⟩
          refine ⟨rfl, _, rfl, _, rfl, _, _, rfl, rfl, bx, by show [V.ref bx, V.int (((n + 1 : Nat) : Int) - 1)] = _; rw [show ((n + 1 : Nat) : Int) - 1 = (n : Int) by omega], u3.2, fun v H4 u4 av => ?_⟩
          refine ⟨_, u4.1 _ _ hD Db, sl_lt (by omega), (u3.trans u4).mut nD Db, vs ++ [v], by rw [upd_same], by rw [List.length_append, lvs]; rfl, fun z hz => ?_⟩
          rcases List.mem_append.mp hz with hz | hz
          · exact (av0 z hz).mono fun H'' hk c o e1 e2 e3 => hk c o e1 e2 (by rw [upd_ne e2]; exact u4.1 _ _ e3 (bx2 c e1))
          · rw [List.mem_singleton.mp hz]
            refine av.mono fun H'' hk c o e1 e2 => ?_
            have cD : c ≠ D := fun z => by rw [z, hD] at e1; cases e1
            have c2 : H2 c = none := by
              cases e' : H2 c with
              | none => rfl
              | some z =>
                by_cases cb : c = bx
                · obtain ⟨x, y, e''⟩ := u3.2
                  rw [cb, e''] at e1
                  cases e1
                · have := u3.1 _ _ e' cb
                  rw [e1] at this
                  cases this
            exact hk c o c2 cD (by rw [upd_ne cD]; exact e2)
        rintro H3 ⟨u3, vs, hD, lvs, av⟩
        have u13 := u12.trans u3
        have l3 : vs.length ≤ 3 := by omega
        have nHD : H D = none := by
          cases e' : H D with
          | none => rfl
          | some z =>
            have := u12.1 _ _ e' Db
            rw [nD2] at this
            cases this
        have nH : ∀ c, H2 c = none → H c = none := fun c e1 => by
          cases e' : H c with
          | none => rfl
          | some z =>
            have := u12.1 _ _ e' (bx2 c e1)
            rw [e1] at this
            cases this
        refine ⟨_, rfl, rfl, _, rfl, ?_⟩
        by_cases c2 : d = 0
        · refine iteDT (by rw [c2]) ?_
          refine ⟨_, rfl, D, _, rfl, .inl ⟨SqL.of hD, fun t nt => ?_⟩⟩
          have st := same_upd (o := .tup vs) nt
          have nHt : H t = none := u13.free nt
          exact k _ _ (u13.same st) (DaK.seq l3 (fun x hx => (av x hx).mono fun H'' hk c o e1 _ e3 => hk c o (nH c e1) (st _ _ e3)) (.inr fun H'' hk => hk _ _ nHt upd_same))
        · refine iteDF (fun z => c2 (V.int.inj z)) ?_
          exact ⟨_, rfl, k _ _ u13 (DaK.seq l3 (fun x hx => (av x hx).mono fun H'' hk c o e1 _ e3 => hk c o (nH c e1) e3) (.inl fun H'' hk => hk _ _ nHD hD))⟩
theorem cal_l_any {f : Addr} {fd : FuncData} (F : Def K mg "_law_any" s_l_any f fd) (b : Binds K fd ["_law_box", "_law_deep"] []) (T : Tx mg) (c_l_choose : Cal P w K mg base 1 "_law_choose" spChoose []) (c_l_leaf : Cal P w K mg base 3 "_law_leaf" spLeafV []) : Cal P w K mg base 12 "_law_any" (spAnyS K) [] := by
  refine ⟨f, fd, _, [], ⟨fun vs H Q E h => ?_, fun A outer s H args us vs Q E hr e0 hb r h => ?_⟩, F.mgf, F.kp, b, .nil⟩
  · obtain ⟨_, _, rfl, _⟩ := h; rfl
  · obtain ⟨bx, n, rfl, hn, hbx, k⟩ := h
    exact (any_fn F b T c_l_choose c_l_leaf n).run A outer s H args us _ Q E (hr.mono (by omega)) e0 hb r ⟨bx, rfl, hbx, k⟩
end
end U
set_option maxRecDepth 100000
set_option maxHeartbeats 4000000
namespace U
open PySem PySem.Spec PyProof.Rows
open L2 hiding Fun CX0 E0 pass0 Fun.binds
open C8 Lx SX
theorem u65 {k : Nat} {A : Around} (r : Room k A) : A.units + 65 < cLine := by have := r.un; omega
def spLaw (K : PySem.W.Frag) : Sp := fun vs H Q _ => ∃ (a : Addr) (ns : List Int), vs = [.ref a] ∧ SqL K H a (ns.map V.int) ∧ ns.length ≤ 63 ∧ ∀ H', Q (.bl true) H'
theorem list_len {ts : List Str} (h : ts ≠ []) : (listText ts).length = piled ts := by
  rw [listText_eq_join, strLen_append, strLen_append, ← join_length_add ts h]
  show 1 + _ + 1 = _
  omega
theorem one_len (d : PyData) : (PyData.shown (.list [d])).length = d.shown.length + 2 := by
  simp only [PyData.shown, PyData.shownAll]
  rw [list_len (List.cons_ne_nil _ _), piled_cons, piled_nil]
theorem two_len (d e : PyData) : (PyData.shown (.list [d, e])).length = d.shown.length + e.shown.length + 4 := by
  simp only [PyData.shown, PyData.shownAll]
  rw [list_len (List.cons_ne_nil _ _), piled_cons, piled_cons, piled_nil]
  omega
theorem rep_all (n : Nat) (d : PyData) : PyData.shownAll (List.replicate n d) = List.replicate n d.shown := by
  induction n with
  | zero => rfl
  | succ n ih => rw [List.replicate_succ, List.replicate_succ]; simp only [PyData.shownAll, ih]
theorem rep_len (n : Nat) (d : PyData) : (PyData.shown (.list (List.replicate (n + 1) d))).length = (n + 1) * (d.shown.length + 2) := by
  simp only [PyData.shown]
  rw [rep_all, list_len (by simp)]
  unfold piled
  rw [List.map_replicate, List.sum_replicate_nat]
theorem dp_rep {K : PySem.W.Frag} {H : Hp} {v : V} {d : PyData} (h : Dp K H v d) : ∀ n, DpAll K H (List.replicate n v) (List.replicate n d)
  | 0 => .nil
  | n + 1 => .cons h (dp_rep h n)
theorem Shw.rep {n B : Nat} {d : PyData} (h : Shw n B d) (hn : n + 1 ≤ 64) (hB : 10 * B + 23 ≤ sizeLine) : (PyData.list (List.replicate 10 d)).showable = true ∧ (PyData.list (List.replicate 10 d)).hasDict = false ∧ (PyData.list (List.replicate 10 d)).depth ≤ 64 ∧ (PyData.list (List.replicate 10 d)).shown.length ≤ sizeLine := by
  have := shw_list (ds := List.replicate 10 d) (n := n) (B := B) fun e he => by rw [(List.mem_replicate.mp he).2]; exact h
  refine ⟨this.sh, this.nd, Nat.le_trans this.dp hn, Nat.le_trans this.ln ?_⟩
  rw [List.length_replicate]
  exact hB
def spKept : Sp := fun vs H Q _ => ∃ v : V, vs = [v] ∧ ∀ l H', Same H H' → H l = none → H' l = some (.lst (List.replicate 10 v)) → Q (.ref l) H'
def cnt7 (bs : List Bool) : Nat := (bs.filter id).length
def Knd (K : PySem.W.Frag) (Gs : List Addr) (D : Addr) (bs : List Bool) : Prop := ExcC K D ∧ Paired (fun g b => PySem.W.kitOne K (.ref D) (.ref g) = some b) Gs bs
def spSorts (K : PySem.W.Frag) (Gs : List Addr) : Sp := fun vs H Q _ => ∃ (a D : Addr) (bs : List Bool), vs = [.ref a] ∧ ExS.ErA H a D ∧ Knd K Gs D bs ∧ ∀ H', Same H H' → Q (.int ((cnt7 bs : Nat) : Int)) H'
theorem p7 {α β : Type} {F : α → β → Prop} {g1 g2 g3 g4 g5 g6 g7 : α} {bs : List β} (h : Paired F [g1, g2, g3, g4, g5, g6, g7] bs) : ∃ b1 b2 b3 b4 b5 b6 b7, bs = [b1, b2, b3, b4, b5, b6, b7] ∧ F g1 b1 ∧ F g2 b2 ∧ F g3 b3 ∧ F g4 b4 ∧ F g5 b5 ∧ F g6 b6 ∧ F g7 b7 := by
  cases h with | cons h1 h => cases h with | cons h2 h => cases h with | cons h3 h => cases h with | cons h4 h => cases h with | cons h5 h => cases h with | cons h6 h => cases h with | cons h7 h => cases h with | nil => exact ⟨_, _, _, _, _, _, _, rfl, h1, h2, h3, h4, h5, h6, h7⟩
theorem cnt_snoc (bs : List Bool) (b : Bool) : cnt7 (bs ++ [b]) = cnt7 bs + (if b then 1 else 0) := by
  unfold cnt7
  rw [List.filter_append, List.length_append]
  cases b <;> rfl
section
variable {P : Program} {w : World} {K : PySem.W.Frag} {mg : Str → Option Value} {base : Heap}
theorem sc_l_kept : FnScope ["_law_thing", "_law_found"] ["_law_thing"] (fnScope s_l_kept) := fnScope_by (by decide +kernel)
theorem cal_l_kept {f D_InvalidRule D_InvalidCheck D_InvalidText D_InvalidHits D_Refused : Addr} {fd : FuncData} (F : Def K mg "_law_kept" s_l_kept f fd) (b : Binds K fd ["_law_thing"] []) (T : Tx mg) (x_InvalidRule : ExS.XMk P w K mg base 1 "InvalidRule" D_InvalidRule "word") (xK_InvalidRule : ExS.XMkK P w K mg base 1 "InvalidRule" D_InvalidRule "word" ["word"]) (XF_InvalidRule : XfC K D_InvalidRule) (nw_InvalidRule : PySem.W.findIn K (.ref D_InvalidRule) "word" = some none) (x_InvalidCheck : ExS.XMk P w K mg base 1 "InvalidCheck" D_InvalidCheck "word") (xK_InvalidCheck : ExS.XMkK P w K mg base 1 "InvalidCheck" D_InvalidCheck "word" ["word"]) (XF_InvalidCheck : XfC K D_InvalidCheck) (nw_InvalidCheck : PySem.W.findIn K (.ref D_InvalidCheck) "word" = some none) (x_InvalidText : ExS.XMk P w K mg base 1 "InvalidText" D_InvalidText "at") (xK_InvalidText : ExS.XMkK P w K mg base 1 "InvalidText" D_InvalidText "at" ["at"]) (XF_InvalidText : XfC K D_InvalidText) (nw_InvalidText : PySem.W.findIn K (.ref D_InvalidText) "at" = some none) (x_InvalidHits : ExS.XMk P w K mg base 1 "InvalidHits" D_InvalidHits "at") (xK_InvalidHits : ExS.XMkK P w K mg base 1 "InvalidHits" D_InvalidHits "at" ["at"]) (XF_InvalidHits : XfC K D_InvalidHits) (nw_InvalidHits : PySem.W.findIn K (.ref D_InvalidHits) "at" = some none) (x_Refused : ExS.XMk P w K mg base 1 "Refused" D_Refused "at") (xK_Refused : ExS.XMkK P w K mg base 1 "Refused" D_Refused "at" ["at"]) (XF_Refused : XfC K D_Refused) (nw_Refused : PySem.W.findIn K (.ref D_Refused) "at" = some none) : Cal P w K mg base 3 "_law_kept" spKept [] := by
  refine cal0 F b .nil sc_l_kept (fun vs H Q E h => ?_) (fun cdv A outer s H vs Q E hr h => ?_)
  · obtain ⟨_, rfl, _⟩ := h; rfl
  · obtain ⟨v, rfl, k⟩ := h
    refine ⟨_, (pss_cons (ps_set (i := 1) sc_l_kept.nd rfl (.inl rfl) (pe_lst (pa_cons (ExS.pe_xfl XF_InvalidRule nw_InvalidRule (ExS.pe_xm x_InvalidRule hr (by decide) rfl (pa_cons (pv 0) pa_nil))) (pa_cons (ExS.pe_xfl XF_InvalidRule nw_InvalidRule (ExS.pe_xmK xK_InvalidRule hr (by decide) rfl (pk_cons (pv 0) pk_nil))) pa_nil))))
    (pss_cons (ps_set (i := 1) sc_l_kept.nd rfl (.inl rfl) (pe_op op_cat (pv 1) (pe_lst (pa_cons (ExS.pe_xfl XF_InvalidCheck nw_InvalidCheck (ExS.pe_xm x_InvalidCheck hr (by decide) rfl (pa_cons (pv 0) pa_nil))) (pa_cons (ExS.pe_xfl XF_InvalidCheck nw_InvalidCheck (ExS.pe_xmK xK_InvalidCheck hr (by decide) rfl (pk_cons (pv 0) pk_nil))) pa_nil)))))
    (pss_cons (ps_set (i := 1) sc_l_kept.nd rfl (.inl rfl) (pe_op op_cat (pv 1) (pe_lst (pa_cons (ExS.pe_xfl XF_InvalidText nw_InvalidText (ExS.pe_xm x_InvalidText hr (by decide) rfl (pa_cons (pv 0) pa_nil))) (pa_cons (ExS.pe_xfl XF_InvalidText nw_InvalidText (ExS.pe_xmK xK_InvalidText hr (by decide) rfl (pk_cons (pv 0) pk_nil))) pa_nil)))))
    (pss_cons (ps_set (i := 1) sc_l_kept.nd rfl (.inl rfl) (pe_op op_cat (pv 1) (pe_lst (pa_cons (ExS.pe_xfl XF_InvalidHits nw_InvalidHits (ExS.pe_xm x_InvalidHits hr (by decide) rfl (pa_cons (pv 0) pa_nil))) (pa_cons (ExS.pe_xfl XF_InvalidHits nw_InvalidHits (ExS.pe_xmK xK_InvalidHits hr (by decide) rfl (pk_cons (pv 0) pk_nil))) pa_nil)))))
    (pss_one (ps_ret (pe_op op_cat (pv 1) (pe_lst (pa_cons (ExS.pe_xfl XF_Refused nw_Refused (ExS.pe_xm x_Refused hr (by decide) rfl (pa_cons (pv 0) pa_nil))) (pa_cons (ExS.pe_xfl XF_Refused nw_Refused (ExS.pe_xmK xK_Refused hr (by decide) rfl (pk_cons (pv 0) pk_nil))) pa_nil)))))))))), ?_⟩
    refine ⟨_, rfl, _, rfl, fun a0 d0 H0a na0 nd0 ne0 s0a e0 f0 => ⟨a0, d0, _, _, rfl, e0, f0, rfl, ?_⟩⟩
    refine ⟨_, rfl, _, rfl, fun a0 d0 H0b na0 nd0 ne0 s0b e0 f0 => ⟨a0, d0, _, _, rfl, e0, f0, rfl, ?_⟩⟩
    refine ⟨by show 2 ≤ sizeLine; decide, fun m0 nm0 => ?_⟩
    have T0 := (s0a.trans s0b).trans (same_upd (o := .lst [v, v]) nm0)
    have q0 : upd H0b m0 (.lst [v, v]) m0 = some (.lst (List.replicate 2 v)) := by rw [upd_same]; rfl
    generalize upd H0b m0 (.lst [v, v]) = I0 at T0 q0 ⊢
    refine ⟨_, rfl, _, rfl, _, rfl, fun a1 d1 H1a na1 nd1 ne1 s1a e1 f1 => ⟨a1, d1, _, _, rfl, e1, f1, rfl, ?_⟩⟩
    refine ⟨_, rfl, _, rfl, fun a1 d1 H1b na1 nd1 ne1 s1b e1 f1 => ⟨a1, d1, _, _, rfl, e1, f1, rfl, ?_⟩⟩
    refine ⟨by show 2 ≤ sizeLine; decide, fun l1 nl1 => ?_⟩
    have t1 := (s1a.trans s1b).trans (same_upd (o := .lst [v, v]) nl1)
    have h1 : upd H1b l1 (.lst [v, v]) l1 = some (.lst [v, v]) := upd_same
    generalize upd H1b l1 (.lst [v, v]) = J1 at t1 h1 ⊢
    refine ⟨m0, l1, List.replicate 2 v, [v, v], rfl, rfl, t1 _ _ q0, h1, by show 4 ≤ sizeLine; decide, fun m1 nm1 => ?_⟩
    have T1 := (T0.trans t1).trans (same_upd (o := .lst (List.replicate 2 v ++ [v, v])) nm1)
    have q1 : upd J1 m1 (.lst (List.replicate 2 v ++ [v, v])) m1 = some (.lst (List.replicate 4 v)) := by rw [upd_same]; rfl
    generalize upd J1 m1 (.lst (List.replicate 2 v ++ [v, v])) = I1 at T1 q1 ⊢
    refine ⟨_, rfl, _, rfl, _, rfl, fun a2 d2 H2a na2 nd2 ne2 s2a e2 f2 => ⟨a2, d2, _, _, rfl, e2, f2, rfl, ?_⟩⟩
    refine ⟨_, rfl, _, rfl, fun a2 d2 H2b na2 nd2 ne2 s2b e2 f2 => ⟨a2, d2, _, _, rfl, e2, f2, rfl, ?_⟩⟩
    refine ⟨by show 2 ≤ sizeLine; decide, fun l2 nl2 => ?_⟩
    have t2 := (s2a.trans s2b).trans (same_upd (o := .lst [v, v]) nl2)
    have h2 : upd H2b l2 (.lst [v, v]) l2 = some (.lst [v, v]) := upd_same
    generalize upd H2b l2 (.lst [v, v]) = J2 at t2 h2 ⊢
    refine ⟨m1, l2, List.replicate 4 v, [v, v], rfl, rfl, t2 _ _ q1, h2, by show 6 ≤ sizeLine; decide, fun m2 nm2 => ?_⟩
    have T2 := (T1.trans t2).trans (same_upd (o := .lst (List.replicate 4 v ++ [v, v])) nm2)
    have q2 : upd J2 m2 (.lst (List.replicate 4 v ++ [v, v])) m2 = some (.lst (List.replicate 6 v)) := by rw [upd_same]; rfl
    generalize upd J2 m2 (.lst (List.replicate 4 v ++ [v, v])) = I2 at T2 q2 ⊢
    refine ⟨_, rfl, _, rfl, _, rfl, fun a3 d3 H3a na3 nd3 ne3 s3a e3 f3 => ⟨a3, d3, _, _, rfl, e3, f3, rfl, ?_⟩⟩
    refine ⟨_, rfl, _, rfl, fun a3 d3 H3b na3 nd3 ne3 s3b e3 f3 => ⟨a3, d3, _, _, rfl, e3, f3, rfl, ?_⟩⟩
    refine ⟨by show 2 ≤ sizeLine; decide, fun l3 nl3 => ?_⟩
    have t3 := (s3a.trans s3b).trans (same_upd (o := .lst [v, v]) nl3)
    have h3 : upd H3b l3 (.lst [v, v]) l3 = some (.lst [v, v]) := upd_same
    generalize upd H3b l3 (.lst [v, v]) = J3 at t3 h3 ⊢
    refine ⟨m2, l3, List.replicate 6 v, [v, v], rfl, rfl, t3 _ _ q2, h3, by show 8 ≤ sizeLine; decide, fun m3 nm3 => ?_⟩
    have T3 := (T2.trans t3).trans (same_upd (o := .lst (List.replicate 6 v ++ [v, v])) nm3)
    have q3 : upd J3 m3 (.lst (List.replicate 6 v ++ [v, v])) m3 = some (.lst (List.replicate 8 v)) := by rw [upd_same]; rfl
    generalize upd J3 m3 (.lst (List.replicate 6 v ++ [v, v])) = I3 at T3 q3 ⊢
    refine ⟨_, rfl, _, rfl, _, rfl, fun a4 d4 H4a na4 nd4 ne4 s4a e4 f4 => ⟨a4, d4, _, _, rfl, e4, f4, rfl, ?_⟩⟩
    refine ⟨_, rfl, _, rfl, fun a4 d4 H4b na4 nd4 ne4 s4b e4 f4 => ⟨a4, d4, _, _, rfl, e4, f4, rfl, ?_⟩⟩
    refine ⟨by show 2 ≤ sizeLine; decide, fun l4 nl4 => ?_⟩
    have t4 := (s4a.trans s4b).trans (same_upd (o := .lst [v, v]) nl4)
    have h4 : upd H4b l4 (.lst [v, v]) l4 = some (.lst [v, v]) := upd_same
    generalize upd H4b l4 (.lst [v, v]) = J4 at t4 h4 ⊢
    refine ⟨m3, l4, List.replicate 8 v, [v, v], rfl, rfl, t4 _ _ q3, h4, by show 10 ≤ sizeLine; decide, fun m4 nm4 => ?_⟩
    have T4 := (T3.trans t4).trans (same_upd (o := .lst (List.replicate 8 v ++ [v, v])) nm4)
    have q4 : upd J4 m4 (.lst (List.replicate 8 v ++ [v, v])) m4 = some (.lst (List.replicate 10 v)) := by rw [upd_same]; rfl
    exact k m4 _ T4 ((T3.trans t4).free nm4) q4
theorem sc_l_sorts : FnScope ["_law_error", "_law_some", "_law_is_so"] ["_law_error"] (fnScope s_l_sorts) := fnScope_by (by decide +kernel)
theorem cal_l_sorts {f G_InvalidRule G_InvalidCheck G_InvalidText G_InvalidWord G_InvalidHits G_InvalidCommand G_Refused : Addr} {fd : FuncData} (F : Def K mg "_law_sorts" s_l_sorts f fd) (b : Binds K fd ["_law_error"] []) (T : Tx mg) (gi_InvalidRule : mg "InvalidRule" = some (.ref G_InvalidRule)) (gi_InvalidCheck : mg "InvalidCheck" = some (.ref G_InvalidCheck)) (gi_InvalidText : mg "InvalidText" = some (.ref G_InvalidText)) (gi_InvalidWord : mg "InvalidWord" = some (.ref G_InvalidWord)) (gi_InvalidHits : mg "InvalidHits" = some (.ref G_InvalidHits)) (gi_InvalidCommand : mg "InvalidCommand" = some (.ref G_InvalidCommand)) (gi_Refused : mg "Refused" = some (.ref G_Refused)) : Cal P w K mg base 1 "_law_sorts" (spSorts K [G_InvalidRule, G_InvalidCheck, G_InvalidText, G_InvalidWord, G_InvalidHits, G_InvalidCommand, G_Refused]) [] := by
  refine cal0 F b .nil sc_l_sorts (fun vs H Q E h => ?_) (fun cdv A outer s H vs Q E hr h => ?_)
  · obtain ⟨_, _, _, rfl, _⟩ := h; rfl
  · obtain ⟨a, D, bs, rfl, er, ⟨xc, kp⟩, k⟩ := h
    refine ⟨_, (pss_cons (ps_set (i := 1) sc_l_sorts.nd rfl (.inl rfl) (pe_lst (pa_cons (pe_callB ExS.call_isE (by rfl) T.b_isinstance (by decide +kernel) (pa_cons (pv 0) (pa_cons (pe_glob (v := .ref _) (by rfl) gi_InvalidRule rfl) pa_nil))) pa_nil)))
    (pss_cons (ps_set (i := 1) sc_l_sorts.nd rfl (.inl rfl) (pe_op op_cat (pv 1) (pe_lst (pa_cons (pe_callB ExS.call_isE (by rfl) T.b_isinstance (by decide +kernel) (pa_cons (pv 0) (pa_cons (pe_glob (v := .ref _) (by rfl) gi_InvalidCheck rfl) pa_nil))) (pa_cons (pe_callB ExS.call_isE (by rfl) T.b_isinstance (by decide +kernel) (pa_cons (pv 0) (pa_cons (pe_glob (v := .ref _) (by rfl) gi_InvalidText rfl) pa_nil))) pa_nil)))))
    (pss_cons (ps_set (i := 1) sc_l_sorts.nd rfl (.inl rfl) (pe_op op_cat (pv 1) (pe_lst (pa_cons (pe_callB ExS.call_isE (by rfl) T.b_isinstance (by decide +kernel) (pa_cons (pv 0) (pa_cons (pe_glob (v := .ref _) (by rfl) gi_InvalidWord rfl) pa_nil))) pa_nil))))
    (pss_cons (ps_set (i := 1) sc_l_sorts.nd rfl (.inl rfl) (pe_op op_cat (pv 1) (pe_lst (pa_cons (pe_callB ExS.call_isE (by rfl) T.b_isinstance (by decide +kernel) (pa_cons (pv 0) (pa_cons (pe_glob (v := .ref _) (by rfl) gi_InvalidHits rfl) pa_nil))) (pa_cons (pe_callB ExS.call_isE (by rfl) T.b_isinstance (by decide +kernel) (pa_cons (pv 0) (pa_cons (pe_glob (v := .ref _) (by rfl) gi_InvalidCommand rfl) pa_nil))) pa_nil)))))
    (pss_one (ps_ret (pe_callB call_len_seq (by rfl) T.b_len (by decide +kernel) (pa_cons (pe_lc (own := [("_law_is_so", 2)]) (g := gName 2) (by rfl) sc_l_sorts.nd (pi_list (pe_op op_cat (pv 1) (pe_lst (pa_cons (pe_callB ExS.call_isE (by rfl) T.b_isinstance (by decide +kernel) (pa_cons (pv 0) (pa_cons (pe_glob (v := .ref _) (by rfl) gi_Refused rfl) pa_nil))) pa_nil)))) (blkOk_by (own := [("_law_is_so", 2)]) (N := ["_law_error", "_law_some", "_law_is_so"]) (sc := fnScope s_l_sorts) (by decide +kernel)) (fun _ _ _ _ _ => (pg_name (i := 2) sc_l_sorts.nd rfl (.inl rfl))) (fun _ _ _ _ _ => (pts_one (pt_val (pv 2)))) (fun _ _ _ _ _ => pe_int)) pa_nil)))))))), ?_⟩
    obtain ⟨b1, b2, b3, b4, b5, b6, b7, rfl, k1, k2, k3, k4, k5, k6, k7⟩ := p7 kp
    refine ⟨_, rfl, a, D, _, _, b1, rfl, er, xc, .own _, k1, by show 1 ≤ sizeLine; decide, fun l1 n1 => ?_⟩
    have T1 := same_upd (o := .lst [.bl b1]) n1
    have q1 : upd H l1 (.lst [.bl b1]) l1 = some (.lst [.bl b1]) := upd_same
    generalize upd H l1 (.lst [.bl b1]) = I1 at T1 q1 ⊢
    refine ⟨_, rfl, _, rfl, a, D, _, _, b2, rfl, er.same T1, xc, .own _, k2, _, rfl, a, D, _, _, b3, rfl, er.same T1, xc, .own _, k3, by show 2 ≤ sizeLine; decide, fun r2 nr2 => ?_⟩
    have t2 := same_upd (o := .lst [.bl b2, .bl b3]) nr2
    have h2 : upd I1 r2 (.lst [.bl b2, .bl b3]) r2 = some (.lst [.bl b2, .bl b3]) := upd_same
    refine ⟨l1, r2, [.bl b1], [.bl b2, .bl b3], rfl, rfl, t2 _ _ q1, h2, by show 3 ≤ sizeLine; decide, fun l2 n2 => ?_⟩
    have T2 := (T1.trans t2).trans (same_upd (o := .lst ([.bl b1] ++ [.bl b2, .bl b3])) n2)
    have q2 : upd (upd I1 r2 (.lst [.bl b2, .bl b3])) l2 (.lst ([.bl b1] ++ [.bl b2, .bl b3])) l2 = some (.lst [.bl b1, .bl b2, .bl b3]) := upd_same
    generalize upd (upd I1 r2 (.lst [.bl b2, .bl b3])) l2 (.lst ([.bl b1] ++ [.bl b2, .bl b3])) = I2 at T2 q2 ⊢
    refine ⟨_, rfl, _, rfl, a, D, _, _, b4, rfl, er.same T2, xc, .own _, k4, by show 1 ≤ sizeLine; decide, fun r3 nr3 => ?_⟩
    have t3 := same_upd (o := .lst [.bl b4]) nr3
    have h3 : upd I2 r3 (.lst [.bl b4]) r3 = some (.lst [.bl b4]) := upd_same
    refine ⟨l2, r3, [.bl b1, .bl b2, .bl b3], [.bl b4], rfl, rfl, t3 _ _ q2, h3, by show 4 ≤ sizeLine; decide, fun l3 n3 => ?_⟩
    have T3 := (T2.trans t3).trans (same_upd (o := .lst ([.bl b1, .bl b2, .bl b3] ++ [.bl b4])) n3)
    have q3 : upd (upd I2 r3 (.lst [.bl b4])) l3 (.lst ([.bl b1, .bl b2, .bl b3] ++ [.bl b4])) l3 = some (.lst [.bl b1, .bl b2, .bl b3, .bl b4]) := upd_same
    generalize upd (upd I2 r3 (.lst [.bl b4])) l3 (.lst ([.bl b1, .bl b2, .bl b3] ++ [.bl b4])) = I3 at T3 q3 ⊢
    refine ⟨_, rfl, _, rfl, a, D, _, _, b5, rfl, er.same T3, xc, .own _, k5, _, rfl, a, D, _, _, b6, rfl, er.same T3, xc, .own _, k6, by show 2 ≤ sizeLine; decide, fun r4 nr4 => ?_⟩
    have t4 := same_upd (o := .lst [.bl b5, .bl b6]) nr4
    have h4 : upd I3 r4 (.lst [.bl b5, .bl b6]) r4 = some (.lst [.bl b5, .bl b6]) := upd_same
    refine ⟨l3, r4, [.bl b1, .bl b2, .bl b3, .bl b4], [.bl b5, .bl b6], rfl, rfl, t4 _ _ q3, h4, by show 6 ≤ sizeLine; decide, fun l4 n4 => ?_⟩
    have T4 := (T3.trans t4).trans (same_upd (o := .lst ([.bl b1, .bl b2, .bl b3, .bl b4] ++ [.bl b5, .bl b6])) n4)
    have q4 : upd (upd I3 r4 (.lst [.bl b5, .bl b6])) l4 (.lst ([.bl b1, .bl b2, .bl b3, .bl b4] ++ [.bl b5, .bl b6])) l4 = some (.lst [.bl b1, .bl b2, .bl b3, .bl b4, .bl b5, .bl b6]) := upd_same
    generalize upd (upd I3 r4 (.lst [.bl b5, .bl b6])) l4 (.lst ([.bl b1, .bl b2, .bl b3, .bl b4] ++ [.bl b5, .bl b6])) = I4 at T4 q4 ⊢
    refine ⟨_, rfl, _, rfl, a, D, _, _, b7, rfl, er.same T4, xc, .own _, k7, by show 1 ≤ sizeLine; decide, fun r5 nr5 => ?_⟩
    have t5 := same_upd (o := .lst [.bl b7]) nr5
    have h5 : upd I4 r5 (.lst [.bl b7]) r5 = some (.lst [.bl b7]) := upd_same
    refine ⟨l4, r5, [.bl b1, .bl b2, .bl b3, .bl b4, .bl b5, .bl b6], [.bl b7], rfl, rfl, t5 _ _ q4, h5, by show 7 ≤ sizeLine; decide, fun l5 n5 => ?_⟩
    have T5 := (T4.trans t5).trans (same_upd (o := .lst ([.bl b1, .bl b2, .bl b3, .bl b4, .bl b5, .bl b6] ++ [.bl b7])) n5)
    have q5 : upd (upd I4 r5 (.lst [.bl b7])) l5 (.lst ([.bl b1, .bl b2, .bl b3, .bl b4, .bl b5, .bl b6] ++ [.bl b7])) l5 = some (.lst [.bl b1, .bl b2, .bl b3, .bl b4, .bl b5, .bl b6, .bl b7]) := upd_same
    generalize upd (upd I4 r5 (.lst [.bl b7])) l5 (.lst ([.bl b1, .bl b2, .bl b3, .bl b4, .bl b5, .bl b6] ++ [.bl b7])) = I5 at T5 q5 ⊢
    have eX : ([.bl b1, .bl b2, .bl b3, .bl b4, .bl b5, .bl b6, .bl b7] : List V) = [b1, b2, b3, b4, b5, b6, b7].map V.bl := rfl
    rw [eX] at q5
    have l7 : [b1, b2, b3, b4, b5, b6, b7].length = 7 := rfl
    generalize [b1, b2, b3, b4, b5, b6, b7] = bs at q5 k l7
    refine ⟨l5, rfl, ⟨_, SqL.of q5⟩, fun E0 nE => ?_⟩
    refine lc_it (walk_list (xs := bs.map V.bl)) (fun i Hx => Same I5 Hx ∧ Hx E0 = some (.lst (List.replicate (cnt7 (bs.take i)) (.int 1))) ∧ cnt7 (bs.take i) ≤ i) ⟨same_upd nE, upd_same, Nat.le_refl _⟩ (fun i Hx _ h => SqL.of (h.1 _ _ q5)) ?_ ?_
    · rintro i x Hx' Hx hi ⟨sx, hD, hc⟩ ⟨rfl, hv⟩
      rw [List.getElem?_map] at hv
      obtain ⟨b, hb, rfl⟩ := Option.map_eq_some_iff.mp hv
      have e1 : bs.take (i + 1) = bs.take i ++ [b] := by rw [List.take_add_one, hb]; rfl
      have ec := cnt_snoc (bs.take i) b
      rw [← e1] at ec
      have hi7 : i < 7 := by rw [List.length_map, l7] at hi; exact hi
      refine ⟨rfl, _, rfl, b, rfl, ?_⟩
      cases b with
      | false =>
        refine iteBF rfl ⟨sx, ?_, ?_⟩
        · rw [ec]; exact hD
        · rw [ec]; exact Nat.le_succ_of_le hc
      | true =>
        refine iteBT rfl ⟨_, hD, by rw [List.length_replicate]; exact sl_lt (by omega), same_mut' sx nE, by rw [upd_same, ec, if_pos rfl, List.replicate_succ'], by rw [ec]; exact Nat.succ_le_succ hc⟩
    rintro Hx ⟨sx, hD, _⟩
    rw [List.length_map, List.take_of_length_le (Nat.le_refl _)] at hD
    refine ⟨E0, _, rfl, .inl (SqL.of hD), ?_⟩
    rw [List.length_replicate]
    exact k _ (T5.trans sx)
theorem sc_law : FnScope ["_law_script", "_law_k", "_law_box", "_law_turn", "_law_thing", "_law_early", "_law_before", "_law_one", "_law_some", "_law_error"] ["_law_script"] (fnScope s_law) := fnScope_by (by decide +kernel)
theorem ok_law {f D_InvalidRule D_InvalidCheck D_InvalidText D_InvalidWord D_InvalidHits D_InvalidCommand D_Refused G_InvalidRule G_InvalidCheck G_InvalidText G_InvalidWord G_InvalidHits G_InvalidCommand G_Refused G_FlipError : Addr} {fd : FuncData} (F : Def K mg "law" s_law f fd) (T : Tx mg)
    (c_l_seed : Cal P w K mg base 1 "_law_seed" (spSeed K) []) (c_l_any : Cal P w K mg base 12 "_law_any" (spAnyS K) []) (c_l_kept : Cal P w K mg base 3 "_law_kept" spKept []) (c_l_sorts : Cal P w K mg base 1 "_law_sorts" (spSorts K [G_InvalidRule, G_InvalidCheck, G_InvalidText, G_InvalidWord, G_InvalidHits, G_InvalidCommand, G_Refused]) [])
    (x_InvalidRule : ExS.XMk P w K mg base 1 "InvalidRule" D_InvalidRule "word") (x_InvalidCheck : ExS.XMk P w K mg base 1 "InvalidCheck" D_InvalidCheck "word") (x_InvalidText : ExS.XMk P w K mg base 1 "InvalidText" D_InvalidText "at") (x_InvalidHits : ExS.XMk P w K mg base 1 "InvalidHits" D_InvalidHits "at") (x_Refused : ExS.XMk P w K mg base 1 "Refused" D_Refused "at") (x0_InvalidWord : ExS.XMk0 P w K mg base 1 "InvalidWord" D_InvalidWord) (x0_InvalidCommand : ExS.XMk0 P w K mg base 1 "InvalidCommand" D_InvalidCommand) (XF_InvalidText : XfC K D_InvalidText) (nw_InvalidText : PySem.W.findIn K (.ref D_InvalidText) "at" = some none)
    (gi_FlipError : mg "FlipError" = some (.ref G_FlipError)) (b_ValueError : mg "ValueError" = none) (b_KeyError : mg "KeyError" = none) (b_IndexError : mg "IndexError" = none) (xc_InvalidRule : L2.ExcC K D_InvalidRule) (xc_InvalidCheck : L2.ExcC K D_InvalidCheck) (xc_InvalidText : L2.ExcC K D_InvalidText) (xc_InvalidWord : L2.ExcC K D_InvalidWord) (xc_InvalidHits : L2.ExcC K D_InvalidHits) (xc_InvalidCommand : L2.ExcC K D_InvalidCommand) (xc_Refused : L2.ExcC K D_Refused) (xc_FlipError : L2.ExcC K G_FlipError)
    (xn_FlipError : PySem.W.excIn K G_FlipError [.type "ValueError", .type "Exception", .type "BaseException", .type "object"] "ValueError.__new__" = true) (kn_FlipError : PySem.W.keepIn K (.ref G_FlipError) = true)
    (ko_InvalidRule_InvalidRule : PySem.W.kitOne K (.ref D_InvalidRule) (.ref G_InvalidRule) = some true) (ko_InvalidRule_InvalidCheck : PySem.W.kitOne K (.ref D_InvalidRule) (.ref G_InvalidCheck) = some false) (ko_InvalidRule_InvalidText : PySem.W.kitOne K (.ref D_InvalidRule) (.ref G_InvalidText) = some false) (ko_InvalidRule_InvalidWord : PySem.W.kitOne K (.ref D_InvalidRule) (.ref G_InvalidWord) = some false) (ko_InvalidRule_InvalidHits : PySem.W.kitOne K (.ref D_InvalidRule) (.ref G_InvalidHits) = some false) (ko_InvalidRule_InvalidCommand : PySem.W.kitOne K (.ref D_InvalidRule) (.ref G_InvalidCommand) = some false) (ko_InvalidRule_Refused : PySem.W.kitOne K (.ref D_InvalidRule) (.ref G_Refused) = some false) (ko_InvalidCheck_InvalidRule : PySem.W.kitOne K (.ref D_InvalidCheck) (.ref G_InvalidRule) = some false) (ko_InvalidCheck_InvalidCheck : PySem.W.kitOne K (.ref D_InvalidCheck) (.ref G_InvalidCheck) = some true) (ko_InvalidCheck_InvalidText : PySem.W.kitOne K (.ref D_InvalidCheck) (.ref G_InvalidText) = some false) (ko_InvalidCheck_InvalidWord : PySem.W.kitOne K (.ref D_InvalidCheck) (.ref G_InvalidWord) = some false) (ko_InvalidCheck_InvalidHits : PySem.W.kitOne K (.ref D_InvalidCheck) (.ref G_InvalidHits) = some false) (ko_InvalidCheck_InvalidCommand : PySem.W.kitOne K (.ref D_InvalidCheck) (.ref G_InvalidCommand) = some false) (ko_InvalidCheck_Refused : PySem.W.kitOne K (.ref D_InvalidCheck) (.ref G_Refused) = some false) (ko_InvalidText_InvalidRule : PySem.W.kitOne K (.ref D_InvalidText) (.ref G_InvalidRule) = some false) (ko_InvalidText_InvalidCheck : PySem.W.kitOne K (.ref D_InvalidText) (.ref G_InvalidCheck) = some false) (ko_InvalidText_InvalidText : PySem.W.kitOne K (.ref D_InvalidText) (.ref G_InvalidText) = some true) (ko_InvalidText_InvalidWord : PySem.W.kitOne K (.ref D_InvalidText) (.ref G_InvalidWord) = some false) (ko_InvalidText_InvalidHits : PySem.W.kitOne K (.ref D_InvalidText) (.ref G_InvalidHits) = some false) (ko_InvalidText_InvalidCommand : PySem.W.kitOne K (.ref D_InvalidText) (.ref G_InvalidCommand) = some false) (ko_InvalidText_Refused : PySem.W.kitOne K (.ref D_InvalidText) (.ref G_Refused) = some false) (ko_InvalidWord_InvalidRule : PySem.W.kitOne K (.ref D_InvalidWord) (.ref G_InvalidRule) = some false) (ko_InvalidWord_InvalidCheck : PySem.W.kitOne K (.ref D_InvalidWord) (.ref G_InvalidCheck) = some false) (ko_InvalidWord_InvalidText : PySem.W.kitOne K (.ref D_InvalidWord) (.ref G_InvalidText) = some false) (ko_InvalidWord_InvalidWord : PySem.W.kitOne K (.ref D_InvalidWord) (.ref G_InvalidWord) = some true) (ko_InvalidWord_InvalidHits : PySem.W.kitOne K (.ref D_InvalidWord) (.ref G_InvalidHits) = some false) (ko_InvalidWord_InvalidCommand : PySem.W.kitOne K (.ref D_InvalidWord) (.ref G_InvalidCommand) = some false) (ko_InvalidWord_Refused : PySem.W.kitOne K (.ref D_InvalidWord) (.ref G_Refused) = some false) (ko_InvalidHits_InvalidRule : PySem.W.kitOne K (.ref D_InvalidHits) (.ref G_InvalidRule) = some false) (ko_InvalidHits_InvalidCheck : PySem.W.kitOne K (.ref D_InvalidHits) (.ref G_InvalidCheck) = some false) (ko_InvalidHits_InvalidText : PySem.W.kitOne K (.ref D_InvalidHits) (.ref G_InvalidText) = some false) (ko_InvalidHits_InvalidWord : PySem.W.kitOne K (.ref D_InvalidHits) (.ref G_InvalidWord) = some false) (ko_InvalidHits_InvalidHits : PySem.W.kitOne K (.ref D_InvalidHits) (.ref G_InvalidHits) = some true) (ko_InvalidHits_InvalidCommand : PySem.W.kitOne K (.ref D_InvalidHits) (.ref G_InvalidCommand) = some false) (ko_InvalidHits_Refused : PySem.W.kitOne K (.ref D_InvalidHits) (.ref G_Refused) = some false) (ko_InvalidCommand_InvalidRule : PySem.W.kitOne K (.ref D_InvalidCommand) (.ref G_InvalidRule) = some false) (ko_InvalidCommand_InvalidCheck : PySem.W.kitOne K (.ref D_InvalidCommand) (.ref G_InvalidCheck) = some false) (ko_InvalidCommand_InvalidText : PySem.W.kitOne K (.ref D_InvalidCommand) (.ref G_InvalidText) = some false) (ko_InvalidCommand_InvalidWord : PySem.W.kitOne K (.ref D_InvalidCommand) (.ref G_InvalidWord) = some false) (ko_InvalidCommand_InvalidHits : PySem.W.kitOne K (.ref D_InvalidCommand) (.ref G_InvalidHits) = some false) (ko_InvalidCommand_InvalidCommand : PySem.W.kitOne K (.ref D_InvalidCommand) (.ref G_InvalidCommand) = some true) (ko_InvalidCommand_Refused : PySem.W.kitOne K (.ref D_InvalidCommand) (.ref G_Refused) = some false) (ko_Refused_InvalidRule : PySem.W.kitOne K (.ref D_Refused) (.ref G_InvalidRule) = some false) (ko_Refused_InvalidCheck : PySem.W.kitOne K (.ref D_Refused) (.ref G_InvalidCheck) = some false) (ko_Refused_InvalidText : PySem.W.kitOne K (.ref D_Refused) (.ref G_InvalidText) = some false) (ko_Refused_InvalidWord : PySem.W.kitOne K (.ref D_Refused) (.ref G_InvalidWord) = some false) (ko_Refused_InvalidHits : PySem.W.kitOne K (.ref D_Refused) (.ref G_InvalidHits) = some false) (ko_Refused_InvalidCommand : PySem.W.kitOne K (.ref D_Refused) (.ref G_InvalidCommand) = some false) (ko_Refused_Refused : PySem.W.kitOne K (.ref D_Refused) (.ref G_Refused) = some true)
    (ko_InvalidRule_Flip : PySem.W.kitOne K (.ref D_InvalidRule) (.ref G_FlipError) = some true) (ko_InvalidRule_Value : PySem.W.kitOne K (.ref D_InvalidRule) (.type "ValueError") = some true) (ko_Flip_InvalidRule : PySem.W.kitOne K (.ref G_FlipError) (.ref G_InvalidRule) = some false) (ko_InvalidCheck_Flip : PySem.W.kitOne K (.ref D_InvalidCheck) (.ref G_FlipError) = some true) (ko_InvalidCheck_Value : PySem.W.kitOne K (.ref D_InvalidCheck) (.type "ValueError") = some true) (ko_Flip_InvalidCheck : PySem.W.kitOne K (.ref G_FlipError) (.ref G_InvalidCheck) = some false) (ko_InvalidText_Flip : PySem.W.kitOne K (.ref D_InvalidText) (.ref G_FlipError) = some true) (ko_InvalidText_Value : PySem.W.kitOne K (.ref D_InvalidText) (.type "ValueError") = some true) (ko_Flip_InvalidText : PySem.W.kitOne K (.ref G_FlipError) (.ref G_InvalidText) = some false) (ko_InvalidWord_Flip : PySem.W.kitOne K (.ref D_InvalidWord) (.ref G_FlipError) = some true) (ko_InvalidWord_Value : PySem.W.kitOne K (.ref D_InvalidWord) (.type "ValueError") = some true) (ko_Flip_InvalidWord : PySem.W.kitOne K (.ref G_FlipError) (.ref G_InvalidWord) = some false) (ko_InvalidHits_Flip : PySem.W.kitOne K (.ref D_InvalidHits) (.ref G_FlipError) = some true) (ko_InvalidHits_Value : PySem.W.kitOne K (.ref D_InvalidHits) (.type "ValueError") = some true) (ko_Flip_InvalidHits : PySem.W.kitOne K (.ref G_FlipError) (.ref G_InvalidHits) = some false) (ko_InvalidCommand_Flip : PySem.W.kitOne K (.ref D_InvalidCommand) (.ref G_FlipError) = some true) (ko_InvalidCommand_Value : PySem.W.kitOne K (.ref D_InvalidCommand) (.type "ValueError") = some true) (ko_Flip_InvalidCommand : PySem.W.kitOne K (.ref G_FlipError) (.ref G_InvalidCommand) = some false) (ko_Refused_Flip : PySem.W.kitOne K (.ref D_Refused) (.ref G_FlipError) = some true) (ko_Refused_Value : PySem.W.kitOne K (.ref D_Refused) (.type "ValueError") = some true) (ko_Flip_Refused : PySem.W.kitOne K (.ref G_FlipError) (.ref G_Refused) = some false) (ko_Flip_KeyError : PySem.W.kitOne K (.ref G_FlipError) (.type "KeyError") = some false) (ko_Flip_IndexError : PySem.W.kitOne K (.ref G_FlipError) (.type "IndexError") = some false) :
    FnAt P w K mg base 14 f fd ["_law_script"] (spLaw K) := by
  refine fn_at F.fn sc_law (fun vs H Q E h => ?_) (fun cdv s H vs Q E hr h => ?_)
  · obtain ⟨_, _, rfl, _⟩ := h; rfl
  · obtain ⟨a, ns, rfl, hS, hlen, k⟩ := h
    refine ⟨_, (pss_cons (ps_for PassesOwn.never rfl (pi_range1 (by rfl) T.b_range (pa_cons (pe_callB (call_max2 rfl) (by rfl) T.b_max (by decide +kernel) (pa_cons pe_int (pa_cons (pe_callB (call_min2 rfl) (by rfl) T.b_min (by decide +kernel) (pa_cons pe_int (pa_cons (pe_callB call_len_seq (by rfl) T.b_len (by decide +kernel) (pa_cons (pv 0) pa_nil)) pa_nil))) pa_nil))) pa_nil)) (pg_name (i := 1) sc_law.nd rfl (.inl rfl))
    (pss_cons (ps_set (i := 2) sc_law.nd rfl (.inl rfl) (pe_c c_l_seed hr (by decide) rfl (pa_cons (pv 0) (pa_cons (pv 1) pa_nil))))
    (pss_one (ps_for PassesOwn.never rfl (pi_range1 (by rfl) T.b_range (pa_cons pe_int pa_nil)) (pg_name (i := 3) sc_law.nd rfl (.inl rfl))
    (pss_cons (ps_set (i := 4) sc_law.nd rfl (.inr rfl) (pe_lst (pa_cons (pe_c c_l_any hr (by decide) rfl (pa_cons (pv 2) (pa_cons pe_int pa_nil))) pa_nil)))
    (pss_cons (ps_par (i := 5) (j := 6) (by rfl) sc_law.nd rfl rfl (by decide) rfl rfl (pa_cons (ExS.pe_xm x_InvalidText hr (by decide) rfl (pa_cons (pv 4) pa_nil)) (pa_cons (pe_callB (show CallR _ (.builtin "repr") (rReprD K) from call_reprD rfl (u65 hr)) (by rfl) T.b_repr (by decide +kernel) (pa_cons (pe_c c_l_kept hr (by decide) rfl (pa_cons (pv 4) pa_nil)) pa_nil)) pa_nil)) (by rfl))
    (pss_cons (ps_expr (pe_bm PySem.F.plainAttrs_list PySem.F.slot_list_append PySem.F.type_list_append mt_append (pv 4) (pa_cons (pe_c c_l_any hr (by decide) rfl (pa_cons (pv 2) (pa_cons pe_int pa_nil))) pa_nil)))
    (pss_cons (ps_if (PW.pt (pw_or (pt_cmpR op_eq (pe_callB (show CallR _ (.builtin "repr") (rReprD K) from call_reprD rfl (u65 hr)) (by rfl) T.b_repr (by decide +kernel) (pa_cons (pe_c c_l_kept hr (by decide) rfl (pa_cons (pv 4) pa_nil)) pa_nil)) (pv 6) (nomark _)) (pw_or1 (pt_cmpR op_ne (pe_callB (show CallR _ (.builtin "repr") (rReprD K) from call_reprD rfl (u65 hr)) (by rfl) T.b_repr (by decide +kernel) (pa_cons (ExS.pe_xfl XF_InvalidText nw_InvalidText (pv 5)) pa_nil)) (pe_callB (show CallR _ (.builtin "repr") (rReprD K) from call_reprD rfl (u65 hr)) (by rfl) T.b_repr (by decide +kernel) (pa_cons (pv 4) pa_nil)) (nomark _))))) (pss_one (ps_ret pe_bl)) pss_nil)
    (pss_one (ps_if (pt_cmpR (op_neD hr.units) (pe_lc (own := [("_law_one", 7)]) (g := gName 7) (by rfl) sc_law.nd (pi_list (pe_c c_l_kept hr (by decide) rfl (pa_cons (pv 4) pa_nil))) (blkOk_by (own := [("_law_one", 7)]) (N := ["_law_script", "_law_k", "_law_box", "_law_turn", "_law_thing", "_law_early", "_law_before", "_law_one", "_law_some", "_law_error"]) (sc := fnScope s_law) (by decide +kernel)) (fun _ _ _ _ _ => (pg_name (i := 7) sc_law.nd rfl (.inl rfl))) (fun _ _ _ _ _ => (pts_one (pt_cmpR op_ne (pe_callB (show CallR _ (.builtin "repr") (rReprD K) from call_reprD rfl (u65 hr)) (by rfl) T.b_repr (by decide +kernel) (pa_cons (pv 7) pa_nil)) (pe_callB (show CallR _ (.builtin "repr") (rReprD K) from call_reprD rfl (u65 hr)) (by rfl) T.b_repr (by decide +kernel) (pa_cons (pv 4) pa_nil)) (nomark _)))) (fun _ _ _ _ _ => (pv 7))) (pe_lst pa_nil) (nomark _)) (pss_one (ps_ret pe_bl)) pss_nil))))))))))
    (pss_cons (ps_set (i := 8) sc_law.nd rfl (.inl rfl) (pe_lst (pa_cons (ExS.pe_xm x_InvalidRule hr (by decide) rfl (pa_cons pe_str pa_nil)) (pa_cons (ExS.pe_xm x_InvalidCheck hr (by decide) rfl (pa_cons pe_str pa_nil)) (pa_cons (ExS.pe_xm x_InvalidText hr (by decide) rfl (pa_cons pe_int pa_nil)) pa_nil)))))
    (pss_cons (ps_set (i := 8) sc_law.nd rfl (.inl rfl) (pe_op op_cat (pv 8) (pe_lst (pa_cons (ExS.pe_xm0 x0_InvalidWord hr (by decide) rfl) (pa_cons (ExS.pe_xm x_InvalidHits hr (by decide) rfl (pa_cons pe_int pa_nil)) (pa_cons (ExS.pe_xm0 x0_InvalidCommand hr (by decide) rfl) (pa_cons (ExS.pe_xm x_Refused hr (by decide) rfl (pa_cons pe_int pa_nil)) pa_nil)))))))
    (pss_cons (ps_for PassesOwn.never rfl (pi_list (pv 8)) (pg_name (i := 9) sc_law.nd rfl (.inl rfl))
    (pss_cons (ps_if (PW.pt (pw_or (pt_not (pt_val (pe_callB ExS.call_isE (by rfl) T.b_isinstance (by decide +kernel) (pa_cons (pv 9) (pa_cons (pe_glob (v := .ref _) (by rfl) gi_FlipError rfl) pa_nil))))) (pw_or1 (pt_not (pt_val (pe_callB ExS.call_isE (by rfl) T.b_isinstance (by decide +kernel) (pa_cons (pv 9) (pa_cons (pe_bltn (v := .ty "ValueError") (u := .type "ValueError") (by rfl) b_ValueError (by decide +kernel) rfl) pa_nil)))))))) (pss_one (ps_ret pe_bl)) pss_nil)
    (pss_one (ps_if (pt_cmpR op_ne (pe_c c_l_sorts hr (by decide) rfl (pa_cons (pv 9) pa_nil)) pe_int (nomark _)) (pss_one (ps_ret pe_bl)) pss_nil))))
    (pss_one (ps_ret (pe_and (pe_not (pe_callB ExS.call_isET (by rfl) T.b_isinstance (by decide +kernel) (pa_cons (ExS.pe_exc0 PySem.F.excBase_ValueError xn_FlipError gi_FlipError kn_FlipError rfl) (pa_cons (pe_tup (pa_cons (pe_bltn (v := .ty "KeyError") (u := .type "KeyError") (by rfl) b_KeyError (by decide +kernel) rfl) (pa_cons (pe_bltn (v := .ty "IndexError") (u := .type "IndexError") (by rfl) b_IndexError (by decide +kernel) rfl) pa_nil))) pa_nil)))) (pe_one (pe_cmpR op_eq (pe_c c_l_sorts hr (by decide) rfl (pa_cons (ExS.pe_exc0 PySem.F.excBase_ValueError xn_FlipError gi_FlipError kn_FlipError rfl) pa_nil)) pe_int (nomark _)))))))))), ?_⟩
    refine ⟨_, rfl, a, _, rfl, .inl hS, _, _, rfl, _, _, rfl, _, rfl, by split <;> split <;> omega, by rw [List.length_map]; split <;> split <;> omega, ?_⟩
    refine for_it walk_range (fun i σ H2 => ∃ v1 v2 v3 v4 v5 v6 v7 v8 v9 : Option V, σ = [some (.ref a), v1, v2, v3, v4, v5, v6, v7, v8, v9] ∧ Same H H2) ⟨_, _, _, _, _, _, _, _, _, rfl, Same.refl _⟩ (fun _ _ _ _ _ => trivial) ?_ ?_
    rotate_left
    · rintro σ H2 ⟨v1, v2, v3, v4, v5, v6, v7, v8, v9, rfl, _⟩
      refine ⟨_, rfl, fun a1 d1 H3 na1 nd1 ne1 s3 e1 f1 => ⟨_, rfl, fun a2 d2 H4 na2 nd2 ne2 s4 e2 f2 => ⟨_, rfl, fun a3 d3 H5 na3 nd3 ne3 s5 e3 f3 => ⟨by show 3 ≤ sizeLine; decide, fun l1 n1 => ?_⟩⟩⟩⟩
      have t1 := same_upd (o := .lst [.ref a1, .ref a2, .ref a3]) n1
      have h1 : upd H5 l1 (.lst [.ref a1, .ref a2, .ref a3]) l1 = some (.lst [.ref a1, .ref a2, .ref a3]) := upd_same
      have E1 : ExS.ErA (upd H5 l1 (.lst [.ref a1, .ref a2, .ref a3])) a1 D_InvalidRule := .inr (.inl ⟨d1, _, ((s4.trans s5).trans t1) _ _ e1, ((s4.trans s5).trans t1) _ _ f1⟩)
      have E2 : ExS.ErA (upd H5 l1 (.lst [.ref a1, .ref a2, .ref a3])) a2 D_InvalidCheck := .inr (.inl ⟨d2, _, (s5.trans t1) _ _ e2, (s5.trans t1) _ _ f2⟩)
      have E3 : ExS.ErA (upd H5 l1 (.lst [.ref a1, .ref a2, .ref a3])) a3 D_InvalidText := .inr (.inl ⟨d3, _, t1 _ _ e3, t1 _ _ f3⟩)
      generalize upd H5 l1 (.lst [.ref a1, .ref a2, .ref a3]) = H6 at h1 E1 E2 E3 ⊢
      refine ⟨_, rfl, fun a4 H7 na4 s7 e4 => ⟨_, rfl, fun a5 d5 H8 na5 nd5 ne5 s8 e5 f5 => fun a6 H9 na6 s9 e6 => ⟨_, rfl, fun a7 d7 HA na7 nd7 ne7 sA e7 f7 => ⟨by show 4 ≤ sizeLine; decide, fun l2 n2 => ?_⟩⟩⟩⟩
      have t2 := same_upd (o := .lst [.ref a4, .ref a5, .ref a6, .ref a7]) n2
      have h2 : upd HA l2 (.lst [.ref a4, .ref a5, .ref a6, .ref a7]) l2 = some (.lst [.ref a4, .ref a5, .ref a6, .ref a7]) := upd_same
      have s6B := ((s7.trans s8).trans (s9.trans sA)).trans t2
      have E1 := E1.same s6B
      have E2 := E2.same s6B
      have E3 := E3.same s6B
      have h1 := s6B _ _ h1
      have E4 : ExS.ErA (upd HA l2 (.lst [.ref a4, .ref a5, .ref a6, .ref a7])) a4 D_InvalidWord := .inl (((s8.trans (s9.trans sA)).trans t2) _ _ e4)
      have E5 : ExS.ErA (upd HA l2 (.lst [.ref a4, .ref a5, .ref a6, .ref a7])) a5 D_InvalidHits := .inr (.inl ⟨d5, _, ((s9.trans sA).trans t2) _ _ e5, ((s9.trans sA).trans t2) _ _ f5⟩)
      have E6 : ExS.ErA (upd HA l2 (.lst [.ref a4, .ref a5, .ref a6, .ref a7])) a6 D_InvalidCommand := .inl ((sA.trans t2) _ _ e6)
      have E7 : ExS.ErA (upd HA l2 (.lst [.ref a4, .ref a5, .ref a6, .ref a7])) a7 D_Refused := .inr (.inl ⟨d7, _, t2 _ _ e7, t2 _ _ f7⟩)
      generalize upd HA l2 (.lst [.ref a4, .ref a5, .ref a6, .ref a7]) = HB at h1 h2 E1 E2 E3 E4 E5 E6 E7 ⊢
      refine ⟨l1, l2, _, _, rfl, rfl, h1, h2, by show 7 ≤ sizeLine; decide, fun l3 n3 => ?_⟩
      have t3 := same_upd (o := .lst ([.ref a1, .ref a2, .ref a3] ++ [.ref a4, .ref a5, .ref a6, .ref a7])) n3
      have h3 : upd HB l3 (.lst ([.ref a1, .ref a2, .ref a3] ++ [.ref a4, .ref a5, .ref a6, .ref a7])) l3 = some (.lst [.ref a1, .ref a2, .ref a3, .ref a4, .ref a5, .ref a6, .ref a7]) := upd_same
      generalize upd HB l3 (.lst ([.ref a1, .ref a2, .ref a3] ++ [.ref a4, .ref a5, .ref a6, .ref a7])) = HC at t3 h3 ⊢
      have all : ∀ v ∈ ([.ref a1, .ref a2, .ref a3, .ref a4, .ref a5, .ref a6, .ref a7] : List V), ∃ (e D : Addr) (bs : List Bool), v = .ref e ∧ ExS.ErA HC e D ∧ Knd K [G_InvalidRule, G_InvalidCheck, G_InvalidText, G_InvalidWord, G_InvalidHits, G_InvalidCommand, G_Refused] D bs ∧ cnt7 bs = 1 ∧ PySem.W.kitOne K (.ref D) (.ref G_FlipError) = some true ∧ PySem.W.kitOne K (.ref D) (.type "ValueError") = some true := by
        intro v hv
        simp only [List.mem_cons, List.not_mem_nil, or_false] at hv
        rcases hv with rfl | rfl | rfl | rfl | rfl | rfl | rfl
        · exact ⟨a1, D_InvalidRule, [true, false, false, false, false, false, false], rfl, E1.same t3, ⟨xc_InvalidRule, .cons ko_InvalidRule_InvalidRule (.cons ko_InvalidRule_InvalidCheck (.cons ko_InvalidRule_InvalidText (.cons ko_InvalidRule_InvalidWord (.cons ko_InvalidRule_InvalidHits (.cons ko_InvalidRule_InvalidCommand (.cons ko_InvalidRule_Refused .nil))))))⟩, rfl, ko_InvalidRule_Flip, ko_InvalidRule_Value⟩
        · exact ⟨a2, D_InvalidCheck, [false, true, false, false, false, false, false], rfl, E2.same t3, ⟨xc_InvalidCheck, .cons ko_InvalidCheck_InvalidRule (.cons ko_InvalidCheck_InvalidCheck (.cons ko_InvalidCheck_InvalidText (.cons ko_InvalidCheck_InvalidWord (.cons ko_InvalidCheck_InvalidHits (.cons ko_InvalidCheck_InvalidCommand (.cons ko_InvalidCheck_Refused .nil))))))⟩, rfl, ko_InvalidCheck_Flip, ko_InvalidCheck_Value⟩
        · exact ⟨a3, D_InvalidText, [false, false, true, false, false, false, false], rfl, E3.same t3, ⟨xc_InvalidText, .cons ko_InvalidText_InvalidRule (.cons ko_InvalidText_InvalidCheck (.cons ko_InvalidText_InvalidText (.cons ko_InvalidText_InvalidWord (.cons ko_InvalidText_InvalidHits (.cons ko_InvalidText_InvalidCommand (.cons ko_InvalidText_Refused .nil))))))⟩, rfl, ko_InvalidText_Flip, ko_InvalidText_Value⟩
        · exact ⟨a4, D_InvalidWord, [false, false, false, true, false, false, false], rfl, E4.same t3, ⟨xc_InvalidWord, .cons ko_InvalidWord_InvalidRule (.cons ko_InvalidWord_InvalidCheck (.cons ko_InvalidWord_InvalidText (.cons ko_InvalidWord_InvalidWord (.cons ko_InvalidWord_InvalidHits (.cons ko_InvalidWord_InvalidCommand (.cons ko_InvalidWord_Refused .nil))))))⟩, rfl, ko_InvalidWord_Flip, ko_InvalidWord_Value⟩
        · exact ⟨a5, D_InvalidHits, [false, false, false, false, true, false, false], rfl, E5.same t3, ⟨xc_InvalidHits, .cons ko_InvalidHits_InvalidRule (.cons ko_InvalidHits_InvalidCheck (.cons ko_InvalidHits_InvalidText (.cons ko_InvalidHits_InvalidWord (.cons ko_InvalidHits_InvalidHits (.cons ko_InvalidHits_InvalidCommand (.cons ko_InvalidHits_Refused .nil))))))⟩, rfl, ko_InvalidHits_Flip, ko_InvalidHits_Value⟩
        · exact ⟨a6, D_InvalidCommand, [false, false, false, false, false, true, false], rfl, E6.same t3, ⟨xc_InvalidCommand, .cons ko_InvalidCommand_InvalidRule (.cons ko_InvalidCommand_InvalidCheck (.cons ko_InvalidCommand_InvalidText (.cons ko_InvalidCommand_InvalidWord (.cons ko_InvalidCommand_InvalidHits (.cons ko_InvalidCommand_InvalidCommand (.cons ko_InvalidCommand_Refused .nil))))))⟩, rfl, ko_InvalidCommand_Flip, ko_InvalidCommand_Value⟩
        · exact ⟨a7, D_Refused, [false, false, false, false, false, false, true], rfl, E7.same t3, ⟨xc_Refused, .cons ko_Refused_InvalidRule (.cons ko_Refused_InvalidCheck (.cons ko_Refused_InvalidText (.cons ko_Refused_InvalidWord (.cons ko_Refused_InvalidHits (.cons ko_Refused_InvalidCommand (.cons ko_Refused_Refused .nil))))))⟩, rfl, ko_Refused_Flip, ko_Refused_Value⟩
      refine ⟨_, rfl, l3, rfl, ⟨_, SqL.of h3⟩, ?_⟩
      refine for_it (walk_list (xs := [.ref a1, .ref a2, .ref a3, .ref a4, .ref a5, .ref a6, .ref a7])) (fun i σ Hx => ∃ v1 v2 v3 v4 v5 v6 v7 v9 : Option V, σ = [some (.ref a), v1, v2, v3, v4, v5, v6, v7, some (.ref l3), v9] ∧ Same HC Hx) ⟨_, _, _, _, _, _, _, _, rfl, Same.refl _⟩ (fun i σ Hx _ h => by obtain ⟨v1, v2, v3, v4, v5, v6, v7, v9, _, h⟩ := h; exact SqL.of (h _ _ h3)) ?_ ?_
      · rintro i v σ Hx' Hx hi ⟨v1, v2, v3, v4, v5, v6, v7, v9, rfl, sx⟩ ⟨rfl, hv⟩
        obtain ⟨e, D, bs, rfl, er, kn, c1, kF, kV⟩ := all v (List.mem_of_getElem? hv)
        have er := er.same sx
        refine ⟨_, rfl, e, D, _, _, true, rfl, er, kn.1, .own _, kF, _, rfl, iteBF rfl ?_⟩
        refine ⟨_, rfl, e, D, _, _, true, rfl, er, kn.1, .ty _, kV, _, rfl, iteBF rfl ?_⟩
        refine ⟨_, rfl, e, D, bs, rfl, er, kn, fun H' s' => ⟨rfl, _, rfl, iteBF (by rw [c1]; rfl) ?_⟩⟩
        exact ⟨_, _, _, _, _, _, _, _, rfl, sx.trans s'⟩
      rintro σ Hx ⟨v1, v2, v3, v4, v5, v6, v7, v9, rfl, sx⟩
      refine fun ef nf => ⟨by show 2 ≤ sizeLine; decide, fun tk ntk => ?_⟩
      have ht : upd (upd Hx ef (ExO (.ref G_FlipError) ef)) tk (.tup [.ty "KeyError", .ty "IndexError"]) tk = some (.tup [.ty "KeyError", .ty "IndexError"]) := upd_same
      have hf : upd (upd Hx ef (ExO (.ref G_FlipError) ef)) tk (.tup [.ty "KeyError", .ty "IndexError"]) ef = some (ExO (.ref G_FlipError) ef) := (same_upd ntk) _ _ upd_same
      refine ⟨ef, G_FlipError, tk, _, _, false, rfl, ht, .cons (.ty _) (.cons (.ty _) .nil), .inr (.inr hf), xc_FlipError, kitAny_cons ko_Flip_KeyError (fun _ => kitAny_cons ko_Flip_IndexError (fun _ => kitAny_nil) (fun z => by cases z)) (fun z => by cases z), ?_⟩
      refine ⟨_, rfl, _, rfl, iteBT rfl ?_⟩
      refine fun eg ng => ?_
      refine ⟨eg, G_FlipError, _, rfl, .inr (.inr upd_same), ⟨xc_FlipError, .cons ko_Flip_InvalidRule (.cons ko_Flip_InvalidCheck (.cons ko_Flip_InvalidText (.cons ko_Flip_InvalidWord (.cons ko_Flip_InvalidHits (.cons ko_Flip_InvalidCommand (.cons ko_Flip_Refused .nil))))))⟩, fun H' s' => ⟨rfl, ?_⟩⟩
      exact k _
    · rintro i x σ H2' H2 hi ⟨v1, v2, v3, v4, v5, v6, v7, v8, v9, rfl, s2⟩ ⟨rfl, rfl⟩
      refine ⟨_, rfl, _, rfl, a, ns, i, (by show [V.ref a, V.int (0 + (i : Int))] = _; rw [Int.zero_add]), s2.seq hS, fun bx H1 nb s1 hb => ?_⟩
      have nbH : H bx = none := s2.free nb
      refine ⟨_, rfl, by decide, by decide, for_it walk_range (fun j σ H3 => ∃ v1 v3 v4 v5 v6 v7 v8 v9 : Option V, σ = [some (.ref a), v1, some (.ref bx), v3, v4, v5, v6, v7, v8, v9] ∧ Up bx H1 H3) ⟨_, _, _, _, _, _, _, _, rfl, Up.refl hb⟩ (fun _ _ _ _ _ => trivial) ?_ ?_⟩
      rotate_left
      · rintro σ H3 ⟨v1, v3, v4, v5, v6, v7, v8, v9, rfl, u3⟩
        exact ⟨_, _, _, _, _, _, _, _, _, rfl, fun c o e => u3.1 _ _ ((s2.trans s1) _ _ e) (fun z => by rw [z, nbH] at e; cases e)⟩
      · rintro j y σ H3' H3 hj ⟨v1, v3, v4, v5, v6, v7, v8, v9, rfl, u3⟩ ⟨rfl, rfl⟩
        refine ⟨_, rfl, bx, 4, rfl, by decide, u3.2, fun v1 H4 u4 d4 => ⟨by show 1 ≤ sizeLine; decide, fun t nt => ?_⟩⟩
        obtain ⟨d1, w1, k1⟩ := d4
        have b3 := u3.2
        have tb : t ≠ bx := u4.2.ne nt
        have nbx : ∀ c, H3 c = none → c ≠ bx := fun c e z => by
          obtain ⟨x, y, e'⟩ := b3
          rw [z, e'] at e
          cases e
        have nct : ∀ {c : Addr} {o : HO}, H4 c = some o → c ≠ t := fun {c o} e z => by rw [z, nt] at e; cases e
        have st := same_upd (o := .lst [v1]) nt
        have ht : upd H4 t (.lst [v1]) t = some (.lst [v1]) := upd_same
        have u5 := (u3.trans u4).same st
        generalize upd H4 t (.lst [v1]) = H5 at st ht u5 ⊢
        refine ⟨_, rfl, _, rfl, fun e1 x1 H6 ne1 nx1 nex s6 he hx => ?_⟩
        refine ⟨_, rfl, .ref t, rfl, fun l H7 s7 nl hl => ?_⟩
        have s57 := s6.trans s7
        have ht7 := s57 _ _ ht
        have w5 : Shw 5 2023 (.list [d1]) := (shw_list (ds := [d1]) (n := 4) (B := 1008) fun e he => by rw [List.mem_singleton.mp he]; exact w1).mono (Nat.le_refl _) (by show 1 * 1008 + 2 * 1 + 3 ≤ 2023; decide)
        obtain ⟨r1, r2, r3, r4⟩ := w5.rep (by decide) (by decide)
        have p7 : Dp K H7 v1 d1 := k1 _ fun c o e1 e2 => s57 _ _ (st _ _ e2)
        refine ⟨l, .list (List.replicate 10 (.list [d1])), rfl, .lst (SqL.of hl) (dp_rep (.lst (SqL.of ht7) (.cons p7 .nil)) 10), r1, r2, r3, r4, ?_⟩
        refine ⟨_, _, rfl, ?_⟩
        have he7 := s7 _ _ he
        have hx7 := s7 _ _ hx
        have u7 := u5.same s57
        have hxe : ∀ {c : Addr} {φ : Heap → Prop}, H7 c = some (.ext φ) → c ≠ t ∧ c ≠ bx := fun {c φ} e => by
          refine ⟨fun z => ?_, fun z => ?_⟩
          · rw [z, ht7] at e
            cases e
          · obtain ⟨x, y, e'⟩ := u7.2
            rw [z, e'] at e
            cases e
        refine ⟨_, rfl, .inl ⟨rfl, _, SqL.of ht7⟩, _, rfl, bx, 3, rfl, by decide, u7.2, fun v2 H8 u8 d8 => ?_⟩
        obtain ⟨d2, w2, k2⟩ := d8
        have ht8 := u8.1 _ _ ht7 tb
        refine ⟨t, _, _, rfl, rfl, ht8, by show 1 < sizeLine; decide, ?_⟩
        have ht9 : upd H8 t (.lst ([v1] ++ [v2])) t = some (.lst [v1, v2]) := upd_same
        have he9 : upd H8 t (.lst ([v1] ++ [v2])) e1 = some (exo e1 D_InvalidText (some x1)) := by rw [upd_ne (hxe he7).1]; exact u8.1 _ _ he7 (hxe he7).2
        have hx9 : upd H8 t (.lst ([v1] ++ [v2])) x1 = some (exd x1 [("at", .ref t)]) := by rw [upd_ne (hxe hx7).1]; exact u8.1 _ _ hx7 (hxe hx7).2
        have p9 : ∀ {Hz : Hp}, Same (upd H8 t (.lst ([v1] ++ [v2]))) Hz → Dp K Hz v1 d1 := fun {Hz} sz => k1 _ fun c o e1 e2 => sz _ _ (by
          rw [upd_ne (nct e2)]
          exact u8.1 _ _ (s57 _ _ (st _ _ e2)) (nbx c e1))
        have p9' : ∀ {Hz : Hp}, Same (upd H8 t (.lst ([v1] ++ [v2]))) Hz → Dp K Hz v2 d2 := fun {Hz} sz => k2 _ fun c o e1 e2 => sz _ _ (by
          rw [upd_ne (fun z => by rw [z, ht7] at e1; cases e1)]
          exact e2)
        have ntH : H1 t = none := by
          cases e : H1 t with
          | none => rfl
          | some o =>
            have := (u3.trans u4).1 _ _ e tb
            rw [nt] at this
            cases this
        have u9 : Up bx H1 (upd H8 t (.lst ([v1] ++ [v2]))) := (u7.trans u8).mut ntH tb
        generalize upd H8 t (.lst ([v1] ++ [v2])) = H9 at ht9 he9 hx9 p9 p9' u9 ⊢
        have w9 : Shw 5 2023 (.list [d1, d2]) := (shw_list (ds := [d1, d2]) (n := 4) (B := 1008) fun e he => by
          rcases List.mem_cons.mp he with rfl | he
          · exact w1
          · rw [List.mem_singleton.mp he]; exact w2.mono (by decide) (by decide)).mono (Nat.le_refl _) (by show 2 * 1008 + 2 * 2 + 3 ≤ 2023; decide)
        obtain ⟨q1, q2, q3, q4⟩ := w9.rep (by decide) (by decide)
        have pT : ∀ {Hz : Hp}, Same H9 Hz → Dp K Hz (.ref t) (.list [d1, d2]) := fun {Hz} s => .lst (SqL.of (s _ _ ht9)) (.cons (p9 s) (.cons (p9' s) .nil))
        have l64 : (PyData.list [d1, d2]).depth ≤ 64 := Nat.le_trans w9.dp (by decide)
        have lsz : (PyData.list [d1, d2]).shown.length ≤ sizeLine := Nat.le_trans w9.ln (by decide)
        refine ⟨_, rfl, .ref t, rfl, fun l2 H10 s10 nl2 hl2 => ?_⟩
        refine ⟨l2, .list (List.replicate 10 (.list [d1, d2])), rfl, .lst (SqL.of hl2) (dp_rep (pT s10) 10), q1, q2, q3, q4, ?_⟩
        have neq : (PyData.list (List.replicate 10 (.list [d1, d2]))).shown ≠ (PyData.list (List.replicate 10 (.list [d1]))).shown := fun z => by
          have z := congrArg Str.length z
          rw [rep_len 9, rep_len 9, one_len, two_len] at z
          omega
        refine ⟨_, rfl, rfl, _, rfl, iteBF (decide_eq_false fun z => neq (V.str.inj z)) ?_⟩
        refine ⟨_, rfl, e1, x1, _, _, rfl, s10 _ _ he9, s10 _ _ hx9, rfl, t, _, rfl, pT s10, w9.sh, w9.nd, l64, lsz, ?_⟩
        refine ⟨_, rfl, t, _, rfl, pT s10, w9.sh, w9.nd, l64, lsz, rfl, _, rfl, iteBF (by rw [decide_eq_true (by rfl)]; rfl) ?_⟩
        refine ⟨_, rfl, .ref t, rfl, fun l3 H11 s11 nl3 hl3 => ⟨l3, rfl, ⟨_, SqL.of hl3⟩, fun D nD => ?_⟩⟩
        have s911 := s10.trans s11
        refine lc_it (walk_list (xs := List.replicate 10 (.ref t))) (fun i Hx => Same H11 Hx ∧ Hx D = some (.lst [])) ⟨same_upd nD, upd_same⟩ (fun i Hx _ h => SqL.of (h.1 _ _ hl3)) ?_ ?_
        · rintro i x Hx' Hx hi ⟨sx, hD⟩ ⟨rfl, hv⟩
          obtain rfl : x = .ref t := List.eq_of_mem_replicate (List.mem_of_getElem? hv)
          refine ⟨rfl, _, rfl, t, _, rfl, pT (s911.trans sx), w9.sh, w9.nd, l64, lsz, ?_⟩
          refine ⟨_, rfl, t, _, rfl, pT (s911.trans sx), w9.sh, w9.nd, l64, lsz, rfl, _, rfl, iteBF (by rw [decide_eq_true (by rfl)]; rfl) ⟨sx, hD⟩⟩
        rintro Hy ⟨sy, hD⟩
        refine ⟨by show 0 ≤ sizeLine; decide, fun q nq => ?_⟩
        have sq := same_upd (o := .lst []) nq
        refine ⟨.list [], .list [], .lst (SqL.of (sq _ _ hD)) .nil, .lst (SqL.of upd_same) .nil, by decide, by decide, _, rfl, iteBF (by decide +kernel) ?_⟩
        exact ⟨_, _, _, _, _, _, _, _, rfl, u9.same ((s911.trans sy).trans sq)⟩
end
end U
set_option maxRecDepth 100000
set_option maxHeartbeats 4000000
namespace U
open PySem PySem.Spec PyProof.Rows
open L2 hiding Fun CX0 E0 pass0 Fun.binds
open C8 Lx
theorem all_mk {l : PySem.W.OpenLaw} {w : World} {K : PySem.W.Frag} {h : Heap} {mg : Str → Option Value} {fa : Addr} (X : K.In h) (G : h.Ns mainGlobals mg) (hfa : mg "law" = some (.ref fa))
    {f_l_seed : Addr} {od_l_seed an_l_seed : Option Addr} {sl_l_seed : Array (Option Value)} {oc_l_seed kV_l_seed dc_l_seed pm_l_seed cd_l_seed ct_l_seed : Value}
    {f_l_choose : Addr} {od_l_choose an_l_choose : Option Addr} {sl_l_choose : Array (Option Value)} {oc_l_choose kV_l_choose dc_l_choose pm_l_choose cd_l_choose ct_l_choose : Value}
    {f_l_one_of : Addr} {od_l_one_of an_l_one_of : Option Addr} {sl_l_one_of : Array (Option Value)} {oc_l_one_of kV_l_one_of dc_l_one_of pm_l_one_of cd_l_one_of ct_l_one_of : Value}
    {f_l_leaf : Addr} {od_l_leaf an_l_leaf : Option Addr} {sl_l_leaf : Array (Option Value)} {oc_l_leaf kV_l_leaf dc_l_leaf pm_l_leaf cd_l_leaf ct_l_leaf : Value}
    {f_l_any : Addr} {od_l_any an_l_any : Option Addr} {sl_l_any : Array (Option Value)} {oc_l_any kV_l_any dc_l_any pm_l_any cd_l_any ct_l_any : Value}
    {f_l_kept : Addr} {od_l_kept an_l_kept : Option Addr} {sl_l_kept : Array (Option Value)} {oc_l_kept kV_l_kept dc_l_kept pm_l_kept cd_l_kept ct_l_kept : Value}
    {f_l_sorts : Addr} {od_l_sorts an_l_sorts : Option Addr} {sl_l_sorts : Array (Option Value)} {oc_l_sorts kV_l_sorts dc_l_sorts pm_l_sorts cd_l_sorts ct_l_sorts : Value}
    {f_law : Addr} {od_law an_law : Option Addr} {sl_law : Array (Option Value)} {oc_law kV_law dc_law pm_law cd_law ct_law : Value}
    {C_InvalidRule f_InvalidRule cc_InvalidRule cda_InvalidRule : Addr} {od_InvalidRule an_InvalidRule : Option Addr} {sl_InvalidRule : Array (Option Value)} {oc_InvalidRule kV_InvalidRule dc_InvalidRule pm_InvalidRule ct_InvalidRule : Value}
    {Enm_InvalidRule Eq_InvalidRule : Str} {EN_InvalidRule : Addr} {Ebs_InvalidRule Ebm_InvalidRule : List Value} {Esn_InvalidRule : List Str} {Esub_InvalidRule : List Value} {Eab_InvalidRule : Bool} {Ecol_InvalidRule : Option Bool} {Edd_InvalidRule : Option Addr} {E0_InvalidRule E1_InvalidRule E2_InvalidRule E3_InvalidRule E5_InvalidRule : Option Value} {cl_InvalidRule ccl_InvalidRule : Value} {cld_InvalidRule cdd_InvalidRule : Option Addr} {csl_InvalidRule ccs_InvalidRule : Array (Option Value)} {cvs_InvalidRule : Array Value} {file_InvalidRule : Str} {ctf_InvalidRule : Tok}
    {C_InvalidCheck f_InvalidCheck cc_InvalidCheck cda_InvalidCheck : Addr} {od_InvalidCheck an_InvalidCheck : Option Addr} {sl_InvalidCheck : Array (Option Value)} {oc_InvalidCheck kV_InvalidCheck dc_InvalidCheck pm_InvalidCheck ct_InvalidCheck : Value}
    {Enm_InvalidCheck Eq_InvalidCheck : Str} {EN_InvalidCheck : Addr} {Ebs_InvalidCheck Ebm_InvalidCheck : List Value} {Esn_InvalidCheck : List Str} {Esub_InvalidCheck : List Value} {Eab_InvalidCheck : Bool} {Ecol_InvalidCheck : Option Bool} {Edd_InvalidCheck : Option Addr} {E0_InvalidCheck E1_InvalidCheck E2_InvalidCheck E3_InvalidCheck E5_InvalidCheck : Option Value} {cl_InvalidCheck ccl_InvalidCheck : Value} {cld_InvalidCheck cdd_InvalidCheck : Option Addr} {csl_InvalidCheck ccs_InvalidCheck : Array (Option Value)} {cvs_InvalidCheck : Array Value} {file_InvalidCheck : Str} {ctf_InvalidCheck : Tok}
    {C_InvalidText f_InvalidText cc_InvalidText cda_InvalidText : Addr} {od_InvalidText an_InvalidText : Option Addr} {sl_InvalidText : Array (Option Value)} {oc_InvalidText kV_InvalidText dc_InvalidText pm_InvalidText ct_InvalidText : Value}
    {Enm_InvalidText Eq_InvalidText : Str} {EN_InvalidText : Addr} {Ebs_InvalidText Ebm_InvalidText : List Value} {Esn_InvalidText : List Str} {Esub_InvalidText : List Value} {Eab_InvalidText : Bool} {Ecol_InvalidText : Option Bool} {Edd_InvalidText : Option Addr} {E0_InvalidText E1_InvalidText E2_InvalidText E3_InvalidText E5_InvalidText : Option Value} {cl_InvalidText ccl_InvalidText : Value} {cld_InvalidText cdd_InvalidText : Option Addr} {csl_InvalidText ccs_InvalidText : Array (Option Value)} {cvs_InvalidText : Array Value} {file_InvalidText : Str} {ctf_InvalidText : Tok}
    {C_InvalidHits f_InvalidHits cc_InvalidHits cda_InvalidHits : Addr} {od_InvalidHits an_InvalidHits : Option Addr} {sl_InvalidHits : Array (Option Value)} {oc_InvalidHits kV_InvalidHits dc_InvalidHits pm_InvalidHits ct_InvalidHits : Value}
    {Enm_InvalidHits Eq_InvalidHits : Str} {EN_InvalidHits : Addr} {Ebs_InvalidHits Ebm_InvalidHits : List Value} {Esn_InvalidHits : List Str} {Esub_InvalidHits : List Value} {Eab_InvalidHits : Bool} {Ecol_InvalidHits : Option Bool} {Edd_InvalidHits : Option Addr} {E0_InvalidHits E1_InvalidHits E2_InvalidHits E3_InvalidHits E5_InvalidHits : Option Value} {cl_InvalidHits ccl_InvalidHits : Value} {cld_InvalidHits cdd_InvalidHits : Option Addr} {csl_InvalidHits ccs_InvalidHits : Array (Option Value)} {cvs_InvalidHits : Array Value} {file_InvalidHits : Str} {ctf_InvalidHits : Tok}
    {C_Refused f_Refused cc_Refused cda_Refused : Addr} {od_Refused an_Refused : Option Addr} {sl_Refused : Array (Option Value)} {oc_Refused kV_Refused dc_Refused pm_Refused ct_Refused : Value}
    {Enm_Refused Eq_Refused : Str} {EN_Refused : Addr} {Ebs_Refused Ebm_Refused : List Value} {Esn_Refused : List Str} {Esub_Refused : List Value} {Eab_Refused : Bool} {Ecol_Refused : Option Bool} {Edd_Refused : Option Addr} {E0_Refused E1_Refused E2_Refused E3_Refused E5_Refused : Option Value} {cl_Refused ccl_Refused : Value} {cld_Refused cdd_Refused : Option Addr} {csl_Refused ccs_Refused : Array (Option Value)} {cvs_Refused : Array Value} {file_Refused : Str} {ctf_Refused : Tok}
    {C_InvalidWord f_InvalidWord cc_InvalidWord cda_InvalidWord : Addr} {od_InvalidWord an_InvalidWord : Option Addr} {sl_InvalidWord : Array (Option Value)} {oc_InvalidWord kV_InvalidWord dc_InvalidWord pm_InvalidWord ct_InvalidWord : Value}
    {Enm_InvalidWord Eq_InvalidWord : Str} {EN_InvalidWord : Addr} {Ebs_InvalidWord Ebm_InvalidWord : List Value} {Esn_InvalidWord : List Str} {Esub_InvalidWord : List Value} {Eab_InvalidWord : Bool} {Ecol_InvalidWord : Option Bool} {Edd_InvalidWord : Option Addr} {E0_InvalidWord E1_InvalidWord E2_InvalidWord E3_InvalidWord E5_InvalidWord : Option Value} {cl_InvalidWord ccl_InvalidWord : Value} {cld_InvalidWord cdd_InvalidWord : Option Addr} {csl_InvalidWord ccs_InvalidWord : Array (Option Value)} {cvs_InvalidWord : Array Value} {file_InvalidWord : Str} {ctf_InvalidWord : Tok}
    {C_InvalidCommand f_InvalidCommand cc_InvalidCommand cda_InvalidCommand : Addr} {od_InvalidCommand an_InvalidCommand : Option Addr} {sl_InvalidCommand : Array (Option Value)} {oc_InvalidCommand kV_InvalidCommand dc_InvalidCommand pm_InvalidCommand ct_InvalidCommand : Value}
    {Enm_InvalidCommand Eq_InvalidCommand : Str} {EN_InvalidCommand : Addr} {Ebs_InvalidCommand Ebm_InvalidCommand : List Value} {Esn_InvalidCommand : List Str} {Esub_InvalidCommand : List Value} {Eab_InvalidCommand : Bool} {Ecol_InvalidCommand : Option Bool} {Edd_InvalidCommand : Option Addr} {E0_InvalidCommand E1_InvalidCommand E2_InvalidCommand E3_InvalidCommand E5_InvalidCommand : Option Value} {cl_InvalidCommand ccl_InvalidCommand : Value} {cld_InvalidCommand cdd_InvalidCommand : Option Addr} {csl_InvalidCommand ccs_InvalidCommand : Array (Option Value)} {cvs_InvalidCommand : Array Value} {file_InvalidCommand : Str} {ctf_InvalidCommand : Tok}
    {CGI_InvalidRule : Addr}
    {CGI_InvalidCheck : Addr}
    {CGI_InvalidText : Addr}
    {CGI_InvalidWord : Addr}
    {CGI_InvalidHits : Addr}
    {CGI_InvalidCommand : Addr}
    {CGI_Refused : Addr}
    {CGI_FlipError : Addr}
    (a_l_seed : PySem.W.nsIn K mainGlobals "_law_seed" = some (some (.ref f_l_seed)))
    (l_l_seed : K.lookup f_l_seed = some ⟨oc_l_seed, od_l_seed, .func (PySem.W.fnOf "_law_seed" "_law_seed" (fnArgs s_l_seed) (fnBody s_l_seed) (fnScope s_l_seed) .none kV_l_seed dc_l_seed pm_l_seed an_l_seed cd_l_seed ct_l_seed), sl_l_seed⟩)
    (c_l_seed : PySem.W.codeIn K cd_l_seed "_law_seed" = true)
    (k_l_seed : PySem.W.keepIn K (.ref f_l_seed) = true)
    (a_l_choose : PySem.W.nsIn K mainGlobals "_law_choose" = some (some (.ref f_l_choose)))
    (l_l_choose : K.lookup f_l_choose = some ⟨oc_l_choose, od_l_choose, .func (PySem.W.fnOf "_law_choose" "_law_choose" (fnArgs s_l_choose) (fnBody s_l_choose) (fnScope s_l_choose) .none kV_l_choose dc_l_choose pm_l_choose an_l_choose cd_l_choose ct_l_choose), sl_l_choose⟩)
    (c_l_choose : PySem.W.codeIn K cd_l_choose "_law_choose" = true)
    (k_l_choose : PySem.W.keepIn K (.ref f_l_choose) = true)
    (a_l_one_of : PySem.W.nsIn K mainGlobals "_law_one_of" = some (some (.ref f_l_one_of)))
    (l_l_one_of : K.lookup f_l_one_of = some ⟨oc_l_one_of, od_l_one_of, .func (PySem.W.fnOf "_law_one_of" "_law_one_of" (fnArgs s_l_one_of) (fnBody s_l_one_of) (fnScope s_l_one_of) .none kV_l_one_of dc_l_one_of pm_l_one_of an_l_one_of cd_l_one_of ct_l_one_of), sl_l_one_of⟩)
    (c_l_one_of : PySem.W.codeIn K cd_l_one_of "_law_one_of" = true)
    (k_l_one_of : PySem.W.keepIn K (.ref f_l_one_of) = true)
    (a_l_leaf : PySem.W.nsIn K mainGlobals "_law_leaf" = some (some (.ref f_l_leaf)))
    (l_l_leaf : K.lookup f_l_leaf = some ⟨oc_l_leaf, od_l_leaf, .func (PySem.W.fnOf "_law_leaf" "_law_leaf" (fnArgs s_l_leaf) (fnBody s_l_leaf) (fnScope s_l_leaf) .none kV_l_leaf dc_l_leaf pm_l_leaf an_l_leaf cd_l_leaf ct_l_leaf), sl_l_leaf⟩)
    (c_l_leaf : PySem.W.codeIn K cd_l_leaf "_law_leaf" = true)
    (k_l_leaf : PySem.W.keepIn K (.ref f_l_leaf) = true)
    (a_l_any : PySem.W.nsIn K mainGlobals "_law_any" = some (some (.ref f_l_any)))
    (l_l_any : K.lookup f_l_any = some ⟨oc_l_any, od_l_any, .func (PySem.W.fnOf "_law_any" "_law_any" (fnArgs s_l_any) (fnBody s_l_any) (fnScope s_l_any) .none kV_l_any dc_l_any pm_l_any an_l_any cd_l_any ct_l_any), sl_l_any⟩)
    (c_l_any : PySem.W.codeIn K cd_l_any "_law_any" = true)
    (k_l_any : PySem.W.keepIn K (.ref f_l_any) = true)
    (a_l_kept : PySem.W.nsIn K mainGlobals "_law_kept" = some (some (.ref f_l_kept)))
    (l_l_kept : K.lookup f_l_kept = some ⟨oc_l_kept, od_l_kept, .func (PySem.W.fnOf "_law_kept" "_law_kept" (fnArgs s_l_kept) (fnBody s_l_kept) (fnScope s_l_kept) .none kV_l_kept dc_l_kept pm_l_kept an_l_kept cd_l_kept ct_l_kept), sl_l_kept⟩)
    (c_l_kept : PySem.W.codeIn K cd_l_kept "_law_kept" = true)
    (k_l_kept : PySem.W.keepIn K (.ref f_l_kept) = true)
    (a_l_sorts : PySem.W.nsIn K mainGlobals "_law_sorts" = some (some (.ref f_l_sorts)))
    (l_l_sorts : K.lookup f_l_sorts = some ⟨oc_l_sorts, od_l_sorts, .func (PySem.W.fnOf "_law_sorts" "_law_sorts" (fnArgs s_l_sorts) (fnBody s_l_sorts) (fnScope s_l_sorts) .none kV_l_sorts dc_l_sorts pm_l_sorts an_l_sorts cd_l_sorts ct_l_sorts), sl_l_sorts⟩)
    (c_l_sorts : PySem.W.codeIn K cd_l_sorts "_law_sorts" = true)
    (k_l_sorts : PySem.W.keepIn K (.ref f_l_sorts) = true)
    (a_law : PySem.W.nsIn K mainGlobals "law" = some (some (.ref f_law)))
    (l_law : K.lookup f_law = some ⟨oc_law, od_law, .func (PySem.W.fnOf "law" "law" (fnArgs s_law) (fnBody s_law) (fnScope s_law) .none kV_law dc_law pm_law an_law cd_law ct_law), sl_law⟩)
    (c_law : PySem.W.codeIn K cd_law "law" = true)
    (k_law : PySem.W.keepIn K (.ref f_law) = true)
    (aC_InvalidRule : PySem.W.nsIn K mainGlobals "InvalidRule" = some (some (.ref C_InvalidRule)))
    (elk_InvalidRule : K.lookup C_InvalidRule = some (excClassObj Enm_InvalidRule Eq_InvalidRule C_InvalidRule EN_InvalidRule Ebs_InvalidRule Ebm_InvalidRule true Esn_InvalidRule Esub_InvalidRule Eab_InvalidRule Ecol_InvalidRule Edd_InvalidRule E0_InvalidRule E1_InvalidRule E2_InvalidRule E3_InvalidRule E5_InvalidRule "ValueError.__new__"))
    (erf_InvalidRule : PySem.HandSPX.refsVE Ebm_InvalidRule = true)
    (sa_InvalidRule : PySem.W.findIn K (.ref C_InvalidRule) "__setattr__" = some (some (.builtin "object.__setattr__")))
    (exC_InvalidRule : PySem.W.subIn K (.ref C_InvalidRule) (.type "BaseException") = some true)
    (tyC_InvalidRule : PySem.W.typeIn K (.ref C_InvalidRule) = some (.type "type"))
    (kC_InvalidRule : PySem.W.keepIn K (.ref C_InvalidRule) = true)
    (no_InvalidRule : PySem.W.findIn K (.ref C_InvalidRule) "word" = some none)
    (a_InvalidRule : PySem.W.findIn K (.ref C_InvalidRule) "__init__" = some (some (.ref f_InvalidRule)))
    (t_InvalidRule : PySem.W.typeIn K (.ref f_InvalidRule) = some (.type "function"))
    (lk_InvalidRule : K.lookup f_InvalidRule = some ⟨oc_InvalidRule, od_InvalidRule, .func (PySem.W.fnX "__init__" "InvalidRule.__init__" (fnArgs s_InvalidRule_init) (fnBody s_InvalidRule_init) (fnScope s_InvalidRule_init) [("__class__", cc_InvalidRule)] .none kV_InvalidRule dc_InvalidRule pm_InvalidRule an_InvalidRule (.ref cda_InvalidRule) ct_InvalidRule), sl_InvalidRule⟩)
    (cd_InvalidRule : PySem.W.codeIn K (.ref cda_InvalidRule) "InvalidRule.__init__" = true)
    (cell_InvalidRule : K.lookup cc_InvalidRule = some ⟨cl_InvalidRule, cld_InvalidRule, .cell (some (.ref C_InvalidRule)), csl_InvalidRule⟩)
    (code_InvalidRule : K.lookup cda_InvalidRule = some ⟨ccl_InvalidRule, cdd_InvalidRule, .fields cvs_InvalidRule, ccs_InvalidRule⟩)
    (cfl_InvalidRule : cvs_InvalidRule[2]? = some (.str file_InvalidRule ctf_InvalidRule))
    (fl_InvalidRule : ((l.prog.main.file : Str) == file_InvalidRule) = true)
    (tp_InvalidRule : (l.prog.main.scope.names.lookup ("super" : Str)).isSome = false)
    (sub_InvalidRule : PySem.W.mroIn K C_InvalidRule (.ref C_InvalidRule) = some true)
    (sup_InvalidRule : PySem.W.nsIn K mainGlobals "super" = some none)
    (opq_InvalidRule : PySem.W.nsIn K cStatics "thirdparty.any" = some none)
    (ini_InvalidRule : PySem.W.ks_superIn K C_InvalidRule C_InvalidRule "__init__" = some (some (.builtin "ValueError.__init__")))
    (ve_InvalidRule : PySem.W.subIn K (.ref C_InvalidRule) (.type "ValueError") = some true)
    (ehd_InvalidRule : PySem.W.hasDictIn K C_InvalidRule = true)
    (esb_InvalidRule : PySem.W.subIn K (.ref C_InvalidRule) (.ref C_InvalidRule) = some true)
    (aC_InvalidCheck : PySem.W.nsIn K mainGlobals "InvalidCheck" = some (some (.ref C_InvalidCheck)))
    (elk_InvalidCheck : K.lookup C_InvalidCheck = some (excClassObj Enm_InvalidCheck Eq_InvalidCheck C_InvalidCheck EN_InvalidCheck Ebs_InvalidCheck Ebm_InvalidCheck true Esn_InvalidCheck Esub_InvalidCheck Eab_InvalidCheck Ecol_InvalidCheck Edd_InvalidCheck E0_InvalidCheck E1_InvalidCheck E2_InvalidCheck E3_InvalidCheck E5_InvalidCheck "ValueError.__new__"))
    (erf_InvalidCheck : PySem.HandSPX.refsVE Ebm_InvalidCheck = true)
    (sa_InvalidCheck : PySem.W.findIn K (.ref C_InvalidCheck) "__setattr__" = some (some (.builtin "object.__setattr__")))
    (exC_InvalidCheck : PySem.W.subIn K (.ref C_InvalidCheck) (.type "BaseException") = some true)
    (tyC_InvalidCheck : PySem.W.typeIn K (.ref C_InvalidCheck) = some (.type "type"))
    (kC_InvalidCheck : PySem.W.keepIn K (.ref C_InvalidCheck) = true)
    (no_InvalidCheck : PySem.W.findIn K (.ref C_InvalidCheck) "word" = some none)
    (a_InvalidCheck : PySem.W.findIn K (.ref C_InvalidCheck) "__init__" = some (some (.ref f_InvalidCheck)))
    (t_InvalidCheck : PySem.W.typeIn K (.ref f_InvalidCheck) = some (.type "function"))
    (lk_InvalidCheck : K.lookup f_InvalidCheck = some ⟨oc_InvalidCheck, od_InvalidCheck, .func (PySem.W.fnX "__init__" "InvalidCheck.__init__" (fnArgs s_InvalidCheck_init) (fnBody s_InvalidCheck_init) (fnScope s_InvalidCheck_init) [("__class__", cc_InvalidCheck)] .none kV_InvalidCheck dc_InvalidCheck pm_InvalidCheck an_InvalidCheck (.ref cda_InvalidCheck) ct_InvalidCheck), sl_InvalidCheck⟩)
    (cd_InvalidCheck : PySem.W.codeIn K (.ref cda_InvalidCheck) "InvalidCheck.__init__" = true)
    (cell_InvalidCheck : K.lookup cc_InvalidCheck = some ⟨cl_InvalidCheck, cld_InvalidCheck, .cell (some (.ref C_InvalidCheck)), csl_InvalidCheck⟩)
    (code_InvalidCheck : K.lookup cda_InvalidCheck = some ⟨ccl_InvalidCheck, cdd_InvalidCheck, .fields cvs_InvalidCheck, ccs_InvalidCheck⟩)
    (cfl_InvalidCheck : cvs_InvalidCheck[2]? = some (.str file_InvalidCheck ctf_InvalidCheck))
    (fl_InvalidCheck : ((l.prog.main.file : Str) == file_InvalidCheck) = true)
    (tp_InvalidCheck : (l.prog.main.scope.names.lookup ("super" : Str)).isSome = false)
    (sub_InvalidCheck : PySem.W.mroIn K C_InvalidCheck (.ref C_InvalidCheck) = some true)
    (sup_InvalidCheck : PySem.W.nsIn K mainGlobals "super" = some none)
    (opq_InvalidCheck : PySem.W.nsIn K cStatics "thirdparty.any" = some none)
    (ini_InvalidCheck : PySem.W.ks_superIn K C_InvalidCheck C_InvalidCheck "__init__" = some (some (.builtin "ValueError.__init__")))
    (ve_InvalidCheck : PySem.W.subIn K (.ref C_InvalidCheck) (.type "ValueError") = some true)
    (ehd_InvalidCheck : PySem.W.hasDictIn K C_InvalidCheck = true)
    (esb_InvalidCheck : PySem.W.subIn K (.ref C_InvalidCheck) (.ref C_InvalidCheck) = some true)
    (aC_InvalidText : PySem.W.nsIn K mainGlobals "InvalidText" = some (some (.ref C_InvalidText)))
    (elk_InvalidText : K.lookup C_InvalidText = some (excClassObj Enm_InvalidText Eq_InvalidText C_InvalidText EN_InvalidText Ebs_InvalidText Ebm_InvalidText true Esn_InvalidText Esub_InvalidText Eab_InvalidText Ecol_InvalidText Edd_InvalidText E0_InvalidText E1_InvalidText E2_InvalidText E3_InvalidText E5_InvalidText "ValueError.__new__"))
    (erf_InvalidText : PySem.HandSPX.refsVE Ebm_InvalidText = true)
    (sa_InvalidText : PySem.W.findIn K (.ref C_InvalidText) "__setattr__" = some (some (.builtin "object.__setattr__")))
    (exC_InvalidText : PySem.W.subIn K (.ref C_InvalidText) (.type "BaseException") = some true)
    (tyC_InvalidText : PySem.W.typeIn K (.ref C_InvalidText) = some (.type "type"))
    (kC_InvalidText : PySem.W.keepIn K (.ref C_InvalidText) = true)
    (no_InvalidText : PySem.W.findIn K (.ref C_InvalidText) "at" = some none)
    (a_InvalidText : PySem.W.findIn K (.ref C_InvalidText) "__init__" = some (some (.ref f_InvalidText)))
    (t_InvalidText : PySem.W.typeIn K (.ref f_InvalidText) = some (.type "function"))
    (lk_InvalidText : K.lookup f_InvalidText = some ⟨oc_InvalidText, od_InvalidText, .func (PySem.W.fnX "__init__" "InvalidText.__init__" (fnArgs s_InvalidText_init) (fnBody s_InvalidText_init) (fnScope s_InvalidText_init) [("__class__", cc_InvalidText)] .none kV_InvalidText dc_InvalidText pm_InvalidText an_InvalidText (.ref cda_InvalidText) ct_InvalidText), sl_InvalidText⟩)
    (cd_InvalidText : PySem.W.codeIn K (.ref cda_InvalidText) "InvalidText.__init__" = true)
    (cell_InvalidText : K.lookup cc_InvalidText = some ⟨cl_InvalidText, cld_InvalidText, .cell (some (.ref C_InvalidText)), csl_InvalidText⟩)
    (code_InvalidText : K.lookup cda_InvalidText = some ⟨ccl_InvalidText, cdd_InvalidText, .fields cvs_InvalidText, ccs_InvalidText⟩)
    (cfl_InvalidText : cvs_InvalidText[2]? = some (.str file_InvalidText ctf_InvalidText))
    (fl_InvalidText : ((l.prog.main.file : Str) == file_InvalidText) = true)
    (tp_InvalidText : (l.prog.main.scope.names.lookup ("super" : Str)).isSome = false)
    (sub_InvalidText : PySem.W.mroIn K C_InvalidText (.ref C_InvalidText) = some true)
    (sup_InvalidText : PySem.W.nsIn K mainGlobals "super" = some none)
    (opq_InvalidText : PySem.W.nsIn K cStatics "thirdparty.any" = some none)
    (ini_InvalidText : PySem.W.ks_superIn K C_InvalidText C_InvalidText "__init__" = some (some (.builtin "ValueError.__init__")))
    (ve_InvalidText : PySem.W.subIn K (.ref C_InvalidText) (.type "ValueError") = some true)
    (ehd_InvalidText : PySem.W.hasDictIn K C_InvalidText = true)
    (esb_InvalidText : PySem.W.subIn K (.ref C_InvalidText) (.ref C_InvalidText) = some true)
    (aC_InvalidHits : PySem.W.nsIn K mainGlobals "InvalidHits" = some (some (.ref C_InvalidHits)))
    (elk_InvalidHits : K.lookup C_InvalidHits = some (excClassObj Enm_InvalidHits Eq_InvalidHits C_InvalidHits EN_InvalidHits Ebs_InvalidHits Ebm_InvalidHits true Esn_InvalidHits Esub_InvalidHits Eab_InvalidHits Ecol_InvalidHits Edd_InvalidHits E0_InvalidHits E1_InvalidHits E2_InvalidHits E3_InvalidHits E5_InvalidHits "ValueError.__new__"))
    (erf_InvalidHits : PySem.HandSPX.refsVE Ebm_InvalidHits = true)
    (sa_InvalidHits : PySem.W.findIn K (.ref C_InvalidHits) "__setattr__" = some (some (.builtin "object.__setattr__")))
    (exC_InvalidHits : PySem.W.subIn K (.ref C_InvalidHits) (.type "BaseException") = some true)
    (tyC_InvalidHits : PySem.W.typeIn K (.ref C_InvalidHits) = some (.type "type"))
    (kC_InvalidHits : PySem.W.keepIn K (.ref C_InvalidHits) = true)
    (no_InvalidHits : PySem.W.findIn K (.ref C_InvalidHits) "at" = some none)
    (a_InvalidHits : PySem.W.findIn K (.ref C_InvalidHits) "__init__" = some (some (.ref f_InvalidHits)))
    (t_InvalidHits : PySem.W.typeIn K (.ref f_InvalidHits) = some (.type "function"))
    (lk_InvalidHits : K.lookup f_InvalidHits = some ⟨oc_InvalidHits, od_InvalidHits, .func (PySem.W.fnX "__init__" "InvalidHits.__init__" (fnArgs s_InvalidHits_init) (fnBody s_InvalidHits_init) (fnScope s_InvalidHits_init) [("__class__", cc_InvalidHits)] .none kV_InvalidHits dc_InvalidHits pm_InvalidHits an_InvalidHits (.ref cda_InvalidHits) ct_InvalidHits), sl_InvalidHits⟩)
    (cd_InvalidHits : PySem.W.codeIn K (.ref cda_InvalidHits) "InvalidHits.__init__" = true)
    (cell_InvalidHits : K.lookup cc_InvalidHits = some ⟨cl_InvalidHits, cld_InvalidHits, .cell (some (.ref C_InvalidHits)), csl_InvalidHits⟩)
    (code_InvalidHits : K.lookup cda_InvalidHits = some ⟨ccl_InvalidHits, cdd_InvalidHits, .fields cvs_InvalidHits, ccs_InvalidHits⟩)
    (cfl_InvalidHits : cvs_InvalidHits[2]? = some (.str file_InvalidHits ctf_InvalidHits))
    (fl_InvalidHits : ((l.prog.main.file : Str) == file_InvalidHits) = true)
    (tp_InvalidHits : (l.prog.main.scope.names.lookup ("super" : Str)).isSome = false)
    (sub_InvalidHits : PySem.W.mroIn K C_InvalidHits (.ref C_InvalidHits) = some true)
    (sup_InvalidHits : PySem.W.nsIn K mainGlobals "super" = some none)
    (opq_InvalidHits : PySem.W.nsIn K cStatics "thirdparty.any" = some none)
    (ini_InvalidHits : PySem.W.ks_superIn K C_InvalidHits C_InvalidHits "__init__" = some (some (.builtin "ValueError.__init__")))
    (ve_InvalidHits : PySem.W.subIn K (.ref C_InvalidHits) (.type "ValueError") = some true)
    (ehd_InvalidHits : PySem.W.hasDictIn K C_InvalidHits = true)
    (esb_InvalidHits : PySem.W.subIn K (.ref C_InvalidHits) (.ref C_InvalidHits) = some true)
    (aC_Refused : PySem.W.nsIn K mainGlobals "Refused" = some (some (.ref C_Refused)))
    (elk_Refused : K.lookup C_Refused = some (excClassObj Enm_Refused Eq_Refused C_Refused EN_Refused Ebs_Refused Ebm_Refused true Esn_Refused Esub_Refused Eab_Refused Ecol_Refused Edd_Refused E0_Refused E1_Refused E2_Refused E3_Refused E5_Refused "ValueError.__new__"))
    (erf_Refused : PySem.HandSPX.refsVE Ebm_Refused = true)
    (sa_Refused : PySem.W.findIn K (.ref C_Refused) "__setattr__" = some (some (.builtin "object.__setattr__")))
    (exC_Refused : PySem.W.subIn K (.ref C_Refused) (.type "BaseException") = some true)
    (tyC_Refused : PySem.W.typeIn K (.ref C_Refused) = some (.type "type"))
    (kC_Refused : PySem.W.keepIn K (.ref C_Refused) = true)
    (no_Refused : PySem.W.findIn K (.ref C_Refused) "at" = some none)
    (a_Refused : PySem.W.findIn K (.ref C_Refused) "__init__" = some (some (.ref f_Refused)))
    (t_Refused : PySem.W.typeIn K (.ref f_Refused) = some (.type "function"))
    (lk_Refused : K.lookup f_Refused = some ⟨oc_Refused, od_Refused, .func (PySem.W.fnX "__init__" "Refused.__init__" (fnArgs s_Refused_init) (fnBody s_Refused_init) (fnScope s_Refused_init) [("__class__", cc_Refused)] .none kV_Refused dc_Refused pm_Refused an_Refused (.ref cda_Refused) ct_Refused), sl_Refused⟩)
    (cd_Refused : PySem.W.codeIn K (.ref cda_Refused) "Refused.__init__" = true)
    (cell_Refused : K.lookup cc_Refused = some ⟨cl_Refused, cld_Refused, .cell (some (.ref C_Refused)), csl_Refused⟩)
    (code_Refused : K.lookup cda_Refused = some ⟨ccl_Refused, cdd_Refused, .fields cvs_Refused, ccs_Refused⟩)
    (cfl_Refused : cvs_Refused[2]? = some (.str file_Refused ctf_Refused))
    (fl_Refused : ((l.prog.main.file : Str) == file_Refused) = true)
    (tp_Refused : (l.prog.main.scope.names.lookup ("super" : Str)).isSome = false)
    (sub_Refused : PySem.W.mroIn K C_Refused (.ref C_Refused) = some true)
    (sup_Refused : PySem.W.nsIn K mainGlobals "super" = some none)
    (opq_Refused : PySem.W.nsIn K cStatics "thirdparty.any" = some none)
    (ini_Refused : PySem.W.ks_superIn K C_Refused C_Refused "__init__" = some (some (.builtin "ValueError.__init__")))
    (ve_Refused : PySem.W.subIn K (.ref C_Refused) (.type "ValueError") = some true)
    (ehd_Refused : PySem.W.hasDictIn K C_Refused = true)
    (esb_Refused : PySem.W.subIn K (.ref C_Refused) (.ref C_Refused) = some true)
    (aC_InvalidWord : PySem.W.nsIn K mainGlobals "InvalidWord" = some (some (.ref C_InvalidWord)))
    (elk_InvalidWord : K.lookup C_InvalidWord = some (excClassObj Enm_InvalidWord Eq_InvalidWord C_InvalidWord EN_InvalidWord Ebs_InvalidWord Ebm_InvalidWord true Esn_InvalidWord Esub_InvalidWord Eab_InvalidWord Ecol_InvalidWord Edd_InvalidWord E0_InvalidWord E1_InvalidWord E2_InvalidWord E3_InvalidWord E5_InvalidWord "ValueError.__new__"))
    (erf_InvalidWord : PySem.HandSPX.refsVE Ebm_InvalidWord = true)
    (sa_InvalidWord : PySem.W.findIn K (.ref C_InvalidWord) "__setattr__" = some (some (.builtin "object.__setattr__")))
    (exC_InvalidWord : PySem.W.subIn K (.ref C_InvalidWord) (.type "BaseException") = some true)
    (tyC_InvalidWord : PySem.W.typeIn K (.ref C_InvalidWord) = some (.type "type"))
    (kC_InvalidWord : PySem.W.keepIn K (.ref C_InvalidWord) = true)
    (no_InvalidWord : PySem.W.findIn K (.ref C_InvalidWord) "word" = some none)
    (a_InvalidWord : PySem.W.findIn K (.ref C_InvalidWord) "__init__" = some (some (.ref f_InvalidWord)))
    (t_InvalidWord : PySem.W.typeIn K (.ref f_InvalidWord) = some (.type "function"))
    (lk_InvalidWord : K.lookup f_InvalidWord = some ⟨oc_InvalidWord, od_InvalidWord, .func (PySem.W.fnX "__init__" "InvalidWord.__init__" (fnArgs s_InvalidWord_init) (fnBody s_InvalidWord_init) (fnScope s_InvalidWord_init) [("__class__", cc_InvalidWord)] .none kV_InvalidWord dc_InvalidWord pm_InvalidWord an_InvalidWord (.ref cda_InvalidWord) ct_InvalidWord), sl_InvalidWord⟩)
    (cd_InvalidWord : PySem.W.codeIn K (.ref cda_InvalidWord) "InvalidWord.__init__" = true)
    (cell_InvalidWord : K.lookup cc_InvalidWord = some ⟨cl_InvalidWord, cld_InvalidWord, .cell (some (.ref C_InvalidWord)), csl_InvalidWord⟩)
    (code_InvalidWord : K.lookup cda_InvalidWord = some ⟨ccl_InvalidWord, cdd_InvalidWord, .fields cvs_InvalidWord, ccs_InvalidWord⟩)
    (cfl_InvalidWord : cvs_InvalidWord[2]? = some (.str file_InvalidWord ctf_InvalidWord))
    (fl_InvalidWord : ((l.prog.main.file : Str) == file_InvalidWord) = true)
    (tp_InvalidWord : (l.prog.main.scope.names.lookup ("super" : Str)).isSome = false)
    (sub_InvalidWord : PySem.W.mroIn K C_InvalidWord (.ref C_InvalidWord) = some true)
    (sup_InvalidWord : PySem.W.nsIn K mainGlobals "super" = some none)
    (opq_InvalidWord : PySem.W.nsIn K cStatics "thirdparty.any" = some none)
    (ini_InvalidWord : PySem.W.ks_superIn K C_InvalidWord C_InvalidWord "__init__" = some (some (.builtin "ValueError.__init__")))
    (ve_InvalidWord : PySem.W.subIn K (.ref C_InvalidWord) (.type "ValueError") = some true)
    (ehd_InvalidWord : PySem.W.hasDictIn K C_InvalidWord = true)
    (esb_InvalidWord : PySem.W.subIn K (.ref C_InvalidWord) (.ref C_InvalidWord) = some true)
    (aC_InvalidCommand : PySem.W.nsIn K mainGlobals "InvalidCommand" = some (some (.ref C_InvalidCommand)))
    (elk_InvalidCommand : K.lookup C_InvalidCommand = some (excClassObj Enm_InvalidCommand Eq_InvalidCommand C_InvalidCommand EN_InvalidCommand Ebs_InvalidCommand Ebm_InvalidCommand true Esn_InvalidCommand Esub_InvalidCommand Eab_InvalidCommand Ecol_InvalidCommand Edd_InvalidCommand E0_InvalidCommand E1_InvalidCommand E2_InvalidCommand E3_InvalidCommand E5_InvalidCommand "ValueError.__new__"))
    (erf_InvalidCommand : PySem.HandSPX.refsVE Ebm_InvalidCommand = true)
    (sa_InvalidCommand : PySem.W.findIn K (.ref C_InvalidCommand) "__setattr__" = some (some (.builtin "object.__setattr__")))
    (exC_InvalidCommand : PySem.W.subIn K (.ref C_InvalidCommand) (.type "BaseException") = some true)
    (tyC_InvalidCommand : PySem.W.typeIn K (.ref C_InvalidCommand) = some (.type "type"))
    (kC_InvalidCommand : PySem.W.keepIn K (.ref C_InvalidCommand) = true)
    (no_InvalidCommand : PySem.W.findIn K (.ref C_InvalidCommand) "word" = some none)
    (a_InvalidCommand : PySem.W.findIn K (.ref C_InvalidCommand) "__init__" = some (some (.ref f_InvalidCommand)))
    (t_InvalidCommand : PySem.W.typeIn K (.ref f_InvalidCommand) = some (.type "function"))
    (lk_InvalidCommand : K.lookup f_InvalidCommand = some ⟨oc_InvalidCommand, od_InvalidCommand, .func (PySem.W.fnX "__init__" "InvalidCommand.__init__" (fnArgs s_InvalidCommand_init) (fnBody s_InvalidCommand_init) (fnScope s_InvalidCommand_init) [("__class__", cc_InvalidCommand)] .none kV_InvalidCommand dc_InvalidCommand pm_InvalidCommand an_InvalidCommand (.ref cda_InvalidCommand) ct_InvalidCommand), sl_InvalidCommand⟩)
    (cd_InvalidCommand : PySem.W.codeIn K (.ref cda_InvalidCommand) "InvalidCommand.__init__" = true)
    (cell_InvalidCommand : K.lookup cc_InvalidCommand = some ⟨cl_InvalidCommand, cld_InvalidCommand, .cell (some (.ref C_InvalidCommand)), csl_InvalidCommand⟩)
    (code_InvalidCommand : K.lookup cda_InvalidCommand = some ⟨ccl_InvalidCommand, cdd_InvalidCommand, .fields cvs_InvalidCommand, ccs_InvalidCommand⟩)
    (cfl_InvalidCommand : cvs_InvalidCommand[2]? = some (.str file_InvalidCommand ctf_InvalidCommand))
    (fl_InvalidCommand : ((l.prog.main.file : Str) == file_InvalidCommand) = true)
    (tp_InvalidCommand : (l.prog.main.scope.names.lookup ("super" : Str)).isSome = false)
    (sub_InvalidCommand : PySem.W.mroIn K C_InvalidCommand (.ref C_InvalidCommand) = some true)
    (sup_InvalidCommand : PySem.W.nsIn K mainGlobals "super" = some none)
    (opq_InvalidCommand : PySem.W.nsIn K cStatics "thirdparty.any" = some none)
    (ini_InvalidCommand : PySem.W.ks_superIn K C_InvalidCommand C_InvalidCommand "__init__" = some (some (.builtin "ValueError.__init__")))
    (ve_InvalidCommand : PySem.W.subIn K (.ref C_InvalidCommand) (.type "ValueError") = some true)
    (ehd_InvalidCommand : PySem.W.hasDictIn K C_InvalidCommand = true)
    (esb_InvalidCommand : PySem.W.subIn K (.ref C_InvalidCommand) (.ref C_InvalidCommand) = some true)
    (ega_InvalidRule : PySem.W.findIn K (.ref C_InvalidRule) "__getattribute__" = some (some (.builtin "BaseException.__getattribute__")))
    (egg_InvalidRule : PySem.W.findIn K (.ref C_InvalidRule) "__getattr__" = some none)
    (ega_InvalidCheck : PySem.W.findIn K (.ref C_InvalidCheck) "__getattribute__" = some (some (.builtin "BaseException.__getattribute__")))
    (egg_InvalidCheck : PySem.W.findIn K (.ref C_InvalidCheck) "__getattr__" = some none)
    (ega_InvalidText : PySem.W.findIn K (.ref C_InvalidText) "__getattribute__" = some (some (.builtin "BaseException.__getattribute__")))
    (egg_InvalidText : PySem.W.findIn K (.ref C_InvalidText) "__getattr__" = some none)
    (ega_InvalidHits : PySem.W.findIn K (.ref C_InvalidHits) "__getattribute__" = some (some (.builtin "BaseException.__getattribute__")))
    (egg_InvalidHits : PySem.W.findIn K (.ref C_InvalidHits) "__getattr__" = some none)
    (ega_Refused : PySem.W.findIn K (.ref C_Refused) "__getattribute__" = some (some (.builtin "BaseException.__getattribute__")))
    (egg_Refused : PySem.W.findIn K (.ref C_Refused) "__getattr__" = some none)
    (aGI_InvalidRule : PySem.W.nsIn K mainGlobals "InvalidRule" = some (some (.ref CGI_InvalidRule)))
    (aGI_InvalidCheck : PySem.W.nsIn K mainGlobals "InvalidCheck" = some (some (.ref CGI_InvalidCheck)))
    (aGI_InvalidText : PySem.W.nsIn K mainGlobals "InvalidText" = some (some (.ref CGI_InvalidText)))
    (aGI_InvalidWord : PySem.W.nsIn K mainGlobals "InvalidWord" = some (some (.ref CGI_InvalidWord)))
    (aGI_InvalidHits : PySem.W.nsIn K mainGlobals "InvalidHits" = some (some (.ref CGI_InvalidHits)))
    (aGI_InvalidCommand : PySem.W.nsIn K mainGlobals "InvalidCommand" = some (some (.ref CGI_InvalidCommand)))
    (aGI_Refused : PySem.W.nsIn K mainGlobals "Refused" = some (some (.ref CGI_Refused)))
    (aGI_FlipError : PySem.W.nsIn K mainGlobals "FlipError" = some (some (.ref CGI_FlipError)))
    (z_ValueError : PySem.W.nsIn K mainGlobals "ValueError" = some none)
    (z_KeyError : PySem.W.nsIn K mainGlobals "KeyError" = some none)
    (z_IndexError : PySem.W.nsIn K mainGlobals "IndexError" = some none)
    (xg_InvalidRule : PySem.W.findIn K (.ref C_InvalidRule) "__getattribute__" = some (some (.builtin "BaseException.__getattribute__")))
    (xk_InvalidRule : PySem.W.findIn K (.ref C_InvalidRule) "__getattr__" = some none)
    (xs_InvalidRule : PySem.W.subIn K (.ref C_InvalidRule) (.type "BaseException") = some true)
    (xd_InvalidRule : PySem.W.hasDictIn K C_InvalidRule = true)
    (xa_InvalidRule : PySem.W.findIn K (.ref C_InvalidRule) "__class__" = some (some (.builtin "object.__class__")))
    (clg_X : PySem.W.specialIn K (.builtin "object.__class__") "__get__" = some (some (.builtin "getset_descriptor.__get__")))
    (clt_X : PySem.W.takesIn K (.builtin "object.__class__") = some true)
    (xm_InvalidRule : PySem.W.mroIn K C_InvalidRule (.type "object") = some true)
    (xg_InvalidCheck : PySem.W.findIn K (.ref C_InvalidCheck) "__getattribute__" = some (some (.builtin "BaseException.__getattribute__")))
    (xk_InvalidCheck : PySem.W.findIn K (.ref C_InvalidCheck) "__getattr__" = some none)
    (xs_InvalidCheck : PySem.W.subIn K (.ref C_InvalidCheck) (.type "BaseException") = some true)
    (xd_InvalidCheck : PySem.W.hasDictIn K C_InvalidCheck = true)
    (xa_InvalidCheck : PySem.W.findIn K (.ref C_InvalidCheck) "__class__" = some (some (.builtin "object.__class__")))
    (xm_InvalidCheck : PySem.W.mroIn K C_InvalidCheck (.type "object") = some true)
    (xg_InvalidText : PySem.W.findIn K (.ref C_InvalidText) "__getattribute__" = some (some (.builtin "BaseException.__getattribute__")))
    (xk_InvalidText : PySem.W.findIn K (.ref C_InvalidText) "__getattr__" = some none)
    (xs_InvalidText : PySem.W.subIn K (.ref C_InvalidText) (.type "BaseException") = some true)
    (xd_InvalidText : PySem.W.hasDictIn K C_InvalidText = true)
    (xa_InvalidText : PySem.W.findIn K (.ref C_InvalidText) "__class__" = some (some (.builtin "object.__class__")))
    (xm_InvalidText : PySem.W.mroIn K C_InvalidText (.type "object") = some true)
    (xg_InvalidWord : PySem.W.findIn K (.ref C_InvalidWord) "__getattribute__" = some (some (.builtin "BaseException.__getattribute__")))
    (xk_InvalidWord : PySem.W.findIn K (.ref C_InvalidWord) "__getattr__" = some none)
    (xs_InvalidWord : PySem.W.subIn K (.ref C_InvalidWord) (.type "BaseException") = some true)
    (xd_InvalidWord : PySem.W.hasDictIn K C_InvalidWord = true)
    (xa_InvalidWord : PySem.W.findIn K (.ref C_InvalidWord) "__class__" = some (some (.builtin "object.__class__")))
    (xm_InvalidWord : PySem.W.mroIn K C_InvalidWord (.type "object") = some true)
    (xg_InvalidHits : PySem.W.findIn K (.ref C_InvalidHits) "__getattribute__" = some (some (.builtin "BaseException.__getattribute__")))
    (xk_InvalidHits : PySem.W.findIn K (.ref C_InvalidHits) "__getattr__" = some none)
    (xs_InvalidHits : PySem.W.subIn K (.ref C_InvalidHits) (.type "BaseException") = some true)
    (xd_InvalidHits : PySem.W.hasDictIn K C_InvalidHits = true)
    (xa_InvalidHits : PySem.W.findIn K (.ref C_InvalidHits) "__class__" = some (some (.builtin "object.__class__")))
    (xm_InvalidHits : PySem.W.mroIn K C_InvalidHits (.type "object") = some true)
    (xg_InvalidCommand : PySem.W.findIn K (.ref C_InvalidCommand) "__getattribute__" = some (some (.builtin "BaseException.__getattribute__")))
    (xk_InvalidCommand : PySem.W.findIn K (.ref C_InvalidCommand) "__getattr__" = some none)
    (xs_InvalidCommand : PySem.W.subIn K (.ref C_InvalidCommand) (.type "BaseException") = some true)
    (xd_InvalidCommand : PySem.W.hasDictIn K C_InvalidCommand = true)
    (xa_InvalidCommand : PySem.W.findIn K (.ref C_InvalidCommand) "__class__" = some (some (.builtin "object.__class__")))
    (xm_InvalidCommand : PySem.W.mroIn K C_InvalidCommand (.type "object") = some true)
    (xg_Refused : PySem.W.findIn K (.ref C_Refused) "__getattribute__" = some (some (.builtin "BaseException.__getattribute__")))
    (xk_Refused : PySem.W.findIn K (.ref C_Refused) "__getattr__" = some none)
    (xs_Refused : PySem.W.subIn K (.ref C_Refused) (.type "BaseException") = some true)
    (xd_Refused : PySem.W.hasDictIn K C_Refused = true)
    (xa_Refused : PySem.W.findIn K (.ref C_Refused) "__class__" = some (some (.builtin "object.__class__")))
    (xm_Refused : PySem.W.mroIn K C_Refused (.type "object") = some true)
    (xg_GFlipError : PySem.W.findIn K (.ref CGI_FlipError) "__getattribute__" = some (some (.builtin "BaseException.__getattribute__")))
    (xk_GFlipError : PySem.W.findIn K (.ref CGI_FlipError) "__getattr__" = some none)
    (xs_GFlipError : PySem.W.subIn K (.ref CGI_FlipError) (.type "BaseException") = some true)
    (xd_GFlipError : PySem.W.hasDictIn K CGI_FlipError = true)
    (xa_GFlipError : PySem.W.findIn K (.ref CGI_FlipError) "__class__" = some (some (.builtin "object.__class__")))
    (xm_GFlipError : PySem.W.mroIn K CGI_FlipError (.type "object") = some true)
    (kon_xn_Flip : PySem.W.excIn K CGI_FlipError [.type "ValueError", .type "Exception", .type "BaseException", .type "object"] "ValueError.__new__" = true)
    (kn_Flip : PySem.W.keepIn K (.ref CGI_FlipError) = true)
    (kon_of_InvalidRule_InvalidRule : PySem.W.kitOne K (.ref C_InvalidRule) (.ref CGI_InvalidRule) = some true)
    (kon_of_InvalidRule_InvalidCheck : PySem.W.kitOne K (.ref C_InvalidRule) (.ref CGI_InvalidCheck) = some false)
    (kon_of_InvalidRule_InvalidText : PySem.W.kitOne K (.ref C_InvalidRule) (.ref CGI_InvalidText) = some false)
    (kon_of_InvalidRule_InvalidWord : PySem.W.kitOne K (.ref C_InvalidRule) (.ref CGI_InvalidWord) = some false)
    (kon_of_InvalidRule_InvalidHits : PySem.W.kitOne K (.ref C_InvalidRule) (.ref CGI_InvalidHits) = some false)
    (kon_of_InvalidRule_InvalidCommand : PySem.W.kitOne K (.ref C_InvalidRule) (.ref CGI_InvalidCommand) = some false)
    (kon_of_InvalidRule_Refused : PySem.W.kitOne K (.ref C_InvalidRule) (.ref CGI_Refused) = some false)
    (kon_of_InvalidCheck_InvalidRule : PySem.W.kitOne K (.ref C_InvalidCheck) (.ref CGI_InvalidRule) = some false)
    (kon_of_InvalidCheck_InvalidCheck : PySem.W.kitOne K (.ref C_InvalidCheck) (.ref CGI_InvalidCheck) = some true)
    (kon_of_InvalidCheck_InvalidText : PySem.W.kitOne K (.ref C_InvalidCheck) (.ref CGI_InvalidText) = some false)
    (kon_of_InvalidCheck_InvalidWord : PySem.W.kitOne K (.ref C_InvalidCheck) (.ref CGI_InvalidWord) = some false)
    (kon_of_InvalidCheck_InvalidHits : PySem.W.kitOne K (.ref C_InvalidCheck) (.ref CGI_InvalidHits) = some false)
    (kon_of_InvalidCheck_InvalidCommand : PySem.W.kitOne K (.ref C_InvalidCheck) (.ref CGI_InvalidCommand) = some false)
    (kon_of_InvalidCheck_Refused : PySem.W.kitOne K (.ref C_InvalidCheck) (.ref CGI_Refused) = some false)
    (kon_of_InvalidText_InvalidRule : PySem.W.kitOne K (.ref C_InvalidText) (.ref CGI_InvalidRule) = some false)
    (kon_of_InvalidText_InvalidCheck : PySem.W.kitOne K (.ref C_InvalidText) (.ref CGI_InvalidCheck) = some false)
    (kon_of_InvalidText_InvalidText : PySem.W.kitOne K (.ref C_InvalidText) (.ref CGI_InvalidText) = some true)
    (kon_of_InvalidText_InvalidWord : PySem.W.kitOne K (.ref C_InvalidText) (.ref CGI_InvalidWord) = some false)
    (kon_of_InvalidText_InvalidHits : PySem.W.kitOne K (.ref C_InvalidText) (.ref CGI_InvalidHits) = some false)
    (kon_of_InvalidText_InvalidCommand : PySem.W.kitOne K (.ref C_InvalidText) (.ref CGI_InvalidCommand) = some false)
    (kon_of_InvalidText_Refused : PySem.W.kitOne K (.ref C_InvalidText) (.ref CGI_Refused) = some false)
    (kon_of_InvalidWord_InvalidRule : PySem.W.kitOne K (.ref C_InvalidWord) (.ref CGI_InvalidRule) = some false)
    (kon_of_InvalidWord_InvalidCheck : PySem.W.kitOne K (.ref C_InvalidWord) (.ref CGI_InvalidCheck) = some false)
    (kon_of_InvalidWord_InvalidText : PySem.W.kitOne K (.ref C_InvalidWord) (.ref CGI_InvalidText) = some false)
    (kon_of_InvalidWord_InvalidWord : PySem.W.kitOne K (.ref C_InvalidWord) (.ref CGI_InvalidWord) = some true)
    (kon_of_InvalidWord_InvalidHits : PySem.W.kitOne K (.ref C_InvalidWord) (.ref CGI_InvalidHits) = some false)
    (kon_of_InvalidWord_InvalidCommand : PySem.W.kitOne K (.ref C_InvalidWord) (.ref CGI_InvalidCommand) = some false)
    (kon_of_InvalidWord_Refused : PySem.W.kitOne K (.ref C_InvalidWord) (.ref CGI_Refused) = some false)
    (kon_of_InvalidHits_InvalidRule : PySem.W.kitOne K (.ref C_InvalidHits) (.ref CGI_InvalidRule) = some false)
    (kon_of_InvalidHits_InvalidCheck : PySem.W.kitOne K (.ref C_InvalidHits) (.ref CGI_InvalidCheck) = some false)
    (kon_of_InvalidHits_InvalidText : PySem.W.kitOne K (.ref C_InvalidHits) (.ref CGI_InvalidText) = some false)
    (kon_of_InvalidHits_InvalidWord : PySem.W.kitOne K (.ref C_InvalidHits) (.ref CGI_InvalidWord) = some false)
    (kon_of_InvalidHits_InvalidHits : PySem.W.kitOne K (.ref C_InvalidHits) (.ref CGI_InvalidHits) = some true)
    (kon_of_InvalidHits_InvalidCommand : PySem.W.kitOne K (.ref C_InvalidHits) (.ref CGI_InvalidCommand) = some false)
    (kon_of_InvalidHits_Refused : PySem.W.kitOne K (.ref C_InvalidHits) (.ref CGI_Refused) = some false)
    (kon_of_InvalidCommand_InvalidRule : PySem.W.kitOne K (.ref C_InvalidCommand) (.ref CGI_InvalidRule) = some false)
    (kon_of_InvalidCommand_InvalidCheck : PySem.W.kitOne K (.ref C_InvalidCommand) (.ref CGI_InvalidCheck) = some false)
    (kon_of_InvalidCommand_InvalidText : PySem.W.kitOne K (.ref C_InvalidCommand) (.ref CGI_InvalidText) = some false)
    (kon_of_InvalidCommand_InvalidWord : PySem.W.kitOne K (.ref C_InvalidCommand) (.ref CGI_InvalidWord) = some false)
    (kon_of_InvalidCommand_InvalidHits : PySem.W.kitOne K (.ref C_InvalidCommand) (.ref CGI_InvalidHits) = some false)
    (kon_of_InvalidCommand_InvalidCommand : PySem.W.kitOne K (.ref C_InvalidCommand) (.ref CGI_InvalidCommand) = some true)
    (kon_of_InvalidCommand_Refused : PySem.W.kitOne K (.ref C_InvalidCommand) (.ref CGI_Refused) = some false)
    (kon_of_Refused_InvalidRule : PySem.W.kitOne K (.ref C_Refused) (.ref CGI_InvalidRule) = some false)
    (kon_of_Refused_InvalidCheck : PySem.W.kitOne K (.ref C_Refused) (.ref CGI_InvalidCheck) = some false)
    (kon_of_Refused_InvalidText : PySem.W.kitOne K (.ref C_Refused) (.ref CGI_InvalidText) = some false)
    (kon_of_Refused_InvalidWord : PySem.W.kitOne K (.ref C_Refused) (.ref CGI_InvalidWord) = some false)
    (kon_of_Refused_InvalidHits : PySem.W.kitOne K (.ref C_Refused) (.ref CGI_InvalidHits) = some false)
    (kon_of_Refused_InvalidCommand : PySem.W.kitOne K (.ref C_Refused) (.ref CGI_InvalidCommand) = some false)
    (kon_of_Refused_Refused : PySem.W.kitOne K (.ref C_Refused) (.ref CGI_Refused) = some true)
    (kon_of_InvalidRule_Flip : PySem.W.kitOne K (.ref C_InvalidRule) (.ref CGI_FlipError) = some true)
    (kon_of_InvalidRule_Value : PySem.W.kitOne K (.ref C_InvalidRule) (.type "ValueError") = some true)
    (kon_of_Flip_InvalidRule : PySem.W.kitOne K (.ref CGI_FlipError) (.ref CGI_InvalidRule) = some false)
    (kon_of_InvalidCheck_Flip : PySem.W.kitOne K (.ref C_InvalidCheck) (.ref CGI_FlipError) = some true)
    (kon_of_InvalidCheck_Value : PySem.W.kitOne K (.ref C_InvalidCheck) (.type "ValueError") = some true)
    (kon_of_Flip_InvalidCheck : PySem.W.kitOne K (.ref CGI_FlipError) (.ref CGI_InvalidCheck) = some false)
    (kon_of_InvalidText_Flip : PySem.W.kitOne K (.ref C_InvalidText) (.ref CGI_FlipError) = some true)
    (kon_of_InvalidText_Value : PySem.W.kitOne K (.ref C_InvalidText) (.type "ValueError") = some true)
    (kon_of_Flip_InvalidText : PySem.W.kitOne K (.ref CGI_FlipError) (.ref CGI_InvalidText) = some false)
    (kon_of_InvalidWord_Flip : PySem.W.kitOne K (.ref C_InvalidWord) (.ref CGI_FlipError) = some true)
    (kon_of_InvalidWord_Value : PySem.W.kitOne K (.ref C_InvalidWord) (.type "ValueError") = some true)
    (kon_of_Flip_InvalidWord : PySem.W.kitOne K (.ref CGI_FlipError) (.ref CGI_InvalidWord) = some false)
    (kon_of_InvalidHits_Flip : PySem.W.kitOne K (.ref C_InvalidHits) (.ref CGI_FlipError) = some true)
    (kon_of_InvalidHits_Value : PySem.W.kitOne K (.ref C_InvalidHits) (.type "ValueError") = some true)
    (kon_of_Flip_InvalidHits : PySem.W.kitOne K (.ref CGI_FlipError) (.ref CGI_InvalidHits) = some false)
    (kon_of_InvalidCommand_Flip : PySem.W.kitOne K (.ref C_InvalidCommand) (.ref CGI_FlipError) = some true)
    (kon_of_InvalidCommand_Value : PySem.W.kitOne K (.ref C_InvalidCommand) (.type "ValueError") = some true)
    (kon_of_Flip_InvalidCommand : PySem.W.kitOne K (.ref CGI_FlipError) (.ref CGI_InvalidCommand) = some false)
    (kon_of_Refused_Flip : PySem.W.kitOne K (.ref C_Refused) (.ref CGI_FlipError) = some true)
    (kon_of_Refused_Value : PySem.W.kitOne K (.ref C_Refused) (.type "ValueError") = some true)
    (kon_of_Flip_Refused : PySem.W.kitOne K (.ref CGI_FlipError) (.ref CGI_Refused) = some false)
    (kon_of_Flip_KeyError : PySem.W.kitOne K (.ref CGI_FlipError) (.type "KeyError") = some false)
    (kon_of_Flip_IndexError : PySem.W.kitOne K (.ref CGI_FlipError) (.type "IndexError") = some false)
    (z_len : PySem.W.nsIn K mainGlobals "len" = some none)
    (z_abs : PySem.W.nsIn K mainGlobals "abs" = some none)
    (z_int : PySem.W.nsIn K mainGlobals "int" = some none)
    (z_range : PySem.W.nsIn K mainGlobals "range" = some none)
    (z_max : PySem.W.nsIn K mainGlobals "max" = some none)
    (z_min : PySem.W.nsIn K mainGlobals "min" = some none)
    (z_enumerate : PySem.W.nsIn K mainGlobals "enumerate" = some none)
    (z_zip : PySem.W.nsIn K mainGlobals "zip" = some none)
    (z_dict : PySem.W.nsIn K mainGlobals "dict" = some none)
    (z_list : PySem.W.nsIn K mainGlobals "list" = some none)
    (z_tuple : PySem.W.nsIn K mainGlobals "tuple" = some none)
    (z_isinstance : PySem.W.nsIn K mainGlobals "isinstance" = some none)
    (z_bool : PySem.W.nsIn K mainGlobals "bool" = some none)
    (z_str : PySem.W.nsIn K mainGlobals "str" = some none)
    (z_all : PySem.W.nsIn K mainGlobals "all" = some none)
    (z_any : PySem.W.nsIn K mainGlobals "any" = some none)
    (z_sum : PySem.W.nsIn K mainGlobals "sum" = some none)
    (z_sorted : PySem.W.nsIn K mainGlobals "sorted" = some none)
    (z_repr : PySem.W.nsIn K mainGlobals "repr" = some none) :
    ∃ fd : FuncData, (∀ (s : Shared) (v : Value), BindsTo s fd ⟨[v], []⟩ [("_law_script", v)]) ∧ ∀ base : Heap, K.In base → base.Ns mainGlobals mg → FnAt l.prog w K mg base 14 fa fd ["_law_script"] (spLaw K) := by
  have e : f_law = fa := Value.ref.inj (Option.some.inj ((PySem.W.mg_of X G a_law).symm.trans hfa))
  subst e
  have T : Tx mg := ⟨PySem.W.mg_none_of X G z_len, PySem.W.mg_none_of X G z_abs, PySem.W.mg_none_of X G z_int, PySem.W.mg_none_of X G z_range, PySem.W.mg_none_of X G z_max, PySem.W.mg_none_of X G z_min, PySem.W.mg_none_of X G z_enumerate, PySem.W.mg_none_of X G z_zip, PySem.W.mg_none_of X G z_dict, PySem.W.mg_none_of X G z_list, PySem.W.mg_none_of X G z_tuple, PySem.W.mg_none_of X G z_isinstance, PySem.W.mg_none_of X G z_bool, PySem.W.mg_none_of X G z_str, PySem.W.mg_none_of X G z_all, PySem.W.mg_none_of X G z_any, PySem.W.mg_none_of X G z_sum, PySem.W.mg_none_of X G z_sorted, PySem.W.mg_none_of X G z_repr⟩
  have F_l_seed : Def K mg "_law_seed" s_l_seed f_l_seed (PySem.W.fnOf "_law_seed" "_law_seed" (fnArgs s_l_seed) (fnBody s_l_seed) (fnScope s_l_seed) .none kV_l_seed dc_l_seed pm_l_seed an_l_seed cd_l_seed ct_l_seed) := ⟨⟨_, _, _, _, _, _, _, _, _, _, rfl, l_l_seed, c_l_seed⟩, PySem.W.mg_of X G a_l_seed, k_l_seed⟩
  have b_l_seed := C8.Fun.binds (ps := ["_law_script", "_law_k"]) F_l_seed.fn rfl fun _ _ _ _ _ _ us hl => match us, hl with | [_, _], _ => rfl
  have F_l_choose : Def K mg "_law_choose" s_l_choose f_l_choose (PySem.W.fnOf "_law_choose" "_law_choose" (fnArgs s_l_choose) (fnBody s_l_choose) (fnScope s_l_choose) .none kV_l_choose dc_l_choose pm_l_choose an_l_choose cd_l_choose ct_l_choose) := ⟨⟨_, _, _, _, _, _, _, _, _, _, rfl, l_l_choose, c_l_choose⟩, PySem.W.mg_of X G a_l_choose, k_l_choose⟩
  have b_l_choose := C8.Fun.binds (ps := ["_law_box", "_law_many"]) F_l_choose.fn rfl fun _ _ _ _ _ _ us hl => match us, hl with | [_, _], _ => rfl
  have F_l_one_of : Def K mg "_law_one_of" s_l_one_of f_l_one_of (PySem.W.fnOf "_law_one_of" "_law_one_of" (fnArgs s_l_one_of) (fnBody s_l_one_of) (fnScope s_l_one_of) .none kV_l_one_of dc_l_one_of pm_l_one_of an_l_one_of cd_l_one_of ct_l_one_of) := ⟨⟨_, _, _, _, _, _, _, _, _, _, rfl, l_l_one_of, c_l_one_of⟩, PySem.W.mg_of X G a_l_one_of, k_l_one_of⟩
  have b_l_one_of := C8.Fun.binds (ps := ["_law_box", "_law_some"]) F_l_one_of.fn rfl fun _ _ _ _ _ _ us hl => match us, hl with | [_, _], _ => rfl
  have F_l_leaf : Def K mg "_law_leaf" s_l_leaf f_l_leaf (PySem.W.fnOf "_law_leaf" "_law_leaf" (fnArgs s_l_leaf) (fnBody s_l_leaf) (fnScope s_l_leaf) .none kV_l_leaf dc_l_leaf pm_l_leaf an_l_leaf cd_l_leaf ct_l_leaf) := ⟨⟨_, _, _, _, _, _, _, _, _, _, rfl, l_l_leaf, c_l_leaf⟩, PySem.W.mg_of X G a_l_leaf, k_l_leaf⟩
  have b_l_leaf := C8.Fun.binds (ps := ["_law_box"]) F_l_leaf.fn rfl fun _ _ _ _ _ _ us hl => match us, hl with | [_], _ => rfl
  have F_l_any : Def K mg "_law_any" s_l_any f_l_any (PySem.W.fnOf "_law_any" "_law_any" (fnArgs s_l_any) (fnBody s_l_any) (fnScope s_l_any) .none kV_l_any dc_l_any pm_l_any an_l_any cd_l_any ct_l_any) := ⟨⟨_, _, _, _, _, _, _, _, _, _, rfl, l_l_any, c_l_any⟩, PySem.W.mg_of X G a_l_any, k_l_any⟩
  have b_l_any := C8.Fun.binds (ps := ["_law_box", "_law_deep"]) F_l_any.fn rfl fun _ _ _ _ _ _ us hl => match us, hl with | [_, _], _ => rfl
  have F_l_kept : Def K mg "_law_kept" s_l_kept f_l_kept (PySem.W.fnOf "_law_kept" "_law_kept" (fnArgs s_l_kept) (fnBody s_l_kept) (fnScope s_l_kept) .none kV_l_kept dc_l_kept pm_l_kept an_l_kept cd_l_kept ct_l_kept) := ⟨⟨_, _, _, _, _, _, _, _, _, _, rfl, l_l_kept, c_l_kept⟩, PySem.W.mg_of X G a_l_kept, k_l_kept⟩
  have b_l_kept := C8.Fun.binds (ps := ["_law_thing"]) F_l_kept.fn rfl fun _ _ _ _ _ _ us hl => match us, hl with | [_], _ => rfl
  have F_l_sorts : Def K mg "_law_sorts" s_l_sorts f_l_sorts (PySem.W.fnOf "_law_sorts" "_law_sorts" (fnArgs s_l_sorts) (fnBody s_l_sorts) (fnScope s_l_sorts) .none kV_l_sorts dc_l_sorts pm_l_sorts an_l_sorts cd_l_sorts ct_l_sorts) := ⟨⟨_, _, _, _, _, _, _, _, _, _, rfl, l_l_sorts, c_l_sorts⟩, PySem.W.mg_of X G a_l_sorts, k_l_sorts⟩
  have b_l_sorts := C8.Fun.binds (ps := ["_law_error"]) F_l_sorts.fn rfl fun _ _ _ _ _ _ us hl => match us, hl with | [_], _ => rfl
  have F_law : Def K mg "law" s_law f_law (PySem.W.fnOf "law" "law" (fnArgs s_law) (fnBody s_law) (fnScope s_law) .none kV_law dc_law pm_law an_law cd_law ct_law) := ⟨⟨_, _, _, _, _, _, _, _, _, _, rfl, l_law, c_law⟩, PySem.W.mg_of X G a_law, k_law⟩
  have b_law := C8.Fun.binds (ps := ["_law_script"]) F_law.fn rfl fun _ _ _ _ _ _ us hl => match us, hl with | [_], _ => rfl
  have TX_InvalidRule : L2.OexC K C_InvalidRule := ⟨⟨_, _, _, _, _, _, _, _, _, _, _, _, _, _, _, elk_InvalidRule, erf_InvalidRule⟩, sa_InvalidRule, exC_InvalidRule, tyC_InvalidRule, kC_InvalidRule⟩
  have EF_InvalidRule : ExS.ExF l.prog K mg C_InvalidRule "word" f_InvalidRule cc_InvalidRule cda_InvalidRule file_InvalidRule := ⟨TX_InvalidRule, no_InvalidRule, ⟨_, _, _, cell_InvalidRule⟩, ⟨_, _, _, _, _, code_InvalidRule, cfl_InvalidRule⟩, fl_InvalidRule, tp_InvalidRule, sub_InvalidRule, PySem.W.mg_none_of X G sup_InvalidRule, opq_InvalidRule, ini_InvalidRule, ve_InvalidRule⟩
  have XF_InvalidRule : XfC K C_InvalidRule := ⟨ega_InvalidRule, egg_InvalidRule, exC_InvalidRule, ehd_InvalidRule⟩
  have nw_InvalidRule := no_InvalidRule
  have g_InvalidRule := PySem.W.mg_of X G aC_InvalidRule
  have ex_InvalidRule := PySem.W.exm_ref exC_InvalidRule ehd_InvalidRule tyC_InvalidRule esb_InvalidRule
  have TX_InvalidCheck : L2.OexC K C_InvalidCheck := ⟨⟨_, _, _, _, _, _, _, _, _, _, _, _, _, _, _, elk_InvalidCheck, erf_InvalidCheck⟩, sa_InvalidCheck, exC_InvalidCheck, tyC_InvalidCheck, kC_InvalidCheck⟩
  have EF_InvalidCheck : ExS.ExF l.prog K mg C_InvalidCheck "word" f_InvalidCheck cc_InvalidCheck cda_InvalidCheck file_InvalidCheck := ⟨TX_InvalidCheck, no_InvalidCheck, ⟨_, _, _, cell_InvalidCheck⟩, ⟨_, _, _, _, _, code_InvalidCheck, cfl_InvalidCheck⟩, fl_InvalidCheck, tp_InvalidCheck, sub_InvalidCheck, PySem.W.mg_none_of X G sup_InvalidCheck, opq_InvalidCheck, ini_InvalidCheck, ve_InvalidCheck⟩
  have XF_InvalidCheck : XfC K C_InvalidCheck := ⟨ega_InvalidCheck, egg_InvalidCheck, exC_InvalidCheck, ehd_InvalidCheck⟩
  have nw_InvalidCheck := no_InvalidCheck
  have g_InvalidCheck := PySem.W.mg_of X G aC_InvalidCheck
  have ex_InvalidCheck := PySem.W.exm_ref exC_InvalidCheck ehd_InvalidCheck tyC_InvalidCheck esb_InvalidCheck
  have TX_InvalidText : L2.OexC K C_InvalidText := ⟨⟨_, _, _, _, _, _, _, _, _, _, _, _, _, _, _, elk_InvalidText, erf_InvalidText⟩, sa_InvalidText, exC_InvalidText, tyC_InvalidText, kC_InvalidText⟩
  have EF_InvalidText : ExS.ExF l.prog K mg C_InvalidText "at" f_InvalidText cc_InvalidText cda_InvalidText file_InvalidText := ⟨TX_InvalidText, no_InvalidText, ⟨_, _, _, cell_InvalidText⟩, ⟨_, _, _, _, _, code_InvalidText, cfl_InvalidText⟩, fl_InvalidText, tp_InvalidText, sub_InvalidText, PySem.W.mg_none_of X G sup_InvalidText, opq_InvalidText, ini_InvalidText, ve_InvalidText⟩
  have XF_InvalidText : XfC K C_InvalidText := ⟨ega_InvalidText, egg_InvalidText, exC_InvalidText, ehd_InvalidText⟩
  have nw_InvalidText := no_InvalidText
  have g_InvalidText := PySem.W.mg_of X G aC_InvalidText
  have ex_InvalidText := PySem.W.exm_ref exC_InvalidText ehd_InvalidText tyC_InvalidText esb_InvalidText
  have TX_InvalidHits : L2.OexC K C_InvalidHits := ⟨⟨_, _, _, _, _, _, _, _, _, _, _, _, _, _, _, elk_InvalidHits, erf_InvalidHits⟩, sa_InvalidHits, exC_InvalidHits, tyC_InvalidHits, kC_InvalidHits⟩
  have EF_InvalidHits : ExS.ExF l.prog K mg C_InvalidHits "at" f_InvalidHits cc_InvalidHits cda_InvalidHits file_InvalidHits := ⟨TX_InvalidHits, no_InvalidHits, ⟨_, _, _, cell_InvalidHits⟩, ⟨_, _, _, _, _, code_InvalidHits, cfl_InvalidHits⟩, fl_InvalidHits, tp_InvalidHits, sub_InvalidHits, PySem.W.mg_none_of X G sup_InvalidHits, opq_InvalidHits, ini_InvalidHits, ve_InvalidHits⟩
  have XF_InvalidHits : XfC K C_InvalidHits := ⟨ega_InvalidHits, egg_InvalidHits, exC_InvalidHits, ehd_InvalidHits⟩
  have nw_InvalidHits := no_InvalidHits
  have g_InvalidHits := PySem.W.mg_of X G aC_InvalidHits
  have ex_InvalidHits := PySem.W.exm_ref exC_InvalidHits ehd_InvalidHits tyC_InvalidHits esb_InvalidHits
  have TX_Refused : L2.OexC K C_Refused := ⟨⟨_, _, _, _, _, _, _, _, _, _, _, _, _, _, _, elk_Refused, erf_Refused⟩, sa_Refused, exC_Refused, tyC_Refused, kC_Refused⟩
  have EF_Refused : ExS.ExF l.prog K mg C_Refused "at" f_Refused cc_Refused cda_Refused file_Refused := ⟨TX_Refused, no_Refused, ⟨_, _, _, cell_Refused⟩, ⟨_, _, _, _, _, code_Refused, cfl_Refused⟩, fl_Refused, tp_Refused, sub_Refused, PySem.W.mg_none_of X G sup_Refused, opq_Refused, ini_Refused, ve_Refused⟩
  have XF_Refused : XfC K C_Refused := ⟨ega_Refused, egg_Refused, exC_Refused, ehd_Refused⟩
  have nw_Refused := no_Refused
  have g_Refused := PySem.W.mg_of X G aC_Refused
  have ex_Refused := PySem.W.exm_ref exC_Refused ehd_Refused tyC_Refused esb_Refused
  have TX_InvalidWord : L2.OexC K C_InvalidWord := ⟨⟨_, _, _, _, _, _, _, _, _, _, _, _, _, _, _, elk_InvalidWord, erf_InvalidWord⟩, sa_InvalidWord, exC_InvalidWord, tyC_InvalidWord, kC_InvalidWord⟩
  have EF_InvalidWord : ExS.ExF l.prog K mg C_InvalidWord "word" f_InvalidWord cc_InvalidWord cda_InvalidWord file_InvalidWord := ⟨TX_InvalidWord, no_InvalidWord, ⟨_, _, _, cell_InvalidWord⟩, ⟨_, _, _, _, _, code_InvalidWord, cfl_InvalidWord⟩, fl_InvalidWord, tp_InvalidWord, sub_InvalidWord, PySem.W.mg_none_of X G sup_InvalidWord, opq_InvalidWord, ini_InvalidWord, ve_InvalidWord⟩
  have g_InvalidWord := PySem.W.mg_of X G aC_InvalidWord
  have ex_InvalidWord := PySem.W.exm_ref exC_InvalidWord ehd_InvalidWord tyC_InvalidWord esb_InvalidWord
  have TX_InvalidCommand : L2.OexC K C_InvalidCommand := ⟨⟨_, _, _, _, _, _, _, _, _, _, _, _, _, _, _, elk_InvalidCommand, erf_InvalidCommand⟩, sa_InvalidCommand, exC_InvalidCommand, tyC_InvalidCommand, kC_InvalidCommand⟩
  have EF_InvalidCommand : ExS.ExF l.prog K mg C_InvalidCommand "word" f_InvalidCommand cc_InvalidCommand cda_InvalidCommand file_InvalidCommand := ⟨TX_InvalidCommand, no_InvalidCommand, ⟨_, _, _, cell_InvalidCommand⟩, ⟨_, _, _, _, _, code_InvalidCommand, cfl_InvalidCommand⟩, fl_InvalidCommand, tp_InvalidCommand, sub_InvalidCommand, PySem.W.mg_none_of X G sup_InvalidCommand, opq_InvalidCommand, ini_InvalidCommand, ve_InvalidCommand⟩
  have g_InvalidCommand := PySem.W.mg_of X G aC_InvalidCommand
  have ex_InvalidCommand := PySem.W.exm_ref exC_InvalidCommand ehd_InvalidCommand tyC_InvalidCommand esb_InvalidCommand
  refine ⟨PySem.W.fnOf "law" "law" (fnArgs s_law) (fnBody s_law) (fnScope s_law) .none kV_law dc_law pm_law an_law cd_law ct_law, fun s v => .of_eq rfl, fun base _ _ => ?_⟩
  have c_l_seed := cal_l_seed (P := l.prog) (w := w) (base := base) F_l_seed b_l_seed T
  have c_l_choose := cal_l_choose (P := l.prog) (w := w) (base := base) F_l_choose b_l_choose T
  have c_l_one_of := cal_l_one_of (P := l.prog) (w := w) (base := base) F_l_one_of b_l_one_of T c_l_choose
  have c_l_leaf := cal_l_leaf (P := l.prog) (w := w) (base := base) F_l_leaf b_l_leaf T c_l_one_of
  have c_l_any := cal_l_any (P := l.prog) (w := w) (base := base) F_l_any b_l_any T c_l_choose c_l_leaf
  have x_InvalidRule : ExS.XMk l.prog w K mg base 1 "InvalidRule" C_InvalidRule "word" := ⟨f_InvalidRule, _, ["self", "word"], TX_InvalidRule, a_InvalidRule, t_InvalidRule, ExS.fn_exc (self := "self") (word := "word") (text := "wrong argument of a rule") (k := 0) EF_InvalidRule lk_InvalidRule cd_InvalidRule (NdefX.nscope_by (by decide +kernel)) (by decide +kernel) rfl rfl ⟨_, _, _, _, _, _, _, _, _, _, _, _, rfl, rfl⟩ (by decide) (by decide) (by decide) (by decide), .all (fun us hl => match us, hl with | [_, _], _ => rfl), g_InvalidRule⟩
  have xK_InvalidRule : ExS.XMkK l.prog w K mg base 1 "InvalidRule" C_InvalidRule "word" ["word"] := ⟨f_InvalidRule, _, ["self", "word"], TX_InvalidRule, a_InvalidRule, t_InvalidRule, ExS.fn_exc (self := "self") (word := "word") (text := "wrong argument of a rule") (k := 0) EF_InvalidRule lk_InvalidRule cd_InvalidRule (NdefX.nscope_by (by decide +kernel)) (by decide +kernel) rfl rfl ⟨_, _, _, _, _, _, _, _, _, _, _, _, rfl, rfl⟩ (by decide) (by decide) (by decide) (by decide), ⟨fun s us ws _ h1 h2 => match us, ws, h1, h2 with | [_], [_], _, _ => .of_eq rfl, fun r1 r2 => r1.append r2⟩, g_InvalidRule, rfl⟩
  have x_InvalidCheck : ExS.XMk l.prog w K mg base 1 "InvalidCheck" C_InvalidCheck "word" := ⟨f_InvalidCheck, _, ["self", "word"], TX_InvalidCheck, a_InvalidCheck, t_InvalidCheck, ExS.fn_exc (self := "self") (word := "word") (text := "wrong argument of a check") (k := 0) EF_InvalidCheck lk_InvalidCheck cd_InvalidCheck (NdefX.nscope_by (by decide +kernel)) (by decide +kernel) rfl rfl ⟨_, _, _, _, _, _, _, _, _, _, _, _, rfl, rfl⟩ (by decide) (by decide) (by decide) (by decide), .all (fun us hl => match us, hl with | [_, _], _ => rfl), g_InvalidCheck⟩
  have xK_InvalidCheck : ExS.XMkK l.prog w K mg base 1 "InvalidCheck" C_InvalidCheck "word" ["word"] := ⟨f_InvalidCheck, _, ["self", "word"], TX_InvalidCheck, a_InvalidCheck, t_InvalidCheck, ExS.fn_exc (self := "self") (word := "word") (text := "wrong argument of a check") (k := 0) EF_InvalidCheck lk_InvalidCheck cd_InvalidCheck (NdefX.nscope_by (by decide +kernel)) (by decide +kernel) rfl rfl ⟨_, _, _, _, _, _, _, _, _, _, _, _, rfl, rfl⟩ (by decide) (by decide) (by decide) (by decide), ⟨fun s us ws _ h1 h2 => match us, ws, h1, h2 with | [_], [_], _, _ => .of_eq rfl, fun r1 r2 => r1.append r2⟩, g_InvalidCheck, rfl⟩
  have x_InvalidText : ExS.XMk l.prog w K mg base 1 "InvalidText" C_InvalidText "at" := ⟨f_InvalidText, _, ["self", "at"], TX_InvalidText, a_InvalidText, t_InvalidText, ExS.fn_exc (self := "self") (word := "at") (text := "the text cannot be read") (k := 0) EF_InvalidText lk_InvalidText cd_InvalidText (NdefX.nscope_by (by decide +kernel)) (by decide +kernel) rfl rfl ⟨_, _, _, _, _, _, _, _, _, _, _, _, rfl, rfl⟩ (by decide) (by decide) (by decide) (by decide), .all (fun us hl => match us, hl with | [_, _], _ => rfl), g_InvalidText⟩
  have xK_InvalidText : ExS.XMkK l.prog w K mg base 1 "InvalidText" C_InvalidText "at" ["at"] := ⟨f_InvalidText, _, ["self", "at"], TX_InvalidText, a_InvalidText, t_InvalidText, ExS.fn_exc (self := "self") (word := "at") (text := "the text cannot be read") (k := 0) EF_InvalidText lk_InvalidText cd_InvalidText (NdefX.nscope_by (by decide +kernel)) (by decide +kernel) rfl rfl ⟨_, _, _, _, _, _, _, _, _, _, _, _, rfl, rfl⟩ (by decide) (by decide) (by decide) (by decide), ⟨fun s us ws _ h1 h2 => match us, ws, h1, h2 with | [_], [_], _, _ => .of_eq rfl, fun r1 r2 => r1.append r2⟩, g_InvalidText, rfl⟩
  have x_InvalidHits : ExS.XMk l.prog w K mg base 1 "InvalidHits" C_InvalidHits "at" := ⟨f_InvalidHits, _, ["self", "at"], TX_InvalidHits, a_InvalidHits, t_InvalidHits, ExS.fn_exc (self := "self") (word := "at") (text := "no hit") (k := 0) EF_InvalidHits lk_InvalidHits cd_InvalidHits (NdefX.nscope_by (by decide +kernel)) (by decide +kernel) rfl rfl ⟨_, _, _, _, _, _, _, _, _, _, _, _, rfl, rfl⟩ (by decide) (by decide) (by decide) (by decide), .all (fun us hl => match us, hl with | [_, _], _ => rfl), g_InvalidHits⟩
  have xK_InvalidHits : ExS.XMkK l.prog w K mg base 1 "InvalidHits" C_InvalidHits "at" ["at"] := ⟨f_InvalidHits, _, ["self", "at"], TX_InvalidHits, a_InvalidHits, t_InvalidHits, ExS.fn_exc (self := "self") (word := "at") (text := "no hit") (k := 0) EF_InvalidHits lk_InvalidHits cd_InvalidHits (NdefX.nscope_by (by decide +kernel)) (by decide +kernel) rfl rfl ⟨_, _, _, _, _, _, _, _, _, _, _, _, rfl, rfl⟩ (by decide) (by decide) (by decide) (by decide), ⟨fun s us ws _ h1 h2 => match us, ws, h1, h2 with | [_], [_], _, _ => .of_eq rfl, fun r1 r2 => r1.append r2⟩, g_InvalidHits, rfl⟩
  have x_Refused : ExS.XMk l.prog w K mg base 1 "Refused" C_Refused "at" := ⟨f_Refused, _, ["self", "at"], TX_Refused, a_Refused, t_Refused, ExS.fn_exc (self := "self") (word := "at") (text := "refused") (k := 0) EF_Refused lk_Refused cd_Refused (NdefX.nscope_by (by decide +kernel)) (by decide +kernel) rfl rfl ⟨_, _, _, _, _, _, _, _, _, _, _, _, rfl, rfl⟩ (by decide) (by decide) (by decide) (by decide), .all (fun us hl => match us, hl with | [_, _], _ => rfl), g_Refused⟩
  have xK_Refused : ExS.XMkK l.prog w K mg base 1 "Refused" C_Refused "at" ["at"] := ⟨f_Refused, _, ["self", "at"], TX_Refused, a_Refused, t_Refused, ExS.fn_exc (self := "self") (word := "at") (text := "refused") (k := 0) EF_Refused lk_Refused cd_Refused (NdefX.nscope_by (by decide +kernel)) (by decide +kernel) rfl rfl ⟨_, _, _, _, _, _, _, _, _, _, _, _, rfl, rfl⟩ (by decide) (by decide) (by decide) (by decide), ⟨fun s us ws _ h1 h2 => match us, ws, h1, h2 with | [_], [_], _, _ => .of_eq rfl, fun r1 r2 => r1.append r2⟩, g_Refused, rfl⟩
  have c_l_kept := cal_l_kept (P := l.prog) (w := w) (base := base) F_l_kept b_l_kept T x_InvalidRule xK_InvalidRule XF_InvalidRule nw_InvalidRule x_InvalidCheck xK_InvalidCheck XF_InvalidCheck nw_InvalidCheck x_InvalidText xK_InvalidText XF_InvalidText nw_InvalidText x_InvalidHits xK_InvalidHits XF_InvalidHits nw_InvalidHits x_Refused xK_Refused XF_Refused nw_Refused
  have gi_InvalidRule := PySem.W.mg_of X G aGI_InvalidRule
  have gi_InvalidCheck := PySem.W.mg_of X G aGI_InvalidCheck
  have gi_InvalidText := PySem.W.mg_of X G aGI_InvalidText
  have gi_InvalidWord := PySem.W.mg_of X G aGI_InvalidWord
  have gi_InvalidHits := PySem.W.mg_of X G aGI_InvalidHits
  have gi_InvalidCommand := PySem.W.mg_of X G aGI_InvalidCommand
  have gi_Refused := PySem.W.mg_of X G aGI_Refused
  have c_l_sorts := cal_l_sorts (P := l.prog) (w := w) (base := base) F_l_sorts b_l_sorts T gi_InvalidRule gi_InvalidCheck gi_InvalidText gi_InvalidWord gi_InvalidHits gi_InvalidCommand gi_Refused
  have x0_InvalidWord : ExS.XMk0 l.prog w K mg base 1 "InvalidWord" C_InvalidWord := ⟨f_InvalidWord, _, ["self"], TX_InvalidWord, a_InvalidWord, t_InvalidWord, ExS.fn_exc0 (self := "self") (text := "no word") (k := 0) EF_InvalidWord lk_InvalidWord cd_InvalidWord (NdefX.nscope_by (by decide +kernel)) (by decide +kernel) rfl rfl ⟨_, _, _, _, _, _, _, rfl, rfl⟩, .all (fun us hl => match us, hl with | [_], _ => rfl), g_InvalidWord⟩
  have x0_InvalidCommand : ExS.XMk0 l.prog w K mg base 1 "InvalidCommand" C_InvalidCommand := ⟨f_InvalidCommand, _, ["self"], TX_InvalidCommand, a_InvalidCommand, t_InvalidCommand, ExS.fn_exc0 (self := "self") (text := "no command") (k := 0) EF_InvalidCommand lk_InvalidCommand cd_InvalidCommand (NdefX.nscope_by (by decide +kernel)) (by decide +kernel) rfl rfl ⟨_, _, _, _, _, _, _, rfl, rfl⟩, .all (fun us hl => match us, hl with | [_], _ => rfl), g_InvalidCommand⟩
  have gi_FlipError := PySem.W.mg_of X G aGI_FlipError
  have b_ValueError := PySem.W.mg_none_of X G z_ValueError
  have b_KeyError := PySem.W.mg_none_of X G z_KeyError
  have b_IndexError := PySem.W.mg_none_of X G z_IndexError
  have xc_InvalidRule : L2.ExcC K C_InvalidRule := ⟨xg_InvalidRule, xk_InvalidRule, xs_InvalidRule, xd_InvalidRule, xa_InvalidRule, clg_X, clt_X, xm_InvalidRule⟩
  have xc_InvalidCheck : L2.ExcC K C_InvalidCheck := ⟨xg_InvalidCheck, xk_InvalidCheck, xs_InvalidCheck, xd_InvalidCheck, xa_InvalidCheck, clg_X, clt_X, xm_InvalidCheck⟩
  have xc_InvalidText : L2.ExcC K C_InvalidText := ⟨xg_InvalidText, xk_InvalidText, xs_InvalidText, xd_InvalidText, xa_InvalidText, clg_X, clt_X, xm_InvalidText⟩
  have xc_InvalidWord : L2.ExcC K C_InvalidWord := ⟨xg_InvalidWord, xk_InvalidWord, xs_InvalidWord, xd_InvalidWord, xa_InvalidWord, clg_X, clt_X, xm_InvalidWord⟩
  have xc_InvalidHits : L2.ExcC K C_InvalidHits := ⟨xg_InvalidHits, xk_InvalidHits, xs_InvalidHits, xd_InvalidHits, xa_InvalidHits, clg_X, clt_X, xm_InvalidHits⟩
  have xc_InvalidCommand : L2.ExcC K C_InvalidCommand := ⟨xg_InvalidCommand, xk_InvalidCommand, xs_InvalidCommand, xd_InvalidCommand, xa_InvalidCommand, clg_X, clt_X, xm_InvalidCommand⟩
  have xc_Refused : L2.ExcC K C_Refused := ⟨xg_Refused, xk_Refused, xs_Refused, xd_Refused, xa_Refused, clg_X, clt_X, xm_Refused⟩
  have xc_FlipError : L2.ExcC K CGI_FlipError := ⟨xg_GFlipError, xk_GFlipError, xs_GFlipError, xd_GFlipError, xa_GFlipError, clg_X, clt_X, xm_GFlipError⟩
  have xn_FlipError := kon_xn_Flip
  have kn_FlipError := kn_Flip
  have ko_InvalidRule_InvalidRule := kon_of_InvalidRule_InvalidRule
  have ko_InvalidRule_InvalidCheck := kon_of_InvalidRule_InvalidCheck
  have ko_InvalidRule_InvalidText := kon_of_InvalidRule_InvalidText
  have ko_InvalidRule_InvalidWord := kon_of_InvalidRule_InvalidWord
  have ko_InvalidRule_InvalidHits := kon_of_InvalidRule_InvalidHits
  have ko_InvalidRule_InvalidCommand := kon_of_InvalidRule_InvalidCommand
  have ko_InvalidRule_Refused := kon_of_InvalidRule_Refused
  have ko_InvalidCheck_InvalidRule := kon_of_InvalidCheck_InvalidRule
  have ko_InvalidCheck_InvalidCheck := kon_of_InvalidCheck_InvalidCheck
  have ko_InvalidCheck_InvalidText := kon_of_InvalidCheck_InvalidText
  have ko_InvalidCheck_InvalidWord := kon_of_InvalidCheck_InvalidWord
  have ko_InvalidCheck_InvalidHits := kon_of_InvalidCheck_InvalidHits
  have ko_InvalidCheck_InvalidCommand := kon_of_InvalidCheck_InvalidCommand
  have ko_InvalidCheck_Refused := kon_of_InvalidCheck_Refused
  have ko_InvalidText_InvalidRule := kon_of_InvalidText_InvalidRule
  have ko_InvalidText_InvalidCheck := kon_of_InvalidText_InvalidCheck
  have ko_InvalidText_InvalidText := kon_of_InvalidText_InvalidText
  have ko_InvalidText_InvalidWord := kon_of_InvalidText_InvalidWord
  have ko_InvalidText_InvalidHits := kon_of_InvalidText_InvalidHits
  have ko_InvalidText_InvalidCommand := kon_of_InvalidText_InvalidCommand
  have ko_InvalidText_Refused := kon_of_InvalidText_Refused
  have ko_InvalidWord_InvalidRule := kon_of_InvalidWord_InvalidRule
  have ko_InvalidWord_InvalidCheck := kon_of_InvalidWord_InvalidCheck
  have ko_InvalidWord_InvalidText := kon_of_InvalidWord_InvalidText
  have ko_InvalidWord_InvalidWord := kon_of_InvalidWord_InvalidWord
  have ko_InvalidWord_InvalidHits := kon_of_InvalidWord_InvalidHits
  have ko_InvalidWord_InvalidCommand := kon_of_InvalidWord_InvalidCommand
  have ko_InvalidWord_Refused := kon_of_InvalidWord_Refused
  have ko_InvalidHits_InvalidRule := kon_of_InvalidHits_InvalidRule
  have ko_InvalidHits_InvalidCheck := kon_of_InvalidHits_InvalidCheck
  have ko_InvalidHits_InvalidText := kon_of_InvalidHits_InvalidText
  have ko_InvalidHits_InvalidWord := kon_of_InvalidHits_InvalidWord
  have ko_InvalidHits_InvalidHits := kon_of_InvalidHits_InvalidHits
  have ko_InvalidHits_InvalidCommand := kon_of_InvalidHits_InvalidCommand
  have ko_InvalidHits_Refused := kon_of_InvalidHits_Refused
  have ko_InvalidCommand_InvalidRule := kon_of_InvalidCommand_InvalidRule
  have ko_InvalidCommand_InvalidCheck := kon_of_InvalidCommand_InvalidCheck
  have ko_InvalidCommand_InvalidText := kon_of_InvalidCommand_InvalidText
  have ko_InvalidCommand_InvalidWord := kon_of_InvalidCommand_InvalidWord
  have ko_InvalidCommand_InvalidHits := kon_of_InvalidCommand_InvalidHits
  have ko_InvalidCommand_InvalidCommand := kon_of_InvalidCommand_InvalidCommand
  have ko_InvalidCommand_Refused := kon_of_InvalidCommand_Refused
  have ko_Refused_InvalidRule := kon_of_Refused_InvalidRule
  have ko_Refused_InvalidCheck := kon_of_Refused_InvalidCheck
  have ko_Refused_InvalidText := kon_of_Refused_InvalidText
  have ko_Refused_InvalidWord := kon_of_Refused_InvalidWord
  have ko_Refused_InvalidHits := kon_of_Refused_InvalidHits
  have ko_Refused_InvalidCommand := kon_of_Refused_InvalidCommand
  have ko_Refused_Refused := kon_of_Refused_Refused
  have ko_InvalidRule_Flip := kon_of_InvalidRule_Flip
  have ko_InvalidRule_Value := kon_of_InvalidRule_Value
  have ko_Flip_InvalidRule := kon_of_Flip_InvalidRule
  have ko_InvalidCheck_Flip := kon_of_InvalidCheck_Flip
  have ko_InvalidCheck_Value := kon_of_InvalidCheck_Value
  have ko_Flip_InvalidCheck := kon_of_Flip_InvalidCheck
  have ko_InvalidText_Flip := kon_of_InvalidText_Flip
  have ko_InvalidText_Value := kon_of_InvalidText_Value
  have ko_Flip_InvalidText := kon_of_Flip_InvalidText
  have ko_InvalidWord_Flip := kon_of_InvalidWord_Flip
  have ko_InvalidWord_Value := kon_of_InvalidWord_Value
  have ko_Flip_InvalidWord := kon_of_Flip_InvalidWord
  have ko_InvalidHits_Flip := kon_of_InvalidHits_Flip
  have ko_InvalidHits_Value := kon_of_InvalidHits_Value
  have ko_Flip_InvalidHits := kon_of_Flip_InvalidHits
  have ko_InvalidCommand_Flip := kon_of_InvalidCommand_Flip
  have ko_InvalidCommand_Value := kon_of_InvalidCommand_Value
  have ko_Flip_InvalidCommand := kon_of_Flip_InvalidCommand
  have ko_Refused_Flip := kon_of_Refused_Flip
  have ko_Refused_Value := kon_of_Refused_Value
  have ko_Flip_Refused := kon_of_Flip_Refused
  have ko_Flip_KeyError := kon_of_Flip_KeyError
  have ko_Flip_IndexError := kon_of_Flip_IndexError
  exact ok_law F_law T c_l_seed c_l_any c_l_kept c_l_sorts x_InvalidRule x_InvalidCheck x_InvalidText x_InvalidHits x_Refused x0_InvalidWord x0_InvalidCommand XF_InvalidText nw_InvalidText gi_FlipError b_ValueError b_KeyError b_IndexError xc_InvalidRule xc_InvalidCheck xc_InvalidText xc_InvalidWord xc_InvalidHits xc_InvalidCommand xc_Refused xc_FlipError xn_FlipError kn_FlipError ko_InvalidRule_InvalidRule ko_InvalidRule_InvalidCheck ko_InvalidRule_InvalidText ko_InvalidRule_InvalidWord ko_InvalidRule_InvalidHits ko_InvalidRule_InvalidCommand ko_InvalidRule_Refused ko_InvalidCheck_InvalidRule ko_InvalidCheck_InvalidCheck ko_InvalidCheck_InvalidText ko_InvalidCheck_InvalidWord ko_InvalidCheck_InvalidHits ko_InvalidCheck_InvalidCommand ko_InvalidCheck_Refused ko_InvalidText_InvalidRule ko_InvalidText_InvalidCheck ko_InvalidText_InvalidText ko_InvalidText_InvalidWord ko_InvalidText_InvalidHits ko_InvalidText_InvalidCommand ko_InvalidText_Refused ko_InvalidWord_InvalidRule ko_InvalidWord_InvalidCheck ko_InvalidWord_InvalidText ko_InvalidWord_InvalidWord ko_InvalidWord_InvalidHits ko_InvalidWord_InvalidCommand ko_InvalidWord_Refused ko_InvalidHits_InvalidRule ko_InvalidHits_InvalidCheck ko_InvalidHits_InvalidText ko_InvalidHits_InvalidWord ko_InvalidHits_InvalidHits ko_InvalidHits_InvalidCommand ko_InvalidHits_Refused ko_InvalidCommand_InvalidRule ko_InvalidCommand_InvalidCheck ko_InvalidCommand_InvalidText ko_InvalidCommand_InvalidWord ko_InvalidCommand_InvalidHits ko_InvalidCommand_InvalidCommand ko_InvalidCommand_Refused ko_Refused_InvalidRule ko_Refused_InvalidCheck ko_Refused_InvalidText ko_Refused_InvalidWord ko_Refused_InvalidHits ko_Refused_InvalidCommand ko_Refused_Refused ko_InvalidRule_Flip ko_InvalidRule_Value ko_Flip_InvalidRule ko_InvalidCheck_Flip ko_InvalidCheck_Value ko_Flip_InvalidCheck ko_InvalidText_Flip ko_InvalidText_Value ko_Flip_InvalidText ko_InvalidWord_Flip ko_InvalidWord_Value ko_Flip_InvalidWord ko_InvalidHits_Flip ko_InvalidHits_Value ko_Flip_InvalidHits ko_InvalidCommand_Flip ko_InvalidCommand_Value ko_Flip_InvalidCommand ko_Refused_Flip ko_Refused_Value ko_Flip_Refused ko_Flip_KeyError ko_Flip_IndexError
theorem walk {l : PySem.W.OpenLaw} {q : Program} {loose : List Str} {XP : (Str → Option Value) → Heap → Prop} {YP : World → Heap → Prop} {d : DefRec} {K : Params → PySem.W.Frag} (hn : l.most = some 63) (hdf : d.params.defaults = [])
    (hY : ∀ (w : World) (h : Heap), YP w h → (K w.params).In h)
    (F : ∀ (w : World) (mg : Str → Option Value) (fa : Addr) (h : Heap), (K w.params).In h → h.Ns mainGlobals mg → mg d.name = some (.ref fa) →
      ∃ fd : FuncData, (∀ (s : Shared) (u : Value), BindsTo s fd ⟨[u], []⟩ [("_law_script", u)]) ∧ ∀ base : Heap, (K w.params).In base → base.Ns mainGlobals mg → FnAt l.prog w (K w.params) mg base 14 fa fd ["_law_script"] (spLaw (K w.params))) :
    PySem.W.WalkO q loose XP YP l.row.toRowW d [] (fun f vs => PySem.call f vs) :=
  walk_at (n := 63) (k := 14) (x := "_law_script") (sp := fun w => spLaw (K w.params)) hn (by decide) hdf ⟨rfl, by decide, by decide⟩ hY F (fun _ _ a ns hl _ hS => ⟨a, ns, rfl, hS, hl, fun _ => rfl⟩)
end U
open PySem PySem.W PyProof.Rows
def PySem.W.Fast.tw9497364158106556245 : Unit := ()
def PySem.W.Fast.tw4924257032096427100 : Unit := ()
def PySem.W.Fast.tw7838767370491797254 : Unit := ()
def PySem.W.Fast.tw318104502153875281 : Unit := ()
def PySem.W.Fast.tw728204951184848013 : Unit := ()
def PySem.W.Fast.tw6159080681697240581 : Unit := ()
def PySem.W.Fast.tw15971464181654824993 : Unit := ()
def PySem.W.Fast.tw4787579435824010113 : Unit := ()
def PySem.W.Fast.tw6085689597596947332 : Unit := ()
def PySem.W.Fast.tw1783318675889485435 : Unit := ()
def PySem.W.Fast.tw1937720930649491464 : Unit := ()
def PySem.W.Fast.tw6301508090473296290 : Unit := ()
def PySem.W.Fast.tw3983205557644640836 : Unit := ()
def PySem.W.Fast.tw16777301518428145081 : Unit := ()
def PySem.W.Fast.tw14527671941605388441 : Unit := ()
def PySem.W.Fast.tw1279433319745209671 : Unit := ()
def PySem.W.Fast.tw7978529638047053558 : Unit := ()
def PySem.W.Fast.tw1460225096030070770 : Unit := ()
def PySem.W.Fast.tw14390978146254814682 : Unit := ()
def PySem.W.Fast.tw7055566706408078042 : Unit := ()
def PySem.W.Fast.tw15258199536784123280 : Unit := ()
def PySem.W.Fast.tw5262384624214080309 : Unit := ()
def PySem.W.Fast.tw3751527496460039229 : Unit := ()
def PySem.W.Fast.tw16434981676099828875 : Unit := ()
def PySem.W.Fast.tw15863924082104298226 : Unit := ()
def PySem.W.Fast.tw521080719506887836 : Unit := ()
def PySem.W.Fast.tw17866596467130033067 : Unit := ()
def PySem.W.Fast.tw14161482130335117254 : Unit := ()
def PySem.W.Fast.tw1364601395002862937 : Unit := ()
def PySem.W.Fast.tw6938113799403618820 : Unit := ()
def PySem.W.Fast.tw13725157349066095250 : Unit := ()
def PySem.W.Fast.tw10595165879660219605 : Unit := ()
def PySem.W.Fast.tw10510838020087694832 : Unit := ()
def PySem.W.Fast.tw5046199344793151439 : Unit := ()
def PySem.W.Fast.tw6287502937561332961 : Unit := ()
def PySem.W.Fast.tw13668303044355198184 : Unit := ()
def PySem.W.Fast.tw3438086484651559237 : Unit := ()
def PySem.W.Fast.tw1724867959566297140 : Unit := ()
def PySem.W.Fast.tw10928953573949250183 : Unit := ()
def PySem.W.Fast.tw13033523477303779610 : Unit := ()
def PySem.W.Fast.tw9867226329763279467 : Unit := ()
def PySem.W.Fast.tw17160188178307162566 : Unit := ()
def PySem.W.Fast.tw11727962437003621864 : Unit := ()
def PySem.W.Fast.tw5974799127052508187 : Unit := ()
def PySem.W.Fast.tw1245247802622218570 : Unit := ()
def PySem.W.Fast.tw4619079131525539393 : Unit := ()
def PySem.W.Fast.tw9019461357388241833 : Unit := ()
def PySem.W.Fast.tw12882473935977264130 : Unit := ()
def PySem.W.Fast.tw1621527184658814324 : Unit := ()
def PySem.W.Fast.tw607098627207622941 : Unit := ()
def PySem.W.Fast.tw2828849600963359292 : Unit := ()
def PySem.W.Fast.tw15820356772664569516 : Unit := ()
def PySem.W.Fast.tw13695327072438707735 : Unit := ()
def PySem.W.Fast.tw16350848240153744947 : Unit := ()
def PySem.W.Fast.tw10554412780637076632 : Unit := ()
def PySem.W.Fast.tw8821489510266678680 : Unit := ()
def PySem.W.Fast.tw1988899877508196379 : Unit := ()
def PySem.W.Fast.tw3151541452791602482 : Unit := ()
def PySem.W.Fast.tw15214511338388963310 : Unit := ()
def PySem.W.Fast.tw1282162592735349046 : Unit := ()
def PySem.W.Fast.tw11726466676821521941 : Unit := ()
def PySem.W.Fast.tw782694652862334459 : Unit := ()
def PySem.W.Fast.tw14740102430959963149 : Unit := ()
def PySem.W.Fast.tw13052498247743732753 : Unit := ()
def PySem.W.Fast.tw933540247807096517 : Unit := ()
def PySem.W.Fast.tw15897480236478315128 : Unit := ()
def PySem.W.Fast.tw779120551910777252 : Unit := ()
def PySem.W.Fast.tw11753220303838229873 : Unit := ()
def PySem.W.Fast.tw8632707696829100225 : Unit := ()
def PySem.W.Fast.tw15504100114384776080 : Unit := ()
def PySem.W.Fast.tw8319513845519630732 : Unit := ()
def PySem.W.Fast.tw6420982285513441592 : Unit := ()
def PySem.W.Fast.tw16507280003409394578 : Unit := ()
def PySem.W.Fast.tw6943971011615892282 : Unit := ()
def PySem.W.Fast.tw9563288754375804509 : Unit := ()
def PySem.W.Fast.tw3077062173294357960 : Unit := ()
def PySem.W.Fast.tw5437027010122514152 : Unit := ()
def PySem.W.Fast.tw13020493689344325739 : Unit := ()
def PySem.W.Fast.tw10488385360983927460 : Unit := ()
def PySem.W.Fast.tw2382313192129741328 : Unit := ()
def PySem.W.Fast.tw15636338099174733213 : Unit := ()
def PySem.W.Fast.tw9566123084373997850 : Unit := ()
def PySem.W.Fast.tw1491677896420917904 : Unit := ()
def PySem.W.Fast.tw8737015052004319729 : Unit := ()
def PySem.W.Fast.tw10201924523653237057 : Unit := ()
def PySem.W.Fast.tw17533768224869565339 : Unit := ()
def PySem.W.Fast.tw749705871914281268 : Unit := ()
def PySem.W.Fast.tw18005167191956750701 : Unit := ()
def PySem.W.Fast.tw5446369400697708070 : Unit := ()
def PySem.W.Fast.tw3325617525423188559 : Unit := ()
def PySem.W.Fast.tw770384138523764347 : Unit := ()
def PySem.W.Fast.tw3143333999759145224 : Unit := ()
def PySem.W.Fast.tw18125945515391647218 : Unit := ()
def PySem.W.Fast.tw3039058433747209768 : Unit := ()
def PySem.W.Fast.tw4146846144421737354 : Unit := ()
def PySem.W.Fast.tw17274948789128656347 : Unit := ()
def PySem.W.Fast.tw9917801092620506138 : Unit := ()
def PySem.W.Fast.tw5577033320396677544 : Unit := ()
def PySem.W.Fast.tw9673023140165966016 : Unit := ()
def PySem.W.Fast.tw302921688941566750 : Unit := ()
def PySem.W.Fast.tw7094708611347779420 : Unit := ()
def PySem.W.Fast.tw6224402563230790021 : Unit := ()
def PySem.W.Fast.tw13141493614307642513 : Unit := ()
def PySem.W.Fast.tw3940352388693689679 : Unit := ()
def PySem.W.Fast.tw9280107307370993868 : Unit := ()
def PySem.W.Fast.tw829698435175244925 : Unit := ()
def PySem.W.Fast.tw4632908203917381034 : Unit := ()
def PySem.W.Fast.tw4901823741490379907 : Unit := ()
def PySem.W.Fast.tw2858019859968907467 : Unit := ()
def PySem.W.Fast.tw18039550764553602095 : Unit := ()
def PySem.W.Fast.tw8118123110760499677 : Unit := ()
def PySem.W.Fast.tw14571309881111033599 : Unit := ()
def PySem.W.Fast.tw13759351813841662419 : Unit := ()
def PySem.W.Fast.tw5909922033256207442 : Unit := ()
def PySem.W.Fast.tw14589957792156658253 : Unit := ()
def PySem.W.Fast.tw16909711596288278934 : Unit := ()
def PySem.W.Fast.tw4456297371707398930 : Unit := ()
def PySem.W.Fast.tw6916506843868049017 : Unit := ()
def PySem.W.Fast.tw10202090561573807794 : Unit := ()
def PySem.W.Fast.tw10360548217468139075 : Unit := ()
def PySem.W.Fast.tw367084896701011257 : Unit := ()
def PySem.W.Fast.tw1362724972449183503 : Unit := ()
def PySem.W.Fast.tw8071092110289948148 : Unit := ()
def PySem.W.Fast.tw7496994863960719663 : Unit := ()
def PySem.W.Fast.tw11363658459650667450 : Unit := ()
def PySem.W.Fast.tw11672737555586119056 : Unit := ()
def PySem.W.Fast.tw3589405015777944940 : Unit := ()
def PySem.W.Fast.tw5199309742043723187 : Unit := ()
def PySem.W.Fast.tw2588357160113082127 : Unit := ()
def PySem.W.Fast.tw7226752887282252509 : Unit := ()
def PySem.W.Fast.tw244569255519027002 : Unit := ()
def PySem.W.Fast.tw9569619747550725491 : Unit := ()
def PySem.W.Fast.tw2840949869972338403 : Unit := ()
def PySem.W.Fast.tw4397122424291160977 : Unit := ()
def PySem.W.Fast.tw5587190145308494143 : Unit := ()
def PySem.W.Fast.tw16553934562247348170 : Unit := ()
def PySem.W.Fast.tw2016990404582891624 : Unit := ()
def PySem.W.Fast.tw6152826002593701136 : Unit := ()
def PySem.W.Fast.tw13733551753469822718 : Unit := ()
def PySem.W.Fast.tw6189937270370913609 : Unit := ()
def PySem.W.Fast.tw2496148382852303200 : Unit := ()
def PySem.W.Fast.tw10468367712539690833 : Unit := ()
def PySem.W.Fast.tw3252763653114464772 : Unit := ()
def PySem.W.Fast.tw11290044271841172387 : Unit := ()
def PySem.W.Fast.tw15720209064491347658 : Unit := ()
def PySem.W.Fast.tw13374740208668979043 : Unit := ()
def PySem.W.Fast.tw8727442969648948047 : Unit := ()
def PySem.W.Fast.tw11640419179582412393 : Unit := ()
def PySem.W.Fast.tw1215406716065072911 : Unit := ()
def PySem.W.Fast.tw823601523744284212 : Unit := ()
def PySem.W.Fast.tw5559081654272797630 : Unit := ()
def PySem.W.Fast.tw10333433708842619832 : Unit := ()
def PySem.W.Fast.tw1731388208223190423 : Unit := ()
def PySem.W.Fast.tw3644038571858941588 : Unit := ()
def PySem.W.Fast.tw7519042995203166646 : Unit := ()
def PySem.W.Fast.tw14213329014590308753 : Unit := ()
def PySem.W.Fast.tw4895144732598238174 : Unit := ()
def PySem.W.Fast.tw11938975329379324267 : Unit := ()
def PySem.W.Fast.tw13598105441456478905 : Unit := ()
def PySem.W.Fast.tw5110677135695004559 : Unit := ()
def PySem.W.Fast.tw949619980249467908 : Unit := ()
def PySem.W.Fast.tw15651940035545187257 : Unit := ()
def PySem.W.Fast.tw11200680494385574793 : Unit := ()
def PySem.W.Fast.tw3925010680364845159 : Unit := ()
def PySem.W.Fast.tw9509662779113465301 : Unit := ()
def PySem.W.Fast.tw10060830255458833072 : Unit := ()
def PySem.W.Fast.tw755693136531513023 : Unit := ()
def PySem.W.Fast.tw11113436405396889806 : Unit := ()
def PySem.W.Fast.tw1136540790283334440 : Unit := ()
def PySem.W.Fast.tw9470265653173172005 : Unit := ()
def PySem.W.Fast.tw6367068376075229458 : Unit := ()
def PySem.W.Fast.tw11817257727852994486 : Unit := ()
def PySem.W.Fast.tw13216877417313879481 : Unit := ()
def PySem.W.Fast.tw12564247005346687448 : Unit := ()
def PySem.W.Fast.tw11729733398384703656 : Unit := ()
def PySem.W.Fast.tw3006351217821437891 : Unit := ()
def PySem.W.Fast.tw8780036634906571601 : Unit := ()
def PySem.W.Fast.tw7479816450312476377 : Unit := ()
def PySem.W.Fast.tw15402425643692197308 : Unit := ()
def PySem.W.Fast.tw16234816807724655993 : Unit := ()
def PySem.W.Fast.tw8618932234719584851 : Unit := ()
def PySem.W.Fast.tw14354511509828796724 : Unit := ()
def PySem.W.Fast.tw2929367037432926892 : Unit := ()
def PySem.W.Fast.tw17519555138767667105 : Unit := ()
def PySem.W.Fast.tw15259409487258638968 : Unit := ()
def PySem.W.Fast.tw15081121302517237694 : Unit := ()
def PySem.W.Fast.tw6064830992373206082 : Unit := ()
def PySem.W.Fast.tw13724776964885572717 : Unit := ()
def PySem.W.Fast.tw8133895105983178739 : Unit := ()
def PySem.W.Fast.tw9357517291401248592 : Unit := ()
def PySem.W.Fast.tw11663933709637871665 : Unit := ()
def PySem.W.Fast.tw13849563465011098130 : Unit := ()
def PySem.W.Fast.tw7281928710293217296 : Unit := ()
def PySem.W.Fast.tw12516101342324429442 : Unit := ()
def PySem.W.Fast.tw516105709988320332 : Unit := ()
def PySem.W.Fast.tw17787904133726851913 : Unit := ()
def PySem.W.Fast.tw16502139329977351487 : Unit := ()
def PySem.W.Fast.tw8482739233531129939 : Unit := ()
def PySem.W.Fast.tw6740231900467558882 : Unit := ()
def PySem.W.Fast.tw5246496808029088149 : Unit := ()
def PySem.W.Fast.tw9572314143168475388 : Unit := ()
def PySem.W.Fast.tw14962542583834155635 : Unit := ()
def PySem.W.Fast.tw9602110423906340010 : Unit := ()
def PySem.W.Fast.tw10859705724295252727 : Unit := ()
def PySem.W.Fast.tw14839507773723360005 : Unit := ()
def PySem.W.Fast.tw15926658338776353313 : Unit := ()
def PySem.W.Fast.tw15539883079275568007 : Unit := ()
def PySem.W.Fast.tw17592875560652317227 : Unit := ()
def PySem.W.Fast.tw4817742770536825796 : Unit := ()
def PySem.W.Fast.tw15990215677864050879 : Unit := ()
def PySem.W.Fast.tw1429137742041193106 : Unit := ()
def PySem.W.Fast.tw4929576774158966131 : Unit := ()
def PySem.W.Fast.tw6244251303197490260 : Unit := ()
def PySem.W.Fast.tw14969663075266339746 : Unit := ()
def PySem.W.Fast.tw10513030581341658034 : Unit := ()
def PySem.W.Fast.tw996332346681731254 : Unit := ()
def PySem.W.Fast.tw15818416747540939591 : Unit := ()
def PySem.W.Fast.tw3550846017545516282 : Unit := ()
def PySem.W.Fast.tw1509887028835927272 : Unit := ()
def PySem.W.Fast.tw7727534287108919946 : Unit := ()
def PySem.W.Fast.tw13703421963463421833 : Unit := ()
def PySem.W.Fast.tw6706258921033301379 : Unit := ()
def PySem.W.Fast.tw16076820180555129910 : Unit := ()
def PySem.W.Fast.tw419938326822599150 : Unit := ()
def PySem.W.Fast.tw4927484913328272198 : Unit := ()
def PySem.W.Fast.tw10741903139291216538 : Unit := ()
def PySem.W.Fast.tw3000558861229555230 : Unit := ()
def PySem.W.Fast.tw5201000122883687578 : Unit := ()
def PySem.W.Fast.tw14955482473369137039 : Unit := ()
def PySem.W.Fast.tw9738101771858273629 : Unit := ()
def PySem.W.Fast.tw17275594517958223929 : Unit := ()
def PySem.W.Fast.tw17553806069258066875 : Unit := ()
def PySem.W.Fast.tw13514962326521704337 : Unit := ()
def PySem.W.Fast.tw10375923036416734482 : Unit := ()
def PySem.W.Fast.tw17722296913896013034 : Unit := ()
def PySem.W.Fast.tw5839532574475755778 : Unit := ()
def PySem.W.Fast.tw10702682106875292630 : Unit := ()
def PySem.W.Fast.tw11047042811032920640 : Unit := ()
def PySem.W.Fast.tw15579931583167011020 : Unit := ()
def PySem.W.Fast.tw875140452871030454 : Unit := ()
def PySem.W.Fast.tw273724335627561646 : Unit := ()
def PySem.W.Fast.tw8012758795309655409 : Unit := ()
def PySem.W.Fast.tw7531234433057039424 : Unit := ()
def PySem.W.Fast.tw1054601620348579881 : Unit := ()
def PySem.W.Fast.tw4945244171916118161 : Unit := ()
def PySem.W.Fast.tw13892703120126431914 : Unit := ()
def PySem.W.Fast.tw11024540715106564141 : Unit := ()
def PySem.W.Fast.tw11799207440256602629 : Unit := ()
def PySem.W.Fast.tw2836176579544338652 : Unit := ()
def PySem.W.Fast.tw3940228475261828195 : Unit := ()
def PySem.W.Fast.tw2989860837798605391 : Unit := ()
def PySem.W.Fast.tw17466246127605855471 : Unit := ()
def PySem.W.Fast.tw15374963311889295366 : Unit := ()
def PySem.W.Fast.tw12981941963017005703 : Unit := ()
def PySem.W.Fast.tw16420414244311207842 : Unit := ()
def PySem.W.Fast.tw15715663630698994081 : Unit := ()
def PySem.W.Fast.tw4664851061551080143 : Unit := ()
def PySem.W.Fast.tw9615614767190776225 : Unit := ()
def PySem.W.Fast.tw17528392587457174026 : Unit := ()
def PySem.W.Fast.tw3389032605276505942 : Unit := ()
def PySem.W.Fast.tw7837335653542303107 : Unit := ()
def PySem.W.Fast.tw17858011788961497324 : Unit := ()
def PySem.W.Fast.tw7259817560142346368 : Unit := ()
def PySem.W.Fast.tw13208142916970304872 : Unit := ()
def PySem.W.Fast.tw9418189817681225273 : Unit := ()
def PySem.W.Fast.tw18048277631760891605 : Unit := ()
def PySem.W.Fast.tw12387216274843153864 : Unit := ()
def PySem.W.Fast.tw13266198682746714076 : Unit := ()
def PySem.W.Fast.tw2840196605643181281 : Unit := ()
def PySem.W.Fast.tw753374024651433993 : Unit := ()
def PySem.W.Fast.tw6322311896198405013 : Unit := ()
def PySem.W.Fast.tw5170237696229671350 : Unit := ()
def PySem.W.Fast.tw10525718657732438833 : Unit := ()
def PySem.W.Fast.tw12364511135217585177 : Unit := ()
def PySem.W.Fast.tw382587525569618177 : Unit := ()
def PySem.W.Fast.tw10438845724931384861 : Unit := ()
def PySem.W.Fast.tw15934604812927299376 : Unit := ()
def PySem.W.Fast.tw17531493755826736586 : Unit := ()
def PySem.W.Fast.tw3805414113980788894 : Unit := ()
def PySem.W.Fast.tw13905793338601250604 : Unit := ()
def PySem.W.Fast.tw1373162443692287635 : Unit := ()
def PySem.W.Fast.tw14283929939065000299 : Unit := ()
def PySem.W.Fast.tw10314140487604371756 : Unit := ()
def PySem.W.Fast.tw14974695418600562727 : Unit := ()
def PySem.W.Fast.tw13778591466110012428 : Unit := ()
def PySem.W.Fast.tw8284792602323038299 : Unit := ()
def PySem.W.Fast.tw11979121747277417538 : Unit := ()
def PySem.W.Fast.tw2396141870145266457 : Unit := ()
def PySem.W.Fast.tw6431429870519405642 : Unit := ()
def PySem.W.Fast.tw12816461472753176393 : Unit := ()
def PySem.W.Fast.tw18226361547448762331 : Unit := ()
def PySem.W.Fast.tw16827060496121917473 : Unit := ()
def PySem.W.Fast.tw4858748869463025765 : Unit := ()
def PySem.W.Fast.tw7676381825606410769 : Unit := ()
def PySem.W.Fast.tw12940459560535165092 : Unit := ()
def PySem.W.Fast.tw16176767002091022204 : Unit := ()
def PySem.W.Fast.tw5813723101102825203 : Unit := ()
def PySem.W.Fast.tw11581380376616697561 : Unit := ()
def PySem.W.Fast.tw6137665420650154191 : Unit := ()
def PySem.W.Fast.tw2597620793393879238 : Unit := ()
def PySem.W.Fast.tw990984082840156942 : Unit := ()
def PySem.W.Fast.tw6359982801000974651 : Unit := ()
def PySem.W.Fast.tw5550789938851268112 : Unit := ()
def PySem.W.Fast.tw16598703830583125682 : Unit := ()
def PySem.W.Fast.tw1224677089370847431 : Unit := ()
def PySem.W.Fast.tw17495337790981494524 : Unit := ()
def PySem.W.Fast.tw4550870945163655277 : Unit := ()
def PySem.W.Fast.tw8224020097216174839 : Unit := ()
def PySem.W.Fast.tw15206145662512211694 : Unit := ()
def PySem.W.Fast.tw7552818971059828916 : Unit := ()
def PySem.W.Fast.tw2128079610220894827 : Unit := ()
def PySem.W.Fast.tw15055247407394698941 : Unit := ()
def PySem.W.Fast.tw14610384734605028576 : Unit := ()
def PySem.W.Fast.tw13955887280918041131 : Unit := ()
def PySem.W.Fast.tw868075979659665981 : Unit := ()
def PySem.W.Fast.tw4256489361308999640 : Unit := ()
def PySem.W.Fast.tw17730221066490971606 : Unit := ()
def PySem.W.Fast.tw11832381373003153738 : Unit := ()
def PySem.W.Fast.tw14423307923794737260 : Unit := ()
def PySem.W.Fast.tw11194242188270624150 : Unit := ()
def PySem.W.Fast.tw323855994485862328 : Unit := ()
def PySem.W.Fast.tw3609311888536441381 : Unit := ()
def PySem.W.Fast.tw8525413320447590569 : Unit := ()
def PySem.W.Fast.tw6579943572022541770 : Unit := ()
def PySem.W.Fast.tw2660649125583374353 : Unit := ()
def PySem.W.Fast.tw15307706282009202535 : Unit := ()
def PySem.W.Fast.tw4919237892062067321 : Unit := ()
def PySem.W.Fast.tw2715199004388299922 : Unit := ()
def PySem.W.Fast.tw13316546936327117111 : Unit := ()
def PySem.W.Fast.tw16339832098506217621 : Unit := ()
def PySem.W.Fast.tw1918434984967150683 : Unit := ()
def PySem.W.Fast.tw12588205790558172012 : Unit := ()
def PySem.W.Fast.tw14638735536987863270 : Unit := ()
def PySem.W.Fast.tw16138260550499548664 : Unit := ()
def PySem.W.Fast.tw17378916300501823448 : Unit := ()
def PySem.W.Fast.tw17503335002976441840 : Unit := ()
def PySem.W.Fast.tw14850893275548529026 : Unit := ()
def PySem.W.Fast.tw8182381940382148959 : Unit := ()
def PySem.W.Fast.tw4131573798060685242 : Unit := ()
def PySem.W.Fast.tw8258703181200832486 : Unit := ()
def PySem.W.Fast.tw5419635882440762647 : Unit := ()
def PySem.W.Fast.tw16113446693773987932 : Unit := ()
def PySem.W.Fast.tw1203861718911307768 : Unit := ()
def PySem.W.Fast.tw5549239099786723359 : Unit := ()
def PySem.W.Fast.tw12868867478460029375 : Unit := ()
def PySem.W.Fast.tw4668049464282422575 : Unit := ()
def PySem.W.Fast.tw12322452408125012527 : Unit := ()
def PySem.W.Fast.tw2925297518366872659 : Unit := ()
def PySem.W.Fast.tw5191638625202124473 : Unit := ()
def PySem.W.Fast.tw2893248561406777351 : Unit := ()
def PySem.W.Fast.tw6249525588084756414 : Unit := ()
def PySem.W.Fast.tw15550681506080113549 : Unit := ()
def PySem.W.Fast.tw781290079903189270 : Unit := ()
def PySem.W.Fast.tw10069888820787280802 : Unit := ()
def PySem.W.Fast.tw13603471210759058759 : Unit := ()
def PySem.W.Fast.tw7457510810819755614 : Unit := ()
def PySem.W.Fast.tw4879244376511301756 : Unit := ()
def PySem.W.Fast.tw6311872459250334431 : Unit := ()
def PySem.W.Fast.tw7938529143902363859 : Unit := ()
def PySem.W.Fast.tw17352415317716925042 : Unit := ()
def PySem.W.Fast.tw9422512767841026797 : Unit := ()
def PySem.W.Fast.tw1328341501961934563 : Unit := ()
def PySem.W.Fast.tw6569401333115543542 : Unit := ()
def PySem.W.Fast.tw10706939390391996076 : Unit := ()
def PySem.W.Fast.tw18193444196213518842 : Unit := ()
def PySem.W.Fast.tw8522782748289825923 : Unit := ()
def PySem.W.Fast.tw5600524095152428453 : Unit := ()
def PySem.W.Fast.tw12072068390680738403 : Unit := ()
def PySem.W.Fast.tw2622208861168964843 : Unit := ()
def PySem.W.Fast.tw12188675995993353965 : Unit := ()
def PySem.W.Fast.tw7025116872200051807 : Unit := ()
def PySem.W.Fast.tw4289539326802490894 : Unit := ()
def PySem.W.Fast.tw748393803903500604 : Unit := ()
def PySem.W.Fast.tw13869877555507209158 : Unit := ()
def PySem.W.Fast.tw3385753913941143175 : Unit := ()
def PySem.W.Fast.tw9635573441728198899 : Unit := ()
def PySem.W.Fast.tw16113908817431138892 : Unit := ()
def PySem.W.Fast.tw11742994166222258085 : Unit := ()
def PySem.W.Fast.tw9674848985085106922 : Unit := ()
def PySem.W.Fast.tw7646393810318053024 : Unit := ()
def PySem.W.Fast.tw16401056442439592139 : Unit := ()
def PySem.W.Fast.tw14438767911104512238 : Unit := ()
def PySem.W.Fast.tw1219411269647400124 : Unit := ()
def PySem.W.Fast.tw11969197965685243708 : Unit := ()
def PySem.W.Fast.tw1935937702080723765 : Unit := ()
def PySem.W.Fast.tw7292292363736445499 : Unit := ()
def PySem.W.Fast.tw569961950595277654 : Unit := ()
def PySem.W.Fast.tw13778454129325528866 : Unit := ()
def PySem.W.Fast.tw17329881654127453982 : Unit := ()
def PySem.W.Fast.tw16354462697142552630 : Unit := ()
def PySem.W.Fast.tw16169939459060524770 : Unit := ()
def PySem.W.Fast.tw12929506579256129013 : Unit := ()
def PySem.W.Fast.tw5646438809566967943 : Unit := ()
def PySem.W.Fast.tw11017813832888897132 : Unit := ()
def PySem.W.Fast.tw9060499779573807680 : Unit := ()
def PySem.W.Fast.tw16992112962733738957 : Unit := ()
def PySem.W.Fast.tw357072050608334308 : Unit := ()
def PySem.W.Fast.tw4424845357467126437 : Unit := ()
def PySem.W.Fast.tw11787547540797160682 : Unit := ()
def PySem.W.Fast.tw16612639526599460517 : Unit := ()
def PySem.W.Fast.tw13253637895425682414 : Unit := ()
def PySem.W.Fast.tw5185486412974313248 : Unit := ()
def PySem.W.Fast.tw12197414525452924754 : Unit := ()
def PySem.W.Fast.tw7804320073356808040 : Unit := ()
def PySem.W.Fast.tw9277418540700403170 : Unit := ()
def PySem.W.Fast.tw6977935418769206020 : Unit := ()
def PySem.W.Fast.tw16301696232123822470 : Unit := ()
def PySem.W.Fast.tw17141938837031370563 : Unit := ()
def PySem.W.Fast.tw14993893637508350409 : Unit := ()
def PySem.W.Fast.tw9985989276284189556 : Unit := ()
def PySem.W.Fast.tw11978250390146975773 : Unit := ()
def PySem.W.Fast.tw5305662629709097456 : Unit := ()
def PySem.W.Fast.tw13112467784092038100 : Unit := ()
def PySem.W.Fast.tw17494966268113829358 : Unit := ()
def PySem.W.Fast.tw3805302840103054015 : Unit := ()
def PySem.W.Fast.tw2510075121789836719 : Unit := ()
def PySem.W.Fast.tw6674676807139166182 : Unit := ()
def PySem.W.Fast.tw9126391294480714369 : Unit := ()
def PySem.W.Fast.tw17769179602001684346 : Unit := ()
def PySem.W.Fast.tw4849788375074460456 : Unit := ()
def PySem.W.Fast.tw914032575406187659 : Unit := ()
def PySem.W.Fast.tw15366939999554606743 : Unit := ()
def PySem.W.Fast.tw14910736572518687700 : Unit := ()
def PySem.W.Fast.tw13978693832200375269 : Unit := ()
def PySem.W.Fast.tw15415991647576081703 : Unit := ()
def PySem.W.Fast.tw16379645840453593113 : Unit := ()
def PySem.W.Fast.tw12480162135094591726 : Unit := ()
def PySem.W.Fast.tw5404887107175716483 : Unit := ()
def PySem.W.Fast.tw1011132770428976640 : Unit := ()
def PySem.W.Fast.tw3352851541763523618 : Unit := ()
def PySem.W.Fast.tw798269961070827475 : Unit := ()
def PySem.W.Fast.tw17243259071671390170 : Unit := ()
def PySem.W.Fast.tw9507532840081042346 : Unit := ()
def PySem.W.Fast.tw6568344405398093586 : Unit := ()
def PySem.W.Fast.tw15910196604011656230 : Unit := ()
def PySem.W.Fast.tw1332099219178910188 : Unit := ()
def PySem.W.Fast.tw5982623916367245983 : Unit := ()
def PySem.W.Fast.tw13116747969574847000 : Unit := ()
def PySem.W.Fast.tw8078180200321830501 : Unit := ()
def PySem.W.Fast.tw14587709435409008296 : Unit := ()
def PySem.W.Fast.tw5265513227809429570 : Unit := ()
def PySem.W.Fast.tw4908542977715857625 : Unit := ()
def PySem.W.Fast.tw16959005296888398928 : Unit := ()
def PySem.W.Fast.tw10912812976113392717 : Unit := ()
def PySem.W.Fast.tw15804477652438787336 : Unit := ()
def PySem.W.Fast.tw17832788754748938715 : Unit := ()
def PySem.W.Fast.tw8974032409507961072 : Unit := ()
def PySem.W.Fast.tw7367747445730297575 : Unit := ()
def PySem.W.Fast.tw6227171242689759312 : Unit := ()
def PySem.W.Fast.tw10657651738087466518 : Unit := ()
def PySem.W.Fast.tw16142004980109017275 : Unit := ()
def PySem.W.Fast.tw4215867875836369251 : Unit := ()
def PySem.W.Fast.tw1752500397557460921 : Unit := ()
def PySem.W.Fast.tw1905724381082468493 : Unit := ()
def PySem.W.Fast.tw3911773895354659127 : Unit := ()
def PySem.W.Fast.tw12375058605688814165 : Unit := ()
def PySem.W.Fast.tw258150685129120952 : Unit := ()
def PySem.W.Fast.tw16953196421423330583 : Unit := ()
def PySem.W.Fast.tw3871307669028323618 : Unit := ()
def PySem.W.Fast.tw10582204184579676635 : Unit := ()
def PySem.W.Fast.tw1155428270537467441 : Unit := ()
def PySem.W.Fast.tw1478032359799258123 : Unit := ()
def PySem.W.Fast.tw6806449095128258579 : Unit := ()
def PySem.W.Fast.tw11361439734377127870 : Unit := ()
def PySem.W.Fast.tw14691602806771515947 : Unit := ()
def PySem.W.Fast.tw15149024473812441575 : Unit := ()
def PySem.W.Fast.tw6498879239754814946 : Unit := ()
def PySem.W.Fast.tw6050710058638945392 : Unit := ()
def PySem.W.Fast.tw3334834149950248545 : Unit := ()
def PySem.W.Fast.tw9951723210335896130 : Unit := ()
def PySem.W.Fast.tw15760360002750441433 : Unit := ()
def PySem.W.Fast.tw7535972882308547815 : Unit := ()
def PySem.W.Fast.tw6327751738953915017 : Unit := ()
def PySem.W.Fast.tw12759047164158848949 : Unit := ()
def PySem.W.Fast.tw428419215243509334 : Unit := ()
def PySem.W.Fast.tw11443885837538937420 : Unit := ()
def PySem.W.Fast.tw2497385530920688403 : Unit := ()
def PySem.W.Fast.tw6968988021226916462 : Unit := ()
def PySem.W.Fast.tw15035399650607017515 : Unit := ()
def PySem.W.Fast.tw9752146366944860245 : Unit := ()
def PySem.W.Fast.tw16379945243340456761 : Unit := ()
def PySem.W.Fast.tw10222059605872539903 : Unit := ()
def PySem.W.Fast.tw15490893523900311589 : Unit := ()
def PySem.W.Fast.tw7251753284921595980 : Unit := ()
def PySem.W.Fast.tw8037718507905806591 : Unit := ()
def PySem.W.Fast.tw5432748333129880828 : Unit := ()
def PySem.W.Fast.tw15175334280474203536 : Unit := ()
def PySem.W.Fast.tw16021829267840733474 : Unit := ()
def PySem.W.Fast.tw11361080791822141871 : Unit := ()
def PySem.W.Fast.tw9266222295180475686 : Unit := ()
def PySem.W.Fast.tw3981005610293234924 : Unit := ()
def PySem.W.Fast.tw7062616423157042176 : Unit := ()
def PySem.W.Fast.tw3417644373095151724 : Unit := ()
def PySem.W.Fast.tw7580631989619124830 : Unit := ()
def PySem.W.Fast.tw13775611711558942064 : Unit := ()
def PySem.W.Fast.tw11542290015119519246 : Unit := ()
def PySem.W.Fast.tw12298636177634186415 : Unit := ()
def PySem.W.Fast.tw13795579237197881342 : Unit := ()
def PySem.W.Fast.tw7579441662004006593 : Unit := ()
def PySem.W.Fast.tw1902292361568101386 : Unit := ()
def PySem.W.Fast.tw2459308629545221557 : Unit := ()
def PySem.W.Fast.tw16915150337688452390 : Unit := ()
def PySem.W.Fast.tw3039796163202969627 : Unit := ()
def PySem.W.Fast.tw3179901331173427880 : Unit := ()
def PySem.W.Fast.tw4841803732688538183 : Unit := ()
def PySem.W.Fast.tw1789692926081242585 : Unit := ()
def PySem.W.Fast.tw8047668690925847432 : Unit := ()
def PySem.W.Fast.tw6498359374934901862 : Unit := ()
def PySem.W.Fast.tw6432501931978013714 : Unit := ()
def PySem.W.Fast.tw7801772034101650360 : Unit := ()
def PySem.W.Fast.tw17928493065021411122 : Unit := ()
def PySem.W.Fast.tw3023666708086944599 : Unit := ()
def PySem.W.Fast.tw13771229263247606020 : Unit := ()
def PySem.W.Fast.tw9128500945897002188 : Unit := ()
def PySem.W.Fast.tw3196753714539311034 : Unit := ()
def PySem.W.Fast.tw17786655127984403556 : Unit := ()
def PySem.W.Fast.tw15337739330524127006 : Unit := ()
def PySem.W.Fast.tw14070422239679497716 : Unit := ()
def PySem.W.Fast.tw5044606777183158445 : Unit := ()
def PySem.W.Fast.tw8934315016781915080 : Unit := ()
def PySem.W.Fast.tw11784028847434827546 : Unit := ()
def PySem.W.Fast.tw810534077459571303 : Unit := ()
def PySem.W.Fast.tw15899691266483878331 : Unit := ()
def PySem.W.Fast.tw16090346639909011957 : Unit := ()
def PySem.W.Fast.tw17117466466729174771 : Unit := ()
def PySem.W.Fast.tw9637624206004841575 : Unit := ()
def PySem.W.Fast.tw16369533718911674887 : Unit := ()
def PySem.W.Fast.tw14229665351229071899 : Unit := ()
def PySem.W.Fast.tw5368958230979455130 : Unit := ()
def PySem.W.Fast.tw1784918907973748573 : Unit := ()
def PySem.W.Fast.tw2590006287482769627 : Unit := ()
def PySem.W.Fast.tw2194917695332589508 : Unit := ()
def PySem.W.Fast.tw17569776634103805211 : Unit := ()
def PySem.W.Fast.tw9350512271736979170 : Unit := ()
def PySem.W.Fast.tw8610941073479415479 : Unit := ()
def PySem.W.Fast.tw6585230082470985486 : Unit := ()
def PySem.W.Fast.tw9041088688523602147 : Unit := ()
def PySem.W.Fast.tw16592684822133781613 : Unit := ()
def PySem.W.Fast.tw2428034268051570693 : Unit := ()
def PySem.W.Fast.tw16297025959105675962 : Unit := ()
def PySem.W.Fast.tw10049762781657497675 : Unit := ()
def PySem.W.Fast.tw1651363627957307212 : Unit := ()
def PySem.W.Fast.tw4290918997238374537 : Unit := ()
def PySem.W.Fast.tw11888981867036639851 : Unit := ()
def PySem.W.Fast.tw6311008795102630830 : Unit := ()
def PySem.W.Fast.tw13274133954406957747 : Unit := ()
def PySem.W.Fast.tw16360787228667514892 : Unit := ()
def PySem.W.Fast.tw15837391972593415083 : Unit := ()
def PySem.W.Fast.tw10895526807509279096 : Unit := ()
def PySem.W.Fast.tw5318928234834532732 : Unit := ()
def PySem.W.Fast.tw10134593533531064955 : Unit := ()
def PySem.W.Fast.tw16555963545472817602 : Unit := ()
def PySem.W.Fast.tw12077115922696926895 : Unit := ()
def PySem.W.Fast.tw6259716939058416117 : Unit := ()
def PySem.W.Fast.tw14246013930157680807 : Unit := ()
def PySem.W.Fast.tw13732553627878944266 : Unit := ()
def PySem.W.Fast.tw8666110237218102782 : Unit := ()
def PySem.W.Fast.tw5364305085436309492 : Unit := ()
def PySem.W.Fast.tw9147565049396589061 : Unit := ()
def PySem.W.Fast.tw1742771659110680357 : Unit := ()
def PySem.W.Fast.tw11351706087473813307 : Unit := ()
def PySem.W.Fast.tw5248932554191309394 : Unit := ()
def PySem.W.Fast.tw15819682073027669587 : Unit := ()
def PySem.W.Fast.tw5386059449331065244 : Unit := ()
def PySem.W.Fast.tw15784942381287078642 : Unit := ()
def PySem.W.Fast.tw9462547680676006479 : Unit := ()
def PySem.W.Fast.tw2322533317081240593 : Unit := ()
def PySem.W.Fast.tw12138471009761706591 : Unit := ()
def PySem.W.Fast.tw12651501438115378113 : Unit := ()
def PySem.W.Fast.tw14872843208269515017 : Unit := ()
def PySem.W.Fast.tw14361987906810934786 : Unit := ()
def PySem.W.Fast.tw17906406681522136982 : Unit := ()
def PySem.W.Fast.tw6752211850648771 : Unit := ()
def PySem.W.Fast.tw17318568849560124596 : Unit := ()
def PySem.W.Fast.tw1985559653644157057 : Unit := ()
def PySem.W.Fast.tw7482666213009809487 : Unit := ()
def PySem.W.Fast.tw832585158977741378 : Unit := ()
def PySem.W.Fast.tw2050649681155563252 : Unit := ()
def PySem.W.Fast.tw4477751899080422413 : Unit := ()
def PySem.W.Fast.tw15251679300276444129 : Unit := ()
def PySem.W.Fast.tw3039099698330335881 : Unit := ()
def PySem.W.Fast.tw3891686417636304307 : Unit := ()
def PySem.W.Fast.tw2950549445984159622 : Unit := ()
def PySem.W.Fast.tw2982305339833615095 : Unit := ()
def PySem.W.Fast.tw9983363523415610712 : Unit := ()
def PySem.W.Fast.tw8964438130402113791 : Unit := ()
def PySem.W.Fast.tw11608133090546471434 : Unit := ()
def PySem.W.Fast.tw6803001691388734101 : Unit := ()
def PySem.W.Fast.tw4200104221160111026 : Unit := ()
def PySem.W.Fast.tw6610789000139200992 : Unit := ()
def PySem.W.Fast.tw11148525128406104991 : Unit := ()
def PySem.W.Fast.tw14411211203914054414 : Unit := ()
def PySem.W.Fast.tw17226425206827973469 : Unit := ()
def PySem.W.Fast.tw6141806448985891350 : Unit := ()
def PySem.W.Fast.tw15357407543563315247 : Unit := ()
def PySem.W.Fast.tw14726101397463481534 : Unit := ()
def PySem.W.Fast.tw555755043974481036 : Unit := ()
def PySem.W.Fast.tw6039597672429717985 : Unit := ()
def PySem.W.Fast.tw8802274724341220668 : Unit := ()
def PySem.W.Fast.tw12905878289207863932 : Unit := ()
def PySem.W.Fast.tw4507015696595237482 : Unit := ()
def PySem.W.Fast.tw6934790314057659685 : Unit := ()
def PySem.W.Fast.tw6327321973073446780 : Unit := ()
def PySem.W.Fast.tw14428922295017440460 : Unit := ()
def PySem.W.Fast.tw7741385284933560637 : Unit := ()
def PySem.W.Fast.tw15882078319755871471 : Unit := ()
def PySem.W.Fast.tw5305521495205848993 : Unit := ()
def PySem.W.Fast.tw14481469538281616326 : Unit := ()
def PySem.W.Fast.tw11105988576002934631 : Unit := ()
def PySem.W.Fast.tw5575336838807530511 : Unit := ()
def PySem.W.Fast.tw12913761925578647684 : Unit := ()
def PySem.W.Fast.tw15237922517463864901 : Unit := ()
def PySem.W.Fast.tw6749239746373098012 : Unit := ()
def PySem.W.Fast.tw1595335726015434533 : Unit := ()
def PySem.W.Fast.tw17435071839891731381 : Unit := ()
def PySem.W.Fast.tw7571168959313131312 : Unit := ()
def PySem.W.Fast.tw13879408545780105922 : Unit := ()
def PySem.W.Fast.tw16094317580988527838 : Unit := ()
def PySem.W.Fast.tw14892288077753713390 : Unit := ()
def PySem.W.Fast.tw13089671140539830786 : Unit := ()
def PySem.W.Fast.tw14860732431841437240 : Unit := ()
def PySem.W.Fast.tw13510039216914501852 : Unit := ()
def PySem.W.Fast.tw13956204348177412812 : Unit := ()
def PySem.W.Fast.tw9894488357751136737 : Unit := ()
def PySem.W.Fast.tw4002689003759534955 : Unit := ()
def PySem.W.Fast.tw17591654352561204868 : Unit := ()
def PySem.W.Fast.tw12077731258679539107 : Unit := ()
def PySem.W.Fast.tw7888212050738185590 : Unit := ()
def PySem.W.Fast.tw6608529376276402766 : Unit := ()
def PySem.W.Fast.tw13891390942439990621 : Unit := ()
def PySem.W.Fast.tw2687322197058223091 : Unit := ()
def PySem.W.Fast.tw259189319778331315 : Unit := ()
def PySem.W.Fast.tw8840536911867370289 : Unit := ()
def PySem.W.Fast.tw10670945846233683698 : Unit := ()
def PySem.W.Fast.tw784600160835052124 : Unit := ()
def PySem.W.Fast.tw17254022070367811552 : Unit := ()
def PySem.W.Fast.tw11905709325102394896 : Unit := ()
def PySem.W.Fast.tw18173222163832818016 : Unit := ()
def PySem.W.Fast.tw13068197883827545497 : Unit := ()
def PySem.W.Fast.tw18284058154472355005 : Unit := ()
def PySem.W.Fast.tw5208867303100075313 : Unit := ()
def PySem.W.Fast.tw9537959399911804390 : Unit := ()
def PySem.W.Fast.tw10840079441371525124 : Unit := ()
def PySem.W.Fast.tw17885954017074835208 : Unit := ()
def PySem.W.Fast.tw14402490680322502701 : Unit := ()
def PySem.W.Fast.tw5206917551926231312 : Unit := ()
def PySem.W.Fast.tw9750363530863023218 : Unit := ()
def PySem.W.Fast.tw10108386068124233750 : Unit := ()
def PySem.W.Fast.tw17902586837585695848 : Unit := ()
def PySem.W.Fast.tw4360022230689577501 : Unit := ()
def PySem.W.Fast.tw15169784154771287193 : Unit := ()
def PySem.W.Fast.tw11909174210387628366 : Unit := ()
def PySem.W.Fast.tw12767223248504504735 : Unit := ()
def PySem.W.Fast.tw15973324356008974988 : Unit := ()
def PySem.W.Fast.tw16135923392255224620 : Unit := ()
def PySem.W.Fast.tw17308785075264203646 : Unit := ()
def PySem.W.Fast.tw5048430338012360056 : Unit := ()
def PySem.W.Fast.tw10577045914964518987 : Unit := ()
def PySem.W.Fast.tw11875475762230359383 : Unit := ()
def PySem.W.Fast.tw1710928786624614548 : Unit := ()
def PySem.W.Fast.tw107639887768798993 : Unit := ()
def PySem.W.Fast.tw18117215898329655418 : Unit := ()
def PySem.W.Fast.tw12132445684921861834 : Unit := ()
def PySem.W.Fast.tw13219413840386863222 : Unit := ()
def PySem.W.Fast.tw6477062812525828010 : Unit := ()
def PySem.W.Fast.tw14216851072469713886 : Unit := ()
def PySem.W.Fast.tw17286236898928382236 : Unit := ()
def PySem.W.Fast.tw6027773758966147098 : Unit := ()
def PySem.W.Fast.tw15074201430424168623 : Unit := ()
def PySem.W.Fast.tw11604413148735130143 : Unit := ()
def PySem.W.Fast.tw17659660330007839810 : Unit := ()
def PySem.W.Fast.tw6841487700540314555 : Unit := ()
def PySem.W.Fast.tw10063614846086952390 : Unit := ()
def PySem.W.Fast.tw11649217481048634249 : Unit := ()
def PySem.W.Fast.tw7504052516884365644 : Unit := ()
def PySem.W.Fast.tw3072276010621160959 : Unit := ()
def PySem.W.Fast.tw8330521721720219394 : Unit := ()
def PySem.W.Fast.tw10507864006030959721 : Unit := ()
def PySem.W.Fast.tw14291563456873584001 : Unit := ()
def PySem.W.Fast.tw4359285564637536353 : Unit := ()
def PySem.W.Fast.tw10880594957395371139 : Unit := ()
def PySem.W.Fast.tw14863171552857806571 : Unit := ()
def PySem.W.Fast.tw4433098465611980131 : Unit := ()
def PySem.W.Fast.tw11805176412847632775 : Unit := ()
def PySem.W.Fast.tw2654978357805826900 : Unit := ()
def PySem.W.Fast.tw4934370676568482840 : Unit := ()
def PySem.W.Fast.tw15624725368211346657 : Unit := ()
def PySem.W.Fast.tw5577160207898978913 : Unit := ()
def PySem.W.Fast.tw2647744791831919525 : Unit := ()
def PySem.W.Fast.tw3167696905484155147 : Unit := ()
def PySem.W.Fast.tw10323356631187022732 : Unit := ()
def PySem.W.Fast.tw2761921325545280934 : Unit := ()
def PySem.W.Fast.tw9332670320161872250 : Unit := ()
def PySem.W.Fast.tw5338168105191677050 : Unit := ()
def PySem.W.Fast.tw4760120220331238298 : Unit := ()
def PySem.W.Fast.tw1172829603915347196 : Unit := ()
def PySem.W.Fast.tw12857496779136852872 : Unit := ()
def PySem.W.Fast.tw2728204149234796766 : Unit := ()
def PySem.W.Fast.tw8607677837489330698 : Unit := ()
def PySem.W.Fast.tw6084119769072487287 : Unit := ()
def PySem.W.Fast.tw13104227428134811495 : Unit := ()
def PySem.W.Fast.tw10442362095591407138 : Unit := ()
def PySem.W.Fast.tw10654412221963926392 : Unit := ()
def PySem.W.Fast.tw2999448509423251551 : Unit := ()
def PySem.W.Fast.tw11158391334774501613 : Unit := ()
def PySem.W.Fast.tw15936482694938500567 : Unit := ()
def PySem.W.Fast.tw11836406993515759873 : Unit := ()
def PySem.W.Fast.tw11473336319205561362 : Unit := ()
def PySem.W.Fast.tw3129772374559403317 : Unit := ()
def PySem.W.Fast.tw8308440598768508440 : Unit := ()
def PySem.W.Fast.tw4989963547988360815 : Unit := ()
def PySem.W.Fast.tw16914519096782203145 : Unit := ()
def PySem.W.Fast.tw17326003105710754732 : Unit := ()
def PySem.W.Fast.tw17327536682932418198 : Unit := ()
def PySem.W.Fast.tw11215357660042315707 : Unit := ()
def PySem.W.Fast.tw8876458652551328947 : Unit := ()
def PySem.W.Fast.tw15425165883401912899 : Unit := ()
def PySem.W.Fast.tw4565402439764273295 : Unit := ()
def PySem.W.Fast.tw10653360245336222694 : Unit := ()
def PySem.W.Fast.tw15548727180301983961 : Unit := ()
def PySem.W.Fast.tw15844254505669610328 : Unit := ()
def PySem.W.Fast.tw5917021646222808144 : Unit := ()
def PySem.W.Fast.tw12316396101813755456 : Unit := ()
def PySem.W.Fast.tw4227885376985417009 : Unit := ()
def PySem.W.Fast.tw4011754732251042943 : Unit := ()
def PySem.W.Fast.tw7737726862469912331 : Unit := ()
def PySem.W.Fast.tw5922935184232833597 : Unit := ()
def PySem.W.Fast.tw2837971160740259097 : Unit := ()
def PySem.W.Fast.tw14769377124224996404 : Unit := ()
def PySem.W.Fast.tw9547040056951629332 : Unit := ()
def PySem.W.Fast.tw15594340173673017847 : Unit := ()
def PySem.W.Fast.tw14573727216355127269 : Unit := ()
def PySem.W.Fast.tw15011841637176108663 : Unit := ()
def PySem.W.Fast.tw7076414314385567762 : Unit := ()
def PySem.W.Fast.tw1404230107331697704 : Unit := ()
def PySem.W.Fast.tw5159717490629161622 : Unit := ()
def PySem.W.Fast.tw3197134270816829831 : Unit := ()
def PySem.W.Fast.tw6528731102611934506 : Unit := ()
def PySem.W.Fast.tw16400016431882531341 : Unit := ()
def PySem.W.Fast.tw11007183431779499598 : Unit := ()
def PySem.W.Fast.tw15936973673765553532 : Unit := ()
def PySem.W.Fast.tw2882344670201015177 : Unit := ()
def PySem.W.Fast.tw5833436237733227467 : Unit := ()
def PySem.W.Fast.tw1031608796512732208 : Unit := ()
def PySem.W.Fast.tw8035790931169717816 : Unit := ()
def PySem.W.Fast.tw245111624001432372 : Unit := ()
def PySem.W.Fast.tw14738681657584367008 : Unit := ()
def PySem.W.Fast.tw6889802692934582262 : Unit := ()
def PySem.W.Fast.tw3254455425689417536 : Unit := ()
def PySem.W.Fast.tw8831753679835099676 : Unit := ()
def PySem.W.Fast.tw18055006611396081332 : Unit := ()
def PySem.W.Fast.tw16424452288038961663 : Unit := ()
def PySem.W.Fast.tw3237945738310232995 : Unit := ()
def PySem.W.Fast.tw7651653221188741820 : Unit := ()
def PySem.W.Fast.tw3433058042917128773 : Unit := ()
def PySem.W.Fast.tw11835249695697846994 : Unit := ()
def PySem.W.Fast.tw15283030797854559609 : Unit := ()
def PySem.W.Fast.tw11223069508817404507 : Unit := ()
def PySem.W.Fast.tw4804488484278239100 : Unit := ()
def PySem.W.Fast.tw4575109206512130689 : Unit := ()
def PySem.W.Fast.tw9212523503808688672 : Unit := ()
def PySem.W.Fast.tw7219709536470296945 : Unit := ()
def PySem.W.Fast.tw1230697253184834836 : Unit := ()
def PySem.W.Fast.tw10065722407500003497 : Unit := ()
def PySem.W.Fast.tw14591774402865934708 : Unit := ()
def PySem.W.Fast.tw7122088611446802630 : Unit := ()
def PySem.W.Fast.tw15950165296566760661 : Unit := ()
def PySem.W.Fast.tw13653749076278640529 : Unit := ()
def PySem.W.Fast.tw11714910253372693657 : Unit := ()
def PySem.W.Fast.tw3357331165462228920 : Unit := ()
def PySem.W.Fast.tw17001359037920942053 : Unit := ()
def PySem.W.Fast.tw16756400878843263134 : Unit := ()
def PySem.W.Fast.tw7081873199691166263 : Unit := ()
def PySem.W.Fast.tw9557689107272121188 : Unit := ()
def PySem.W.Fast.tw7319431058213325633 : Unit := ()
def PySem.W.Fast.tw18394784528611832216 : Unit := ()
def PySem.W.Fast.tw11939872662569667780 : Unit := ()
def PySem.W.Fast.tw14837114434282570304 : Unit := ()
def PySem.W.Fast.tw9196181403782225259 : Unit := ()
def PySem.W.Fast.tw11141908630808015400 : Unit := ()
def PySem.W.Fast.tw9101250602110587766 : Unit := ()
def PySem.W.Fast.tw8554860586284986513 : Unit := ()
def PySem.W.Fast.tw10799522817414035947 : Unit := ()
def PySem.W.Fast.tw1450445416342851878 : Unit := ()
def PySem.W.Fast.tw6920529536749828490 : Unit := ()
def PySem.W.Fast.tw16665661410716490615 : Unit := ()
def PySem.W.Fast.tw5904408567425317637 : Unit := ()
def PySem.W.Fast.tw7714156526435561916 : Unit := ()
def PySem.W.Fast.tw14298934182885225297 : Unit := ()
def PySem.W.Fast.tw12768641049261108719 : Unit := ()
def PySem.W.Fast.tw17906051569858901567 : Unit := ()
def PySem.W.Fast.tw15780871420234841800 : Unit := ()
def PySem.W.Fast.tw15008351204619849516 : Unit := ()
def PySem.W.Fast.tw8342785736904826123 : Unit := ()
def PySem.W.Fast.tw16080183327112871073 : Unit := ()
def PySem.W.Fast.tw7357878257494614923 : Unit := ()
def PySem.W.Fast.tw11834125593399466532 : Unit := ()
def PySem.W.Fast.tw13574146230410330773 : Unit := ()
def PySem.W.Fast.tw3440045793939781239 : Unit := ()
def PySem.W.Fast.tw15972407358233245567 : Unit := ()
def PySem.W.Fast.tw2835074072312893716 : Unit := ()
def PySem.W.Fast.tw15868234230709864958 : Unit := ()
def PySem.W.Fast.tw8733004311574514701 : Unit := ()
def PySem.W.Fast.tw7335795409581267038 : Unit := ()
def PySem.W.Fast.tw10432887281146209524 : Unit := ()
def PySem.W.Fast.tw6907005561765265972 : Unit := ()
def PySem.W.Fast.tw3565631981855145831 : Unit := ()
def PySem.W.Fast.tw8988174577375593046 : Unit := ()
def PySem.W.Fast.tw216499576065111038 : Unit := ()
def PySem.W.Fast.tw17304081366899826568 : Unit := ()
def PySem.W.Fast.tw10208682275211497817 : Unit := ()
def PySem.W.Fast.tw8914587229021318596 : Unit := ()
def PySem.W.Fast.tw5784798785063579292 : Unit := ()
def PySem.W.Fast.tw17509729201813665252 : Unit := ()
def PySem.W.Fast.tw5788244010722257491 : Unit := ()
def PySem.W.Fast.tw9899720582799376980 : Unit := ()
def PySem.W.Fast.tw16378949467547706709 : Unit := ()
def PySem.W.Fast.tw7865071543173499878 : Unit := ()
def PySem.W.Fast.tw908485592702431705 : Unit := ()
def PySem.W.Fast.tw8036763744312989343 : Unit := ()
def PySem.W.Fast.tw4945561727116549221 : Unit := ()
def PySem.W.Fast.tw14201914788915377974 : Unit := ()
def PySem.W.Fast.tw6012415043792909957 : Unit := ()
def PySem.W.Fast.tw15386983899816077144 : Unit := ()
def PySem.W.Fast.tw890014517230630436 : Unit := ()
def PySem.W.Fast.tw11537282503193059897 : Unit := ()
def PySem.W.Fast.tw17828130453962718150 : Unit := ()
def PySem.W.Fast.tw3983478655152384497 : Unit := ()
def PySem.W.Fast.tw11900914095679680979 : Unit := ()
def PySem.W.Fast.tw12354252982777053096 : Unit := ()
def PySem.W.Fast.tw2262051669755560388 : Unit := ()
def PySem.W.Fast.tw17601187556648094704 : Unit := ()
def PySem.W.Fast.tw15647837831813981671 : Unit := ()
def PySem.W.Fast.tw4412308815256692939 : Unit := ()
def PySem.W.Fast.tw9178254685961331822 : Unit := ()
def PySem.W.Fast.tw13141791444911790644 : Unit := ()
def PySem.W.Fast.tw3455192496007478283 : Unit := ()
def PySem.W.Fast.tw6607666771464934507 : Unit := ()
def PySem.W.Fast.tw7315175551043745685 : Unit := ()
def PySem.W.Fast.tw2154247672674988598 : Unit := ()
def PySem.W.Fast.tw8222761292844696749 : Unit := ()
def PySem.W.Fast.tw6885985677647741052 : Unit := ()
def PySem.W.Fast.tw3795023712853861003 : Unit := ()
def PySem.W.Fast.tw10193420169064811496 : Unit := ()
def PySem.W.Fast.tw9820545996124987653 : Unit := ()
def PySem.W.Fast.tw15355355040043026216 : Unit := ()
def PySem.W.Fast.tw10195328970723494828 : Unit := ()
def PySem.W.Fast.tw12110378731078724255 : Unit := ()
def PySem.W.Fast.tw11119784363529618076 : Unit := ()
def PySem.W.Fast.tw12740169941655081262 : Unit := ()
def PySem.W.Fast.tw2082322778575531433 : Unit := ()
def PySem.W.Fast.tw1395317368220538155 : Unit := ()
def PySem.W.Fast.tw12125573713740635886 : Unit := ()
def PySem.W.Fast.tw12112043675238936784 : Unit := ()
def PySem.W.Fast.tw6233429367932086927 : Unit := ()
def PySem.W.Fast.tw18084873814011110697 : Unit := ()
def PySem.W.Fast.tw15795063652598976372 : Unit := ()
def PySem.W.Fast.tw2516395862232672894 : Unit := ()
def PySem.W.Fast.tw15068797070892154401 : Unit := ()
def PySem.W.Fast.tw6617641060691102619 : Unit := ()
def PySem.W.Fast.tw13960663327607460531 : Unit := ()
def PySem.W.Fast.tw14679611940509956471 : Unit := ()
def PySem.W.Fast.tw8365285039873968204 : Unit := ()
def PySem.W.Fast.tw14152941086080815694 : Unit := ()
def PySem.W.Fast.tw3057007665281616366 : Unit := ()
def PySem.W.Fast.tw3718764420045846243 : Unit := ()
def PySem.W.Fast.tw1294199295644809642 : Unit := ()
def PySem.W.Fast.tw475532874251388242 : Unit := ()
def PySem.W.Fast.tw3114651556681360658 : Unit := ()
def PySem.W.Fast.tw13615038165044547375 : Unit := ()
def PySem.W.Fast.tw2832747096791113007 : Unit := ()
def PySem.W.Fast.tw11458390417528965120 : Unit := ()
def PySem.W.Fast.tw12495151295913601855 : Unit := ()
def PySem.W.Fast.tw9046609690409217379 : Unit := ()
def PySem.W.Fast.tw15002497156607699784 : Unit := ()
def PySem.W.Fast.tw18320250871754783332 : Unit := ()
def PySem.W.Fast.tw11196408988702239310 : Unit := ()
def PySem.W.Fast.tw4728013705229492401 : Unit := ()
def PySem.W.Fast.tw12251705256287299132 : Unit := ()
def PySem.W.Fast.tw15358183298899881759 : Unit := ()
def PySem.W.Fast.tw13509913697493680630 : Unit := ()
def PySem.W.Fast.tw15598572015376471694 : Unit := ()
def PySem.W.Fast.tw3582120643620188294 : Unit := ()
def PySem.W.Fast.tw9637128515749881302 : Unit := ()
def PySem.W.Fast.tw13250959091645029783 : Unit := ()
def PySem.W.Fast.tw13990476438855881784 : Unit := ()
def PySem.W.Fast.tw6588285360422097370 : Unit := ()
def PySem.W.Fast.tw7483508611247149797 : Unit := ()
def PySem.W.Fast.tw17484676273418581869 : Unit := ()
def PySem.W.Fast.tw16719575280117520420 : Unit := ()
def PySem.W.Fast.tw15246520525245701683 : Unit := ()
def PySem.W.Fast.tw5374659373361800090 : Unit := ()
def PySem.W.Fast.tw8696483211665195794 : Unit := ()
def PySem.W.Fast.tw10109696786027078931 : Unit := ()
def PySem.W.Fast.tw11641702255295364176 : Unit := ()
def PySem.W.Fast.tw10395732701492451583 : Unit := ()
def PySem.W.Fast.tw14301324544850407673 : Unit := ()
def PySem.W.Fast.tw5779697186713852325 : Unit := ()
def PySem.W.Fast.tw17106132585215168419 : Unit := ()
def PySem.W.Fast.tw1421303269298129544 : Unit := ()
def PySem.W.Fast.tw10468353185828143388 : Unit := ()
def PySem.W.Fast.tw6153864048378981712 : Unit := ()
def PySem.W.Fast.tw7500580874526885258 : Unit := ()
def PySem.W.Fast.tw8753290080101129907 : Unit := ()
def PySem.W.Fast.tw13899235201824530681 : Unit := ()
def PySem.W.Fast.tw11762916253086443356 : Unit := ()
def PySem.W.Fast.tw2464307280619414790 : Unit := ()
def PySem.W.Fast.tw15984688817666245703 : Unit := ()
def PySem.W.Fast.tw13208374521190498725 : Unit := ()
def PySem.W.Fast.tw8573064712685600400 : Unit := ()
def PySem.W.Fast.tw2560535888710138001 : Unit := ()
def PySem.W.Fast.tw3312199895950636855 : Unit := ()
def PySem.W.Fast.tw1866438943261389071 : Unit := ()
def PySem.W.Fast.tw13143034010273492097 : Unit := ()
def PySem.W.Fast.tw12249692496421477130 : Unit := ()
def PySem.W.Fast.tw5908756572217066310 : Unit := ()
def PySem.W.Fast.tw16097580488660900373 : Unit := ()
def PySem.W.Fast.tw15333417738778130 : Unit := ()
def PySem.W.Fast.tw5179126392001988676 : Unit := ()
def PySem.W.Fast.tw16511369681826081679 : Unit := ()
def PySem.W.Fast.tw14819313461664797652 : Unit := ()
def PySem.W.Fast.tw17510781465830999142 : Unit := ()
def PySem.W.Fast.tw10616393691042976334 : Unit := ()
def PySem.W.Fast.tw6367409972218208677 : Unit := ()
def PySem.W.Fast.tw17838191707463519268 : Unit := ()
def PySem.W.Fast.tw12079981328645211463 : Unit := ()
def PySem.W.Fast.tw17054076164132683038 : Unit := ()
def PySem.W.Fast.tw4987467931588237765 : Unit := ()
def PySem.W.Fast.tw3759983646697793614 : Unit := ()
def PySem.W.Fast.tw10693310650965814825 : Unit := ()
def PySem.W.Fast.tw1674719052838329529 : Unit := ()
def PySem.W.Fast.tw15751122398347579119 : Unit := ()
def PySem.W.Fast.tw7224433949433467964 : Unit := ()
def PySem.W.Fast.tw4734149188266348485 : Unit := ()
def PySem.W.Fast.tw15740424763174075188 : Unit := ()
def PySem.W.Fast.tw708186101259037775 : Unit := ()
def PySem.W.Fast.tw7615394527146981890 : Unit := ()
def PySem.W.Fast.tw16519923106940209981 : Unit := ()
def PySem.W.Fast.tw2072818797906466387 : Unit := ()
def PySem.W.Fast.tw15588790469593593972 : Unit := ()
def PySem.W.Fast.tw15449940771736777471 : Unit := ()
def PySem.W.Fast.tw11966999265512233471 : Unit := ()
def PySem.W.Fast.tw9371416777021649622 : Unit := ()
def PySem.W.Fast.tw5461191331461970836 : Unit := ()
def PySem.W.Fast.tw11484679230567322463 : Unit := ()
def PySem.W.Fast.tw12316953212250764264 : Unit := ()
def PySem.W.Fast.tw12930265388042237055 : Unit := ()
def PySem.W.Fast.tw2968415986733817513 : Unit := ()
def PySem.W.Fast.tw1311888709216434725 : Unit := ()
def PySem.W.Fast.tw8991575307854594231 : Unit := ()
def PySem.W.Fast.tw13577099621606398527 : Unit := ()
def PySem.W.Fast.tw12696605372737849425 : Unit := ()
def PySem.W.Fast.tw12610038795733511793 : Unit := ()
def PySem.W.Fast.tw6616049861345847938 : Unit := ()
def PySem.W.Fast.tw6562394851959908129 : Unit := ()
def PySem.W.Fast.tw14258886494786432666 : Unit := ()
def PySem.W.Fast.tw4939189860586384808 : Unit := ()
def PySem.W.Fast.tw7733517392733902380 : Unit := ()
def PySem.W.Fast.tw8701880503589796906 : Unit := ()
def PySem.W.Fast.tw7036757771408519435 : Unit := ()
def PySem.W.Fast.tw998513622111247821 : Unit := ()
def PySem.W.Fast.tw18045117534975451965 : Unit := ()
def PySem.W.Fast.tw11762449792037189987 : Unit := ()
def PySem.W.Fast.tw17464547440156214300 : Unit := ()
def PySem.W.Fast.tw4860824903872271230 : Unit := ()
def PySem.W.Fast.tw5567411311850527517 : Unit := ()
def PySem.W.Fast.tw12812359240052750564 : Unit := ()
def PySem.W.Fast.tw14237561511203358675 : Unit := ()
def PySem.W.Fast.tw18108623683031701826 : Unit := ()
def PySem.W.Fast.tw745147548458725017 : Unit := ()
def PySem.W.Fast.tw12653962683391810781 : Unit := ()
def PySem.W.Fast.tw5554386565276526151 : Unit := ()
def PySem.W.Fast.tw13227143584250705046 : Unit := ()
def PySem.W.Fast.tw15344965308578325215 : Unit := ()
def PySem.W.Fast.tw13784637913211320176 : Unit := ()
def PySem.W.Fast.tw1965924103259808754 : Unit := ()
def PySem.W.Fast.tw11951454023207256249 : Unit := ()
def PySem.W.Fast.tw13442118886744356558 : Unit := ()
def PySem.W.Fast.tw127950573398012713 : Unit := ()
def PySem.W.Fast.tw1838124645756583385 : Unit := ()
def PySem.W.Fast.tw521196070548125381 : Unit := ()
def PySem.W.Fast.tw10088428618730329798 : Unit := ()
def PySem.W.Fast.tw12032735967165661980 : Unit := ()
def PySem.W.Fast.tw3450004381192652136 : Unit := ()
def PySem.W.Fast.tw9260537712494735837 : Unit := ()
def PySem.W.Fast.tw2692936758841852674 : Unit := ()
def PySem.W.Fast.tw2489178897553976104 : Unit := ()
def PySem.W.Fast.tw13333429573693936780 : Unit := ()
def PySem.W.Fast.tw938913765801439464 : Unit := ()
def PySem.W.Fast.tw8867326847654467366 : Unit := ()
def PySem.W.Fast.tw17593222604276395450 : Unit := ()
def PySem.W.Fast.tw10379953533447690124 : Unit := ()
def PySem.W.Fast.tw11396498940030018001 : Unit := ()
def PySem.W.Fast.tw8856233098126866091 : Unit := ()
def PySem.W.Fast.tw4604517849927762863 : Unit := ()
def PySem.W.Fast.tw2001502030696899335 : Unit := ()
def PySem.W.Fast.tw1677005015747686559 : Unit := ()
def PySem.W.Fast.tw10854748891120462929 : Unit := ()
def PySem.W.Fast.tw13996491229701376720 : Unit := ()
def PySem.W.Fast.tw15003421659782101612 : Unit := ()
def PySem.W.Fast.tw10270339149011465790 : Unit := ()
def PySem.W.Fast.tw14605800814192867851 : Unit := ()
def PySem.W.Fast.tw18414514628859426616 : Unit := ()
def PySem.W.Fast.tw17539096863592991257 : Unit := ()
def PySem.W.Fast.tw9882735254123718159 : Unit := ()
def PySem.W.Fast.tw10555301803139635375 : Unit := ()
def PySem.W.Fast.tw10836232315817470810 : Unit := ()
def PySem.W.Fast.tw233266802036739955 : Unit := ()
def PySem.W.Fast.tw15650219388652592067 : Unit := ()
def PySem.W.Fast.tw14820995837736096464 : Unit := ()
def PySem.W.Fast.tw4359341750298283992 : Unit := ()
def PySem.W.Fast.tw992048535469894654 : Unit := ()
def PySem.W.Fast.tw2785120316249353292 : Unit := ()
def PySem.W.Fast.tw17897810485512106622 : Unit := ()
def PySem.W.Fast.tw8271104622037564190 : Unit := ()
def PySem.W.Fast.tw2456710003607953874 : Unit := ()
def PySem.W.Fast.tw506368092167492521 : Unit := ()
def PySem.W.Fast.tw7497843190727814080 : Unit := ()
def PySem.W.Fast.tw8768185263088281504 : Unit := ()
def PySem.W.Fast.tw13268929358159044222 : Unit := ()
def PySem.W.Fast.tw16024661735307406766 : Unit := ()
def PySem.W.Fast.tw18418678515553157585 : Unit := ()
def PySem.W.Fast.tw15383887912043436997 : Unit := ()
def PySem.W.Fast.tw1085284932781535807 : Unit := ()
def PySem.W.Fast.tw17929400662971684372 : Unit := ()
def PySem.W.Fast.tw15335154040642567684 : Unit := ()
def PySem.W.Fast.tw2218782708717427320 : Unit := ()
def PySem.W.Fast.tw13016677110806216959 : Unit := ()
def PySem.W.Fast.tw13579235521905055468 : Unit := ()
def PySem.W.Fast.tw400381978348736049 : Unit := ()
def PySem.W.Fast.tw5056546796275921853 : Unit := ()
def PySem.W.Fast.tw13367316347619454824 : Unit := ()
def PySem.W.Fast.tw13130713383300096901 : Unit := ()
def PySem.W.Fast.tw3102281507208784532 : Unit := ()
def PySem.W.Fast.tw14859801206107824382 : Unit := ()
def PySem.W.Fast.tw14236858632895087754 : Unit := ()
def PySem.W.Fast.tw17110615093971969507 : Unit := ()
def PySem.W.Fast.tw9397181111186813219 : Unit := ()
def PySem.W.Fast.tw16077282069197868109 : Unit := ()
def PySem.W.Fast.tw543957260139282994 : Unit := ()
def PySem.W.Fast.tw10007543647703824148 : Unit := ()
def PySem.W.Fast.tw3327685204395313179 : Unit := ()
def PySem.W.Fast.tw14089177503939780218 : Unit := ()
def PySem.W.Fast.tw15738652904553402300 : Unit := ()
def PySem.W.Fast.tw16562829154170072892 : Unit := ()
def PySem.W.Fast.tw18440828799361248056 : Unit := ()
def PySem.W.Fast.tw16152981542515774992 : Unit := ()
def PySem.W.Fast.tw13251271501590759874 : Unit := ()
def PySem.W.Fast.tw10267874497514230201 : Unit := ()
def PySem.W.Fast.tw14665394054994904927 : Unit := ()
def PySem.W.Fast.tw6119018613105828840 : Unit := ()
def PySem.W.Fast.tw11376717539201626389 : Unit := ()
def PySem.W.Fast.tw4922644668600393553 : Unit := ()
def PySem.W.Fast.tw16707242169329357408 : Unit := ()
def PySem.W.Fast.tw14942636604940904687 : Unit := ()
def PySem.W.Fast.tw15111268609103804098 : Unit := ()
def PySem.W.Fast.tw4708455867825475622 : Unit := ()
def PySem.W.Fast.tw8038361685964666657 : Unit := ()
def PySem.W.Fast.tw14076109978239291701 : Unit := ()
def PySem.W.Fast.tw18403689955840457209 : Unit := ()
def PySem.W.Fast.tw5426731670822081284 : Unit := ()
def PySem.W.Fast.tw4864464808040933921 : Unit := ()
def PySem.W.Fast.tw17251438978045272127 : Unit := ()
def PySem.W.Fast.tw14766251262445305444 : Unit := ()
def PySem.W.Fast.tw3074307602748770302 : Unit := ()
def PySem.W.Fast.tw4751939395979100157 : Unit := ()
def PySem.W.Fast.tw2759012345778355137 : Unit := ()
def PySem.W.Fast.tw16215379783171553261 : Unit := ()
def PySem.W.Fast.tw1604946187674799182 : Unit := ()
def PySem.W.Fast.tw14484103369186855413 : Unit := ()
def PySem.W.Fast.tw4848473509736860185 : Unit := ()
def PySem.W.Fast.tw7929288661111834099 : Unit := ()
def PySem.W.Fast.tw5067546098683692593 : Unit := ()
def PySem.W.Fast.tw722514641020880235 : Unit := ()
def PySem.W.Fast.tw9971182828832906225 : Unit := ()
def PySem.W.Fast.tw4103681266939496530 : Unit := ()
def PySem.W.Fast.tw7656190109961660419 : Unit := ()
def PySem.W.Fast.tw9196530597790003143 : Unit := ()
def PySem.W.Fast.tw1370282667088948365 : Unit := ()
def PySem.W.Fast.tw16584454631980201570 : Unit := ()
def PySem.W.Fast.tw3254212821967280558 : Unit := ()
def PySem.W.Fast.tw8057197529282510453 : Unit := ()
def PySem.W.Fast.tw8643954681074550981 : Unit := ()
def PySem.W.Fast.tw13178378351871366628 : Unit := ()
def PySem.W.Fast.tw12492551358657551598 : Unit := ()
def PySem.W.Fast.tw10712693620498781370 : Unit := ()
def PySem.W.Fast.tw15157609427055648925 : Unit := ()
def PySem.W.Fast.tw14654605668014671588 : Unit := ()
def PySem.W.Fast.tw10229711630718046843 : Unit := ()
def PySem.W.Fast.tw8154176811709553011 : Unit := ()
def PySem.W.Fast.tw725999795730054654 : Unit := ()
def PySem.W.Fast.tw15149275279685927139 : Unit := ()
def PySem.W.Fast.tw8747259818610052828 : Unit := ()
def PySem.W.Fast.tw12992961563700627920 : Unit := ()
def PySem.W.Fast.tw15013822459402752966 : Unit := ()
def PySem.W.Fast.tw18429278293739015885 : Unit := ()
def PySem.W.Fast.tw3465894156028102468 : Unit := ()
def PySem.W.Fast.tw8621704917258862248 : Unit := ()
def PySem.W.Fast.tw17234937425830454623 : Unit := ()
def PySem.W.Fast.tw8911207958375751770 : Unit := ()
def PySem.W.Fast.tw5770931558821477388 : Unit := ()
def PySem.W.Fast.tw8731933659807348175 : Unit := ()
def PySem.W.Fast.tw1022382314562958634 : Unit := ()
def PySem.W.Fast.tw17337545506717504223 : Unit := ()
def PySem.W.Fast.tw14927224791946425941 : Unit := ()
def PySem.W.Fast.tw13329638839375232927 : Unit := ()
def PySem.W.Fast.tw9361103396605518587 : Unit := ()
def PySem.W.Fast.tw17468629224305771779 : Unit := ()
def PySem.W.Fast.tw15924419142205441500 : Unit := ()
def PySem.W.Fast.tw18202493321107079345 : Unit := ()
def PySem.W.Fast.tw16739771028584447419 : Unit := ()
def PySem.W.Fast.tw17205389673806169427 : Unit := ()
def PySem.W.Fast.tw6018350325738418278 : Unit := ()
def PySem.W.Fast.tw17584041192006356852 : Unit := ()
def PySem.W.Fast.tw15845193400681346221 : Unit := ()
def PySem.W.Fast.tw7741660227515908466 : Unit := ()
def PySem.W.Fast.tw1548221117495463255 : Unit := ()
def PySem.W.Fast.tw9067510559660271658 : Unit := ()
def PySem.W.Fast.tw8456353761366007566 : Unit := ()
def PySem.W.Fast.tw15266565224929683602 : Unit := ()
def PySem.W.Fast.tw4339240207296850081 : Unit := ()
def PySem.W.Fast.tw16340478356676291411 : Unit := ()
def PySem.W.Fast.tw9963340588762279639 : Unit := ()
def PySem.W.Fast.tw65280804326301312 : Unit := ()
def PySem.W.Fast.tw4760038603514085916 : Unit := ()
def PySem.W.Fast.tw8976218124920404297 : Unit := ()
def PySem.W.Fast.tw12898689423221355676 : Unit := ()
def PySem.W.Fast.tw14234603935129812839 : Unit := ()
def PySem.W.Fast.tw886399602264866450 : Unit := ()
def PySem.W.Fast.tw3050818154037711148 : Unit := ()
def PySem.W.Fast.tw13713337243734130177 : Unit := ()
def PySem.W.Fast.tw17819236825495183325 : Unit := ()
def PySem.W.Fast.tw2878470269086140957 : Unit := ()
def PySem.W.Fast.tw13777772638702107791 : Unit := ()
def PySem.W.Fast.tw2043532930440192125 : Unit := ()
def PySem.W.Fast.tw8189190643713641362 : Unit := ()
def PySem.W.Fast.tw11100110323087887780 : Unit := ()
def PySem.W.Fast.tw15192624231489537733 : Unit := ()
def PySem.W.Fast.tw4019034589026640357 : Unit := ()
def PySem.W.Fast.tw16389299271453018330 : Unit := ()
def PySem.W.Fast.tw14921985462789139629 : Unit := ()
def PySem.W.Fast.tw1376807608622571545 : Unit := ()
def PySem.W.Fast.tw16771247454398958068 : Unit := ()
def PySem.W.Fast.tw1835096812019828411 : Unit := ()
def PySem.W.Fast.tw14316354010698102880 : Unit := ()
def PySem.W.Fast.tw2850583515692926732 : Unit := ()
def PySem.W.Fast.tw11227929995275364427 : Unit := ()
def PySem.W.Fast.tw11011848941813254878 : Unit := ()
def PySem.W.Fast.tw3115129162233385071 : Unit := ()
def PySem.W.Fast.tw8053585555853582674 : Unit := ()
def PySem.W.Fast.tw7984963980762436470 : Unit := ()
def PySem.W.Fast.tw15637963270907334283 : Unit := ()
def PySem.W.Fast.tw13768992965348593516 : Unit := ()
def PySem.W.Fast.tw8532772503385217493 : Unit := ()
def PySem.W.Fast.tw12085321802826858863 : Unit := ()
def PySem.W.Fast.tw2966297398038536836 : Unit := ()
def PySem.W.Fast.tw3757339253283534832 : Unit := ()
def PySem.W.Fast.tw10687976881436484624 : Unit := ()
def PySem.W.Fast.tw5731467180917612203 : Unit := ()
def PySem.W.Fast.tw16930152953986094596 : Unit := ()
def PySem.W.Fast.tw16754223744436401219 : Unit := ()
def PySem.W.Fast.tw5839091527874828591 : Unit := ()
def PySem.W.Fast.tw195881556917375093 : Unit := ()
def PySem.W.Fast.tw2977276811578964125 : Unit := ()
def PySem.W.Fast.tw14978787581148014850 : Unit := ()
def PySem.W.Fast.tw14412629411724978674 : Unit := ()
def PySem.W.Fast.tw3931944868620988932 : Unit := ()
def PySem.W.Fast.tw7777525875401631524 : Unit := ()
def PySem.W.Fast.tw12200715908549007187 : Unit := ()
def PySem.W.Fast.tw16999055951389025636 : Unit := ()
def PySem.W.Fast.tw7466985362892870415 : Unit := ()
def PySem.W.Fast.tw4891498490605467594 : Unit := ()
def PySem.W.Fast.tw6452848175289283870 : Unit := ()
def PySem.W.Fast.tw2652749110590793839 : Unit := ()
def PySem.W.Fast.tw8847773361248294136 : Unit := ()
def PySem.W.Fast.tw10310787198633205854 : Unit := ()
def PySem.W.Fast.tw3516479493476277781 : Unit := ()
def PySem.W.Fast.tw11551533515902383889 : Unit := ()
def PySem.W.Fast.tw17090965311134812851 : Unit := ()
def PySem.W.Fast.tw14000149020614552320 : Unit := ()
def PySem.W.Fast.tw13763734112635011047 : Unit := ()
def PySem.W.Fast.tw1716587723200932897 : Unit := ()
def PySem.W.Fast.tw3279104128343146670 : Unit := ()
def PySem.W.Fast.tw18033062165932085261 : Unit := ()
def PySem.W.Fast.tw16087655745320995526 : Unit := ()
def PySem.W.Fast.tw6003186877615282686 : Unit := ()
def PySem.W.Fast.tw3367328469809876791 : Unit := ()
def PySem.W.Fast.tw2301825638122561551 : Unit := ()
def PySem.W.Fast.tw15803511558678847113 : Unit := ()
def PySem.W.Fast.tw9662577725440036783 : Unit := ()
def PySem.W.Fast.tw1819680641774981734 : Unit := ()
def PySem.W.Fast.tw10744050927603711058 : Unit := ()
def PySem.W.Fast.tw5755498846261902184 : Unit := ()
def PySem.W.Fast.tw13491665409441189731 : Unit := ()
def PySem.W.Fast.tw3863108716017942667 : Unit := ()
def PySem.W.Fast.tw5295059191766825303 : Unit := ()
def PySem.W.Fast.tw3106042333464080530 : Unit := ()
def PySem.W.Fast.tw17855873237155465667 : Unit := ()
def PySem.W.Fast.tw2989207622182112939 : Unit := ()
def PySem.W.Fast.tw10052238746129920587 : Unit := ()
def PySem.W.Fast.tw12013118479139488542 : Unit := ()
def PySem.W.Fast.tw3214561049173796350 : Unit := ()
def PySem.W.Fast.tw2015390595101202519 : Unit := ()
def PySem.W.Fast.tw1460058861327851931 : Unit := ()
def PySem.W.Fast.tw11554748775130897903 : Unit := ()
def PySem.W.Fast.tw9739715687676951475 : Unit := ()
def PySem.W.Fast.tw16166883011785267842 : Unit := ()
def PySem.W.Fast.tw17327713297597032117 : Unit := ()
def PySem.W.Fast.tw2404711702264624771 : Unit := ()
def PySem.W.Fast.tw14783718595883899209 : Unit := ()
def PySem.W.Fast.tw1734404367763285676 : Unit := ()
def PySem.W.Fast.tw9438482484955732021 : Unit := ()
def PySem.W.Fast.tw15280545398039456199 : Unit := ()
def PySem.W.Fast.tw5922933915434995244 : Unit := ()
def PySem.W.Fast.tw10424672386996826163 : Unit := ()
def PySem.W.Fast.tw9104132991179459152 : Unit := ()
def PySem.W.Fast.tw137979456268127906 : Unit := ()
def PySem.W.Fast.tw8563459224825434753 : Unit := ()
def PySem.W.Fast.tw799563355651757988 : Unit := ()
def PySem.W.Fast.tw5039240095572876526 : Unit := ()
def PySem.W.Fast.tw8446462124667012692 : Unit := ()
def PySem.W.Fast.tw3466258793181945686 : Unit := ()
def PySem.W.Fast.tw10114250973365049450 : Unit := ()
def PySem.W.Fast.tw3944140470730851775 : Unit := ()
def PySem.W.Fast.tw5898432740011080055 : Unit := ()
def PySem.W.Fast.tw18026178848862859905 : Unit := ()
def PySem.W.Fast.tw14579046029679664867 : Unit := ()
def PySem.W.Fast.tw4826941315867075447 : Unit := ()
def PySem.W.Fast.tw12878047975758977248 : Unit := ()
def PySem.W.Fast.tw15322383976475873649 : Unit := ()
def PySem.W.Fast.tw6798207995962844532 : Unit := ()
def PySem.W.Fast.tw3673537679160229704 : Unit := ()
def PySem.W.Fast.tw18142121395601237990 : Unit := ()
def PySem.W.Fast.tw9707122349015602805 : Unit := ()
def PySem.W.Fast.tw15290408266158506005 : Unit := ()
def PySem.W.Fast.tw7971019044098273421 : Unit := ()
def PySem.W.Fast.tw1680695435491128889 : Unit := ()
def PySem.W.Fast.tw10775806617714159310 : Unit := ()
def PySem.W.Fast.tw5793617386484826209 : Unit := ()
def PySem.W.Fast.tw12475350176709731451 : Unit := ()
def PySem.W.Fast.tw2267893663226522123 : Unit := ()
def PySem.W.Fast.tw11925468160609693850 : Unit := ()
def PySem.W.Fast.tw2376337031268583234 : Unit := ()
def PySem.W.Fast.tw5527866364386549010 : Unit := ()
def PySem.W.Fast.tw14011723230275001594 : Unit := ()
def PySem.W.Fast.tw1584022784674442953 : Unit := ()
def PySem.W.Fast.tw16032152296796585412 : Unit := ()
def PySem.W.Fast.tw17809803389155815272 : Unit := ()
def PySem.W.Fast.tw442712474445400122 : Unit := ()
def PySem.W.Fast.tw3486487637440890060 : Unit := ()
def PySem.W.Fast.tw14253286162817022334 : Unit := ()
def PySem.W.Fast.tw9214222959023638005 : Unit := ()
def PySem.W.Fast.tw18423652766056799440 : Unit := ()
def PySem.W.Fast.tw18117497858869233121 : Unit := ()
def PySem.W.Fast.tw18294441612336499561 : Unit := ()
def PySem.W.Fast.tw5617632041439219326 : Unit := ()
def PySem.W.Fast.tw17250885420915299702 : Unit := ()
def PySem.W.Fast.tw15918517098749340019 : Unit := ()
def PySem.W.Fast.tw17825877147532597420 : Unit := ()
def PySem.W.Fast.tw6127801848339531037 : Unit := ()
def PySem.W.Fast.tw13667516992864225439 : Unit := ()
def PySem.W.Fast.tw12768318415838412477 : Unit := ()
def PySem.W.Fast.tw6300846673021392212 : Unit := ()
def PySem.W.Fast.tw11675667420520815795 : Unit := ()
def PySem.W.Fast.tw17133020135953161225 : Unit := ()
def PySem.W.Fast.tw17760866677960532618 : Unit := ()
def PySem.W.Fast.tw6625466545113790987 : Unit := ()
def PySem.W.Fast.tw6267885096020681462 : Unit := ()
def PySem.W.Fast.tw17004694857842356445 : Unit := ()
def PySem.W.Fast.tw17383774194440873804 : Unit := ()
def PySem.W.Fast.tw7538680096459883201 : Unit := ()
def PySem.W.Fast.tw14861812708547888772 : Unit := ()
def PySem.W.Fast.tw9712868385009355608 : Unit := ()
def PySem.W.Fast.tw1906241665326391481 : Unit := ()
def PySem.W.Fast.tw14274707601398726105 : Unit := ()
def PySem.W.Fast.tw7406148852533056084 : Unit := ()
def PySem.W.Fast.tw11461364678229673607 : Unit := ()
def PySem.W.Fast.tw10308402623195753805 : Unit := ()
def PySem.W.Fast.tw12272779662730782834 : Unit := ()
def PySem.W.Fast.tw17204327894273095399 : Unit := ()
def PySem.W.Fast.tw739660490516554427 : Unit := ()
def PySem.W.Fast.tw7077185108665116748 : Unit := ()
def PySem.W.Fast.tw6466733095668880551 : Unit := ()
def PySem.W.Fast.tw654040684769412524 : Unit := ()
def PySem.W.Fast.tw563126237403277680 : Unit := ()
def PySem.W.Fast.tw6134500568148307014 : Unit := ()
def PySem.W.Fast.tw17496996658808419150 : Unit := ()
def PySem.W.Fast.tw3442483431255132654 : Unit := ()
def PySem.W.Fast.tw7275639576433511365 : Unit := ()
def PySem.W.Fast.tw8660159936506310517 : Unit := ()
def PySem.W.Fast.tw6350128388547494597 : Unit := ()
def PySem.W.Fast.tw2034586385546403953 : Unit := ()
def PySem.W.Fast.tw16021707028712857355 : Unit := ()
def PySem.W.Fast.tw14924976083249458632 : Unit := ()
def PySem.W.Fast.tw17795450431002130810 : Unit := ()
def PySem.W.Fast.tw4604436812502739992 : Unit := ()
def PySem.W.Fast.tw6700647699458426331 : Unit := ()
def PySem.W.Fast.tw5106395205014986355 : Unit := ()
def PySem.W.Fast.tw608284139980571463 : Unit := ()
def PySem.W.Fast.tw7457965793312055220 : Unit := ()
def PySem.W.Fast.tw2037268354724672662 : Unit := ()
def PySem.W.Fast.tw13964222150980023978 : Unit := ()
def PySem.W.Fast.tw16226162949307141644 : Unit := ()
def PySem.W.Fast.tw8284064224331573540 : Unit := ()
def PySem.W.Fast.tw9111542240974320835 : Unit := ()
def PySem.W.Fast.tw17694075327115860926 : Unit := ()
def PySem.W.Fast.tw8876201668403992411 : Unit := ()
def PySem.W.Fast.tw13293896472589060121 : Unit := ()
def PySem.W.Fast.tw14980325007157972425 : Unit := ()
def PySem.W.Fast.tw6411678157596199331 : Unit := ()
def PySem.W.Fast.tw7283972092037436361 : Unit := ()
def PySem.W.Fast.tw1876303724085092955 : Unit := ()
def PySem.W.Fast.tw14095120331013602955 : Unit := ()
def PySem.W.Fast.tw11272067811322157543 : Unit := ()
def PySem.W.Fast.tw10074977724434793465 : Unit := ()
def PySem.W.Fast.tw6220459081891367034 : Unit := ()
def PySem.W.Fast.tw18376604240477821600 : Unit := ()
def PySem.W.Fast.tw13169144650597243495 : Unit := ()
def PySem.W.Fast.tw13094620817939969519 : Unit := ()
def PySem.W.Fast.tw15431564545535386852 : Unit := ()
def PySem.W.Fast.tw4466631864179303236 : Unit := ()
def PySem.W.Fast.tw838449150293811930 : Unit := ()
def PySem.W.Fast.tw8368233721519643048 : Unit := ()
def PySem.W.Fast.tw3882138950035154492 : Unit := ()
def PySem.W.Fast.tw636148924649727780 : Unit := ()
def PySem.W.Fast.tw17442082909437120783 : Unit := ()
def PySem.W.Fast.tw8760152918496801087 : Unit := ()
def PySem.W.Fast.tw7093867127758476317 : Unit := ()
def PySem.W.Fast.tw8123154988121527288 : Unit := ()
def PySem.W.Fast.tw4079450028881113138 : Unit := ()
def PySem.W.Fast.tw12662739174220647075 : Unit := ()
def PySem.W.Fast.tw2999306919259991317 : Unit := ()
def PySem.W.Fast.tw17858146902903407184 : Unit := ()
def PySem.W.Fast.tw1308394519217768096 : Unit := ()
def PySem.W.Fast.tw716027626599077678 : Unit := ()
def PySem.W.Fast.tw2644070274137114257 : Unit := ()
def PySem.W.Fast.tw288866076126973519 : Unit := ()
def PySem.W.Fast.tw1781375582247066868 : Unit := ()
def PySem.W.Fast.tw11939202488674228997 : Unit := ()
def PySem.W.Fast.tw8675557631290872513 : Unit := ()
def PySem.W.Fast.tw14154621973662955198 : Unit := ()
def PySem.W.Fast.tw13257043829460867244 : Unit := ()
def PySem.W.Fast.tw8274960006398590171 : Unit := ()
def PySem.W.Fast.tw15325473775826596100 : Unit := ()
def PySem.W.Fast.tw9689548650007410847 : Unit := ()
def PySem.W.Fast.tw8545660048587491113 : Unit := ()
def PySem.W.Fast.tw1505339991477298219 : Unit := ()
def PySem.W.Fast.tw129391014018047892 : Unit := ()
def PySem.W.Fast.tw12165860902325233640 : Unit := ()
def PySem.W.Fast.tw15377325549483955971 : Unit := ()
def PySem.W.Fast.tw15943366283183634274 : Unit := ()
def PySem.W.Fast.tw13499489094458949321 : Unit := ()
def PySem.W.Fast.tw9200656573223893087 : Unit := ()
def PySem.W.Fast.tw5834367724301218429 : Unit := ()
def PySem.W.Fast.tw15230617884524619622 : Unit := ()
def PySem.W.Fast.tw3199287528468011417 : Unit := ()
def PySem.W.Fast.tw17708383770248657116 : Unit := ()
def PySem.W.Fast.tw15854928198509276878 : Unit := ()
def PySem.W.Fast.tw5213297806635797290 : Unit := ()
def PySem.W.Fast.tw3171397349347057266 : Unit := ()
def PySem.W.Fast.tw15926558349818309483 : Unit := ()
def PySem.W.Fast.tw8407494833541154515 : Unit := ()
def PySem.W.Fast.tw4368990191759512371 : Unit := ()
def PySem.W.Fast.tw349814112331304218 : Unit := ()
def PySem.W.Fast.tw12722287392500995997 : Unit := ()
def PySem.W.Fast.tw8899842819474742247 : Unit := ()
def PySem.W.Fast.tw12296267932954716702 : Unit := ()
def PySem.W.Fast.tw4291292990470273013 : Unit := ()
def PySem.W.Fast.tw9668708823605270831 : Unit := ()
def PySem.W.Fast.tw5824426962412918444 : Unit := ()
def PySem.W.Fast.tw75231433562960672 : Unit := ()
def PySem.W.Fast.tw4932344754858191021 : Unit := ()
def PySem.W.Fast.tw2203032303447961483 : Unit := ()
def PySem.W.Fast.tw3189260584360119347 : Unit := ()
def PySem.W.Fast.tw14594768257536777600 : Unit := ()
def PySem.W.Fast.tw3590042353269359276 : Unit := ()
def PySem.W.Fast.tw9214592946705116535 : Unit := ()
def PySem.W.Fast.tw11062867278861085610 : Unit := ()
def PySem.W.Fast.tw8264930204649348118 : Unit := ()
def PySem.W.Fast.tw16702272349050928189 : Unit := ()
def PySem.W.Fast.tw11132729354793486704 : Unit := ()
def PySem.W.Fast.tw13271542510052955164 : Unit := ()
def PySem.W.Fast.tw14445988203628760597 : Unit := ()
def PySem.W.Fast.tw17037589971960258612 : Unit := ()
def PySem.W.Fast.tw1067458710063027176 : Unit := ()
def PySem.W.Fast.tw15459649478047392715 : Unit := ()
def PySem.W.Fast.tw6803073415937729317 : Unit := ()
def PySem.W.Fast.tw11297715872459830130 : Unit := ()
def PySem.W.Fast.tw15796593733779182257 : Unit := ()
def PySem.W.Fast.tw7862577592210989820 : Unit := ()
def PySem.W.Fast.tw4620972452891970109 : Unit := ()
def PySem.W.Fast.tw13570623263001117614 : Unit := ()
def PySem.W.Fast.tw17422003604032346652 : Unit := ()
def PySem.W.Fast.tw7691930629060576745 : Unit := ()
def PySem.W.Fast.tw15755525882346876803 : Unit := ()
def PySem.W.Fast.tw4827868820157284501 : Unit := ()
def PySem.W.Fast.tw17695516184574655185 : Unit := ()
def PySem.W.Fast.tw13111034605251636682 : Unit := ()
def PySem.W.Fast.tw382103793503584336 : Unit := ()
def PySem.W.Fast.tw4771536235638125320 : Unit := ()
def PySem.W.Fast.tw11645914885332102093 : Unit := ()
def PySem.W.Fast.tw16823679094280957989 : Unit := ()
def PySem.W.Fast.tw6704812004898552371 : Unit := ()
def PySem.W.Fast.tw13100112057404340931 : Unit := ()
def PySem.W.Fast.tw1073990350482126528 : Unit := ()
def PySem.W.Fast.tw16863973092206013302 : Unit := ()
def PySem.W.Fast.tw2942432305511383898 : Unit := ()
def PySem.W.Fast.tw4609929880564029887 : Unit := ()
def PySem.W.Fast.tw11865839568274951045 : Unit := ()
def PySem.W.Fast.tw3335724665887314813 : Unit := ()
def PySem.W.Fast.tw3784142571102425208 : Unit := ()
def PySem.W.Fast.tw1276441529714226029 : Unit := ()
def PySem.W.Fast.tw10381564850054675030 : Unit := ()
def PySem.W.Fast.tw6209263163526653539 : Unit := ()
def PySem.W.Fast.tw1145491016293705463 : Unit := ()
def PySem.W.Fast.tw1570568947873564101 : Unit := ()
def PySem.W.Fast.tw18211125642386607203 : Unit := ()
def PySem.W.Fast.tw16244270758525664725 : Unit := ()
def PySem.W.Fast.tw12191499240053050738 : Unit := ()
def PySem.W.Fast.tw3688853239841207149 : Unit := ()
def PySem.W.Fast.tw1544111110599946899 : Unit := ()
def PySem.W.Fast.tw5181612923875008645 : Unit := ()
def PySem.W.Fast.tw14558875698669538449 : Unit := ()
def PySem.W.Fast.tw3490693638802400001 : Unit := ()
def PySem.W.Fast.tw9651037595092705748 : Unit := ()
def PySem.W.Fast.tw1844555570248210381 : Unit := ()
def PySem.W.Fast.tw3500684244780922311 : Unit := ()
def PySem.W.Fast.tw12790664844991404376 : Unit := ()
def PySem.W.Fast.tw9875227297049273762 : Unit := ()
def PySem.W.Fast.tw15285314117355829687 : Unit := ()
def PySem.W.Fast.tw414653157153345460 : Unit := ()
def PySem.W.Fast.tw8057611368779374738 : Unit := ()
def PySem.W.Fast.tw17563360225404793223 : Unit := ()
def PySem.W.Fast.tw9051398808606289467 : Unit := ()
def PySem.W.Fast.tw11515243938814973421 : Unit := ()
def PySem.W.Fast.tw16184142099178413036 : Unit := ()
def PySem.W.Fast.tw9795919947799545213 : Unit := ()
def PySem.W.Fast.tw4297413329130551606 : Unit := ()
def PySem.W.Fast.tw1811022572346339323 : Unit := ()
def PySem.W.Fast.tw15100929553553983507 : Unit := ()
def PySem.W.Fast.tw8864797047937608512 : Unit := ()
def PySem.W.Fast.tw10051279809138579559 : Unit := ()
def PySem.W.Fast.tw15526685290394164636 : Unit := ()
def PySem.W.Fast.tw513625508792730526 : Unit := ()
def PySem.W.Fast.tw11516806139119209 : Unit := ()
def PySem.W.Fast.tw6614231401552476752 : Unit := ()
def PySem.W.Fast.tw4442357501809452272 : Unit := ()
def PySem.W.Fast.tw1357343011936014280 : Unit := ()
def PySem.W.Fast.tw16829630503095884944 : Unit := ()
def PySem.W.Fast.tw218929525522816903 : Unit := ()
def PySem.W.Fast.tw8834287479440437252 : Unit := ()
def PySem.W.Fast.tw15354135310805584623 : Unit := ()
def PySem.W.Fast.tw336395301561250078 : Unit := ()
def PySem.W.Fast.tw6634075889296282255 : Unit := ()
def PySem.W.Fast.tw17009556195373059204 : Unit := ()
def PySem.W.Fast.tw2125245405163638995 : Unit := ()
def PySem.W.Fast.tw11038172584193388638 : Unit := ()
def PySem.W.Fast.tw5234851431676686691 : Unit := ()
def PySem.W.Fast.tw1716678885135307252 : Unit := ()
def PySem.W.Fast.tw2534184384588668428 : Unit := ()
def PySem.W.Fast.tw6280186528386945017 : Unit := ()
def PySem.W.Fast.tw10374728112058133455 : Unit := ()
def PySem.W.Fast.tw4056888678117543252 : Unit := ()
def PySem.W.Fast.tw14135729298850666365 : Unit := ()
def PySem.W.Fast.tw598060485152695055 : Unit := ()
def PySem.W.Fast.tw8767479915504959201 : Unit := ()
def PySem.W.Fast.tw239521369426696044 : Unit := ()
def PySem.W.Fast.tw5429858367267400057 : Unit := ()
def PySem.W.Fast.tw16154053860105556669 : Unit := ()
def PySem.W.Fast.tw6477173318826068337 : Unit := ()
def PySem.W.Fast.tw2038267078646735090 : Unit := ()
def PySem.W.Fast.tw11807955688700503679 : Unit := ()
def PySem.W.Fast.tw16354924008406519363 : Unit := ()
def PySem.W.Fast.tw16861376413223070790 : Unit := ()
def PySem.W.Fast.tw11012618490095241644 : Unit := ()
def PySem.W.Fast.tw17840056835614439329 : Unit := ()
def PySem.W.Fast.tw7682392505515123700 : Unit := ()
def PySem.W.Fast.tw16951727431101056022 : Unit := ()
def PySem.W.Fast.tw8218830139089880273 : Unit := ()
def PySem.W.Fast.tw2837952267356042655 : Unit := ()
def PySem.W.Fast.tw16181849681296114362 : Unit := ()
def PySem.W.Fast.tw4677460507405781381 : Unit := ()
def PySem.W.Fast.tw16056305933564383083 : Unit := ()
def PySem.W.Fast.tw15283762077997222494 : Unit := ()
def PySem.W.Fast.tw3090686019429997843 : Unit := ()
def PySem.W.Fast.tw4182959422135581941 : Unit := ()
def PySem.W.Fast.tw5454456022653199972 : Unit := ()
def PySem.W.Fast.tw11676129523452798476 : Unit := ()
def PySem.W.Fast.tw1178399984972565381 : Unit := ()
def PySem.W.Fast.tw2837755544458939878 : Unit := ()
def PySem.W.Fast.tw5820967738007249827 : Unit := ()
def PySem.W.Fast.tw13628994301879507850 : Unit := ()
def PySem.W.Fast.tw9498163271807375522 : Unit := ()
def PySem.W.Fast.tw5677269663762435918 : Unit := ()
def PySem.W.Fast.tw14698448699548907424 : Unit := ()
def PySem.W.Fast.tw15484523934077876945 : Unit := ()
def PySem.W.Fast.tw10928800379608949204 : Unit := ()
def PySem.W.Fast.tw8863006798341907464 : Unit := ()
def PySem.W.Fast.tw3521815209423669806 : Unit := ()
def PySem.W.Fast.tw11628084297315541605 : Unit := ()
def PySem.W.Fast.tw13166923728838057893 : Unit := ()
def PySem.W.Fast.tw10943522469420135959 : Unit := ()
def PySem.W.Fast.tw8035923325989482986 : Unit := ()
def PySem.W.Fast.tw17883780393171455812 : Unit := ()
def PySem.W.Fast.tw3604451398586112256 : Unit := ()
def PySem.W.Fast.tw11305367585856434256 : Unit := ()
def PySem.W.Fast.tw6106523794435883527 : Unit := ()
def PySem.W.Fast.tw6912928384954653426 : Unit := ()
def PySem.W.Fast.tw12928963838600045650 : Unit := ()
def PySem.W.Fast.tw229470726066315958 : Unit := ()
def PySem.W.Fast.tw18207055419249628720 : Unit := ()
def PySem.W.Fast.tw6835132262634027046 : Unit := ()
def PySem.W.Fast.tw17616625216127292973 : Unit := ()
def PySem.W.Fast.tw9382866180496193846 : Unit := ()
def PySem.W.Fast.tw4721508882504679875 : Unit := ()
def PySem.W.Fast.tw6980388692054570167 : Unit := ()
def PySem.W.Fast.tw3490789718999091509 : Unit := ()
def PySem.W.Fast.tw1540855227768312208 : Unit := ()
def PySem.W.Fast.tw4524131623362872896 : Unit := ()
def PySem.W.Fast.tw15073603996931193575 : Unit := ()
def PySem.W.Fast.tw17639249214330250459 : Unit := ()
def PySem.W.Fast.tw3898898818591798061 : Unit := ()
def PySem.W.Fast.tw17886229423157610607 : Unit := ()
def PySem.W.Fast.tw6256997297919527170 : Unit := ()
def PySem.W.Fast.tw5976036817036784615 : Unit := ()
def PySem.W.Fast.tw2011726774014031385 : Unit := ()
def PySem.W.Fast.tw18296997992491661563 : Unit := ()
def PySem.W.Fast.tw17275812676700845518 : Unit := ()
def PySem.W.Fast.tw9712781332168767326 : Unit := ()
def PySem.W.Fast.tw14915190118278978110 : Unit := ()
def PySem.W.Fast.tw18315020822032986778 : Unit := ()
def PySem.W.Fast.tw4186009702265412921 : Unit := ()
def PySem.W.Fast.tw3356431378081600750 : Unit := ()
def PySem.W.Fast.tw5892203538639325344 : Unit := ()
def PySem.W.Fast.tw3250970993576435214 : Unit := ()
def PySem.W.Fast.tw3056362338280037924 : Unit := ()
def PySem.W.Fast.tw11593932928363301385 : Unit := ()
def PySem.W.Fast.tw14159960313464305533 : Unit := ()
def PySem.W.Fast.tw3023964969804682800 : Unit := ()
def PySem.W.Fast.tw13000006214280678747 : Unit := ()
def PySem.W.Fast.tw15319428237464214143 : Unit := ()
def PySem.W.Fast.tw13580023240117039626 : Unit := ()
def PySem.W.Fast.tw3210440242601968659 : Unit := ()
def PySem.W.Fast.tw7534803373205684401 : Unit := ()
def PySem.W.Fast.tw1879275728876882879 : Unit := ()
def PySem.W.Fast.tw10588526818030522631 : Unit := ()
def PySem.W.Fast.tw3442549075302660549 : Unit := ()
def PySem.W.Fast.tw10950409641259689569 : Unit := ()
def PySem.W.Fast.tw11845715621680876311 : Unit := ()
def PySem.W.Fast.tw12375930092824863212 : Unit := ()
def PySem.W.Fast.tw9078106147050019662 : Unit := ()
def PySem.W.Fast.tw2488322866102478027 : Unit := ()
def PySem.W.Fast.tw16711948027100759254 : Unit := ()
def PySem.W.Fast.tw10379468350451532884 : Unit := ()
def PySem.W.Fast.tw8437510608384675337 : Unit := ()
def PySem.W.Fast.tw4940179952388340949 : Unit := ()
def PySem.W.Fast.tw3280189658742095716 : Unit := ()
def PySem.W.Fast.tw10658849926823643513 : Unit := ()
def PySem.W.Fast.tw17546758163105710194 : Unit := ()
def PySem.W.Fast.tw12582441439099531046 : Unit := ()
def PySem.W.Fast.tw12046803470182035407 : Unit := ()
def PySem.W.Fast.tw13243923590339615705 : Unit := ()
def PySem.W.Fast.tw11329285406288038158 : Unit := ()
def PySem.W.Fast.tw13314886759328465304 : Unit := ()
def PySem.W.Fast.tw7795240896689551729 : Unit := ()
def PySem.W.Fast.tw18380990244500060023 : Unit := ()
def PySem.W.Fast.tw13540469515794214852 : Unit := ()
def PySem.W.Fast.tw1281588565421589801 : Unit := ()
def PySem.W.Fast.tw6457267450586908136 : Unit := ()
def PySem.W.Fast.tw16308454472290663623 : Unit := ()
def PySem.W.Fast.tw14258284396886450490 : Unit := ()
def PySem.W.Fast.tw4001390332875654224 : Unit := ()
def PySem.W.Fast.tw11980970967524364226 : Unit := ()
def PySem.W.Fast.tw4662638542275805563 : Unit := ()
def PySem.W.Fast.tw15680863564175380894 : Unit := ()
def PySem.W.Fast.tw14433485710106331851 : Unit := ()
def PySem.W.Fast.tw18214537564348763376 : Unit := ()
def PySem.W.Fast.tw3628697475566735041 : Unit := ()
def PySem.W.Fast.tw7668897272352469660 : Unit := ()
def PySem.W.Fast.tw12811322109444805824 : Unit := ()
def PySem.W.Fast.tw3121843823540075518 : Unit := ()
def PySem.W.Fast.tw8765323245611405660 : Unit := ()
def PySem.W.Fast.tw12943690858249404237 : Unit := ()
def PySem.W.Fast.tw922941768256912465 : Unit := ()
def PySem.W.Fast.tw4609357435267546845 : Unit := ()
def PySem.W.Fast.tw11960638515565887478 : Unit := ()
def PySem.W.Fast.tw7925046605019280071 : Unit := ()
def PySem.W.Fast.tw16383156591502795621 : Unit := ()
def PySem.W.Fast.tw7504822934996932681 : Unit := ()
def PySem.W.Fast.tw789494978940035466 : Unit := ()
def PySem.W.Fast.tw10884852717473344856 : Unit := ()
def PySem.W.Fast.tw15175466581457463014 : Unit := ()
def PySem.W.Fast.tw18078126307735751483 : Unit := ()
def PySem.W.Fast.tw16373506762989259647 : Unit := ()
def PySem.W.Fast.tw3242234815768130546 : Unit := ()
def PySem.W.Fast.tw5949139641008308259 : Unit := ()
def PySem.W.Fast.tw12798471288316777983 : Unit := ()
def PySem.W.Fast.tw339868290388332023 : Unit := ()
def PySem.W.Fast.tw7317390992619038544 : Unit := ()
def PySem.W.Fast.tw1071200829603871430 : Unit := ()
def PySem.W.Fast.tw16405954411993484752 : Unit := ()
def PySem.W.Fast.tw10397179456359524205 : Unit := ()
def PySem.W.Fast.tw15016943116632589212 : Unit := ()
def PySem.W.Fast.tw14900873473252798391 : Unit := ()
def PySem.W.Fast.tw9212639218073843877 : Unit := ()
def PySem.W.Fast.tw5852523379270399226 : Unit := ()
def PySem.W.Fast.tw8302824772300090092 : Unit := ()
def PySem.W.Fast.tw17792509068409437522 : Unit := ()
def PySem.W.Fast.tw3201207103602424959 : Unit := ()
def PySem.W.Fast.tw4488769648775014741 : Unit := ()
def PySem.W.Fast.tw7744902279393156571 : Unit := ()
def PySem.W.Fast.tw7018733498023053139 : Unit := ()
def PySem.W.Fast.tw22270405903605897 : Unit := ()
def PySem.W.Fast.tw3977374687239258231 : Unit := ()
def PySem.W.Fast.tw9762565910357380104 : Unit := ()
def PySem.W.Fast.tw818798672319292850 : Unit := ()
def PySem.W.Fast.tw5491174921965009992 : Unit := ()
def PySem.W.Fast.tw7493560696158529260 : Unit := ()
def PySem.W.Fast.tw7170583664725873778 : Unit := ()
def PySem.W.Fast.tw11100247524033084412 : Unit := ()
def PySem.W.Fast.tw6874283046775843049 : Unit := ()
def PySem.W.Fast.tw12800066051193694762 : Unit := ()
def PySem.W.Fast.tw9279888022889635875 : Unit := ()
def PySem.W.Fast.tw5941185037994572675 : Unit := ()
def PySem.W.Fast.tw2199757758898902479 : Unit := ()
def PySem.W.Fast.tw10819908809549060451 : Unit := ()
def PySem.W.Fast.tw10475091440800252237 : Unit := ()
def PySem.W.Fast.tw11537547299587182080 : Unit := ()
def PySem.W.Fast.tw4197137662279073784 : Unit := ()
def PySem.W.Fast.tw8401459589382081158 : Unit := ()
def PySem.W.Fast.tw15904914247450299032 : Unit := ()
def PySem.W.Fast.tw16497975832200640535 : Unit := ()
def PySem.W.Fast.tw17330662830886160978 : Unit := ()
def PySem.W.Fast.tw11141597758507869191 : Unit := ()
def PySem.W.Fast.tw12621096450767077345 : Unit := ()
def PySem.W.Fast.tw6671349398930612941 : Unit := ()
def PySem.W.Fast.tw326326187535718200 : Unit := ()
def PySem.W.Fast.tw15335141568117423245 : Unit := ()
def PySem.W.Fast.tw10926400209780321438 : Unit := ()
def PySem.W.Fast.tw15078974649681280636 : Unit := ()
def PySem.W.Fast.tw1349078819024245292 : Unit := ()
def PySem.W.Fast.tw7677657863288184949 : Unit := ()
def PySem.W.Fast.tw16843216466551233885 : Unit := ()
def PySem.W.Fast.tw2559910967526338828 : Unit := ()
def PySem.W.Fast.tw4114947745863429450 : Unit := ()
def PySem.W.Fast.tw3676956970615089337 : Unit := ()
def PySem.W.Fast.tw14818482710685952436 : Unit := ()
def PySem.W.Fast.tw7149348091428771216 : Unit := ()
def PySem.W.Fast.tw11278428944820125810 : Unit := ()
def PySem.W.Fast.tw1637353682317482001 : Unit := ()
def PySem.W.Fast.tw8008160220079044124 : Unit := ()
def PySem.W.Fast.tw9310569385500416783 : Unit := ()
def PySem.W.Fast.tw12751630275361444595 : Unit := ()
def PySem.W.Fast.tw6598323745665779248 : Unit := ()
def PySem.W.Fast.tw14893768027471354753 : Unit := ()
def PySem.W.Fast.tw18277225727944164369 : Unit := ()
def PySem.W.Fast.tw3798723010174361907 : Unit := ()
def PySem.W.Fast.tw11958656728172945097 : Unit := ()
def PySem.W.Fast.tw9368789376749423192 : Unit := ()
def PySem.W.Fast.tw18041869637477953630 : Unit := ()
def PySem.W.Fast.tw911783700922580790 : Unit := ()
def PySem.W.Fast.tw5709608857266146090 : Unit := ()
def PySem.W.Fast.tw1083389033169895971 : Unit := ()
def PySem.W.Fast.tw35753989861758266 : Unit := ()
def PySem.W.Fast.tw16199248778428240897 : Unit := ()
def PySem.W.Fast.tw15558693175583277362 : Unit := ()
def PySem.W.Fast.tw14927079935006829228 : Unit := ()
def PySem.W.Fast.tw8533271209696373255 : Unit := ()
def PySem.W.Fast.tw12634452573535047044 : Unit := ()
def PySem.W.Fast.tw6219146158520241684 : Unit := ()
def PySem.W.Fast.tw14548018141073581845 : Unit := ()
def PySem.W.Fast.tw18232166451292538362 : Unit := ()
def PySem.W.Fast.tw334002754215687395 : Unit := ()
def PySem.W.Fast.tw15845127799315258686 : Unit := ()
def PySem.W.Fast.tw4049325053036734268 : Unit := ()
def PySem.W.Fast.tw3550120532465507942 : Unit := ()
def PySem.W.Fast.tw12867184203597012268 : Unit := ()
def PySem.W.Fast.tw9164886534727022095 : Unit := ()
def PySem.W.Fast.tw4026571950145026763 : Unit := ()
def PySem.W.Fast.tw6048015284110328532 : Unit := ()
def PySem.W.Fast.tw7797187049292401513 : Unit := ()
def PySem.W.Fast.tw334023645437996461 : Unit := ()
def PySem.W.Fast.tw12185310364690634587 : Unit := ()
def PySem.W.Fast.tw1028003955283260464 : Unit := ()
def PySem.W.Fast.tw2165603398118369219 : Unit := ()
def PySem.W.Fast.tw3185686619459462567 : Unit := ()
def PySem.W.Fast.tw6238022827344795745 : Unit := ()
def PySem.W.Fast.tw14963662401316198331 : Unit := ()
def PySem.W.Fast.tw5990668411815210752 : Unit := ()
def PySem.W.Fast.tw5723717434363177680 : Unit := ()
def PySem.W.Fast.tw17295532785946723132 : Unit := ()
def PySem.W.Fast.tw6448662577435658722 : Unit := ()
def PySem.W.Fast.tw18422895674667634659 : Unit := ()
def PySem.W.Fast.tw6978627301111390167 : Unit := ()
def PySem.W.Fast.tw14165089318742150256 : Unit := ()
def PySem.W.Fast.tw11113614080825434593 : Unit := ()
def PySem.W.Fast.tw3812071508240343896 : Unit := ()
def PySem.W.Fast.tw4400174794138612148 : Unit := ()
def PySem.W.Fast.tw677965772415569783 : Unit := ()
def PySem.W.Fast.tw8737436931187121004 : Unit := ()
def PySem.W.Fast.tw10935026761468632761 : Unit := ()
def PySem.W.Fast.tw13485925802741759634 : Unit := ()
def PySem.W.Fast.tw2550805181085624681 : Unit := ()
def PySem.W.Fast.tw17603506901377555240 : Unit := ()
def PySem.W.Fast.tw9728840581391514105 : Unit := ()
def PySem.W.Fast.tw6866293998696167901 : Unit := ()
def PySem.W.Fast.tw8512677517298292635 : Unit := ()
def PySem.W.Fast.tw4238608142773794026 : Unit := ()
def PySem.W.Fast.tw6796879845979666564 : Unit := ()
def PySem.W.Fast.tw9181211953724431798 : Unit := ()
def PySem.W.Fast.tw12021340805781915865 : Unit := ()
def PySem.W.Fast.tw2839847841802125353 : Unit := ()
def PySem.W.Fast.tw633356056319962951 : Unit := ()
def PySem.W.Fast.tw8239220879536163859 : Unit := ()
def PySem.W.Fast.tw3499276084755724603 : Unit := ()
def PySem.W.Fast.tw9234859394063654078 : Unit := ()
def PySem.W.Fast.tw6382502032315368376 : Unit := ()
def PySem.W.Fast.tw12945329691041425815 : Unit := ()
def PySem.W.Fast.tw10604252334679994345 : Unit := ()
def PySem.W.Fast.tw555146505033108476 : Unit := ()
def PySem.W.Fast.tw13170688876572482175 : Unit := ()
def PySem.W.Fast.tw12239856780124885842 : Unit := ()
def PySem.W.Fast.tw15621761485901794234 : Unit := ()
def PySem.W.Fast.tw1476243071521447351 : Unit := ()
def PySem.W.Fast.tw13658568109016258520 : Unit := ()
def PySem.W.Fast.tw18274872996484512635 : Unit := ()
def PySem.W.Fast.tw12065040175827836833 : Unit := ()
def PySem.W.Fast.tw14759312904729330355 : Unit := ()
def PySem.W.Fast.tw15067038656546650064 : Unit := ()
def PySem.W.Fast.tw2659697617139592729 : Unit := ()
def PySem.W.Fast.tw14726508632422421227 : Unit := ()
def PySem.W.Fast.tw7314139384666676594 : Unit := ()
def PySem.W.Fast.tw2162700192531011584 : Unit := ()
def PySem.W.Fast.tw532264529734991229 : Unit := ()
def PySem.W.Fast.tw1570071608990226043 : Unit := ()
def PySem.W.Fast.tw4469577195823826068 : Unit := ()
def PySem.W.Fast.tw7175541262163257652 : Unit := ()
def PySem.W.Fast.tw9846190851991239567 : Unit := ()
def PySem.W.Fast.tw9204952411784433729 : Unit := ()
def PySem.W.Fast.tw17745201542440358600 : Unit := ()
def PySem.W.Fast.tw13672056046172159962 : Unit := ()
def PySem.W.Fast.tw3586288764566393900 : Unit := ()
def PySem.W.Fast.tw14223279556637457704 : Unit := ()
def PySem.W.Fast.tw10172549287157911087 : Unit := ()
def PySem.W.Fast.tw14569599605371638704 : Unit := ()
def PySem.W.Fast.tw13996687888946614062 : Unit := ()
def PySem.W.Fast.tw2669355610376564453 : Unit := ()
def PySem.W.Fast.tw6327208794274476251 : Unit := ()
def PySem.W.Fast.tw1773218362339781385 : Unit := ()
def PySem.W.Fast.tw10882212376722679918 : Unit := ()
def PySem.W.Fast.tw17617360576235878343 : Unit := ()
def PySem.W.Fast.tw14389927892327999795 : Unit := ()
def PySem.W.Fast.tw4298466463809679171 : Unit := ()
def PySem.W.Fast.tw4217059080399778387 : Unit := ()
def PySem.W.Fast.tw7368045378983083795 : Unit := ()
def PySem.W.Fast.tw3358502087157127439 : Unit := ()
def PySem.W.Fast.tw6214761755265716394 : Unit := ()
def PySem.W.Fast.tw4336291718158383944 : Unit := ()
def PySem.W.Fast.tw13673776858965157156 : Unit := ()
def PySem.W.Fast.tw2875392534673082205 : Unit := ()
def PySem.W.Fast.tw10772628528387309793 : Unit := ()
def PySem.W.Fast.tw755463867794980486 : Unit := ()
def PySem.W.Fast.tw9296388776279932379 : Unit := ()
def PySem.W.Fast.tw1742972940792537354 : Unit := ()
def PySem.W.Fast.tw10577070391972776683 : Unit := ()
def PySem.W.Fast.tw15044169282254038934 : Unit := ()
def PySem.W.Fast.tw1877189224773263484 : Unit := ()
def PySem.W.Fast.tw8598091067735847334 : Unit := ()
def PySem.W.Fast.tw7166370048843646169 : Unit := ()
def PySem.W.Fast.tw12787514479742091099 : Unit := ()
def PySem.W.Fast.tw7356235694099892483 : Unit := ()
def PySem.W.Fast.tw12978787394533261301 : Unit := ()
def PySem.W.Fast.tw11362638280186087351 : Unit := ()
def PySem.W.Fast.tw8529746779538436221 : Unit := ()
def PySem.W.Fast.tw12963745968869797443 : Unit := ()
def PySem.W.Fast.tw17292499423607653354 : Unit := ()
def PySem.W.Fast.tw13377707234973732461 : Unit := ()
def PySem.W.Fast.tw17902303667235067765 : Unit := ()
def PySem.W.Fast.tw17080597064156898098 : Unit := ()
def PySem.W.Fast.tw4466843464455015545 : Unit := ()
def PySem.W.Fast.tw14746973845286434677 : Unit := ()
def PySem.W.Fast.tw2968959982532440119 : Unit := ()
def PySem.W.Fast.tw17343080866813709503 : Unit := ()
def PySem.W.Fast.tw5463467900864669943 : Unit := ()
def PySem.W.Fast.tw10640589864400768494 : Unit := ()
def PySem.W.Fast.tw11386869354693562423 : Unit := ()
def PySem.W.Fast.tw15610558303456040861 : Unit := ()
def PySem.W.Fast.tw11243157780158485092 : Unit := ()
def PySem.W.Fast.tw326718545550736219 : Unit := ()
def PySem.W.Fast.tw11946484693331440675 : Unit := ()
def PySem.W.Fast.tw3374759548561623953 : Unit := ()
def PySem.W.Fast.tw16260017284453571305 : Unit := ()
def PySem.W.Fast.tw12976064984508654987 : Unit := ()
def PySem.W.Fast.tw15749423779977173470 : Unit := ()
def PySem.W.Fast.tw14977877621188567853 : Unit := ()
def PySem.W.Fast.tw8862597395557330991 : Unit := ()
def PySem.W.Fast.tw8357109098602310234 : Unit := ()
def PySem.W.Fast.tw2561328565565085849 : Unit := ()
def PySem.W.Fast.tw12038407318411582285 : Unit := ()
def PySem.W.Fast.tw7753009372037695484 : Unit := ()
def PySem.W.Fast.tw17853101121454752506 : Unit := ()
def PySem.W.Fast.tw5838308613139425225 : Unit := ()
def PySem.W.Fast.tw9351492366790360591 : Unit := ()
def PySem.W.Fast.tw5571764120682153745 : Unit := ()
def PySem.W.Fast.tw9154775234455066186 : Unit := ()
def PySem.W.Fast.tw3871328939379415277 : Unit := ()
def PySem.W.Fast.tw8434994212018376349 : Unit := ()
def PySem.W.Fast.tw2634905460810510186 : Unit := ()
def PySem.W.Fast.tw238090007384612702 : Unit := ()
def PySem.W.Fast.tw15152933359473482193 : Unit := ()
def PySem.W.Fast.tw18296000411095181924 : Unit := ()
def PySem.W.Fast.tw12576859349345961551 : Unit := ()
def PySem.W.Fast.tw13579460265030825434 : Unit := ()
def PySem.W.Fast.tw8647666226725492457 : Unit := ()
def PySem.W.Fast.tw5419145778799091090 : Unit := ()
def PySem.W.Fast.tw16512269116747682381 : Unit := ()
def PySem.W.Fast.tw5927293801013731418 : Unit := ()
def PySem.W.Fast.tw14131958121268042090 : Unit := ()
def PySem.W.Fast.tw5040984281818608985 : Unit := ()
def PySem.W.Fast.tw10561590586551195482 : Unit := ()
def PySem.W.Fast.tw11147715613798105163 : Unit := ()
def PySem.W.Fast.tw10367322250987510823 : Unit := ()
def PySem.W.Fast.tw6358874094585295393 : Unit := ()
def PySem.W.Fast.tw4193686170663543347 : Unit := ()
def PySem.W.Fast.tw17086027166506322736 : Unit := ()
def PySem.W.Fast.tw7447329529033313512 : Unit := ()
def PySem.W.Fast.tw6403114167691261891 : Unit := ()
def PySem.W.Fast.tw9925703262597210925 : Unit := ()
def PySem.W.Fast.tw4176684653573784846 : Unit := ()
def PySem.W.Fast.tw9858341212891465113 : Unit := ()
def PySem.W.Fast.tw643063995460770806 : Unit := ()
def PySem.W.Fast.tw8425761271869791269 : Unit := ()
def PySem.W.Fast.tw7026613482335835376 : Unit := ()
def PySem.W.Fast.tw16265874490800371626 : Unit := ()
def PySem.W.Fast.tw7366958734674437415 : Unit := ()
def PySem.W.Fast.tw2938592281165205704 : Unit := ()
def PySem.W.Fast.tw15765060805197972828 : Unit := ()
def PySem.W.Fast.tw10972948404679570634 : Unit := ()
def PySem.W.Fast.tw8360306436483911951 : Unit := ()
def PySem.W.Fast.tw8556743164347952258 : Unit := ()
def PySem.W.Fast.tw15451392023113834404 : Unit := ()
def PySem.W.Fast.tw8376532501889801413 : Unit := ()
def PySem.W.Fast.tw4454416276278849942 : Unit := ()
def PySem.W.Fast.tw3357513029407978002 : Unit := ()
def PySem.W.Fast.tw16767574311671678571 : Unit := ()
def PySem.W.Fast.tw16574404935284658605 : Unit := ()
def PySem.W.Fast.tw3297804213601596571 : Unit := ()
def PySem.W.Fast.tw14901035573156892310 : Unit := ()
def PySem.W.Fast.tw17200856456563335240 : Unit := ()
def PySem.W.Fast.tw11506216159377205860 : Unit := ()
def PySem.W.Fast.tw14450368804677605093 : Unit := ()
def PySem.W.Fast.tw5638838503495390918 : Unit := ()
def PySem.W.Fast.tw10740548289425646675 : Unit := ()
def PySem.W.Fast.tw17858054654824960879 : Unit := ()
def PySem.W.Fast.tw17712712845631148199 : Unit := ()
def PySem.W.Fast.tw12377088699646835264 : Unit := ()
def PySem.W.Fast.tw6246307191883146732 : Unit := ()
def PySem.W.Fast.tw15669338089710244585 : Unit := ()
def PySem.W.Fast.tw5862200051662402207 : Unit := ()
def PySem.W.Fast.tw13762810511269081675 : Unit := ()
def PySem.W.Fast.tw184920307976400574 : Unit := ()
def PySem.W.Fast.tw8080642250206391 : Unit := ()
def PySem.W.Fast.tw14363216009770632529 : Unit := ()
def PySem.W.Fast.tw5573325919857934107 : Unit := ()
def PySem.W.Fast.tw15676624218545474546 : Unit := ()
def PySem.W.Fast.tw16330913410584199433 : Unit := ()
def PySem.W.Fast.tw12464622730108861661 : Unit := ()
def PySem.W.Fast.tw9406003186812142143 : Unit := ()
def PySem.W.Fast.tw3340060131034709906 : Unit := ()
def PySem.W.Fast.tw5539580521526587145 : Unit := ()
def PySem.W.Fast.tw8219750929631785354 : Unit := ()
def PySem.W.Fast.tw5445323183954927917 : Unit := ()
def PySem.W.Fast.tw9220380701532023066 : Unit := ()
def PySem.W.Fast.tw1442883874314554752 : Unit := ()
def PySem.W.Fast.tw14507176537949180529 : Unit := ()
def PySem.W.Fast.tw10068752199648647101 : Unit := ()
def PySem.W.Fast.tw10169818657830769867 : Unit := ()
def PySem.W.Fast.tw17363866322927780612 : Unit := ()
def PySem.W.Fast.tw3182153309729743533 : Unit := ()
def PySem.W.Fast.tw15079996681121298270 : Unit := ()
def PySem.W.Fast.tw6319739205826589846 : Unit := ()
def PySem.W.Fast.tw13219052337232316847 : Unit := ()
def PySem.W.Fast.tw6302995610775237904 : Unit := ()
def PySem.W.Fast.tw4051229195718853013 : Unit := ()
def PySem.W.Fast.tw8272227563935620029 : Unit := ()
def PySem.W.Fast.tw17263107345915288944 : Unit := ()
def PySem.W.Fast.tw5651923297142995384 : Unit := ()
def PySem.W.Fast.tw4764924009898509205 : Unit := ()
def PySem.W.Fast.tw1551426177483888137 : Unit := ()
def PySem.W.Fast.tw8688956559817674988 : Unit := ()
def PySem.W.Fast.tw907874471111986562 : Unit := ()
def PySem.W.Fast.tw15169533507814600312 : Unit := ()
def PySem.W.Fast.tw127731001908394110 : Unit := ()
def PySem.W.Fast.tw14076392947047965394 : Unit := ()
def PySem.W.Fast.tw12676848550739160267 : Unit := ()
def PySem.W.Fast.tw7864431174079145888 : Unit := ()
def PySem.W.Fast.tw15365805216755341551 : Unit := ()
def PySem.W.Fast.tw1578203238102101047 : Unit := ()
def PySem.W.Fast.tw2951975097764361192 : Unit := ()
def PySem.W.Fast.tw5280601597902287997 : Unit := ()
def PySem.W.Fast.tw13670501717917686053 : Unit := ()
def PySem.W.Fast.tw8883147873526840237 : Unit := ()
def PySem.W.Fast.tw2546443745328389223 : Unit := ()
def PySem.W.Fast.tw6612717740170878991 : Unit := ()
def PySem.W.Fast.tw1642364086101075942 : Unit := ()
def PySem.W.Fast.tw9438101224762668831 : Unit := ()
def PySem.W.Fast.tw13701712084790746432 : Unit := ()
def PySem.W.Fast.tw7530009106542943151 : Unit := ()
def PySem.W.Fast.tw99738213051943269 : Unit := ()
def PySem.W.Fast.tw12308508311404455295 : Unit := ()
def PySem.W.Fast.tw13413710929977432800 : Unit := ()
def PySem.W.Fast.tw17221061984795776082 : Unit := ()
def PySem.W.Fast.tw2666520899126294245 : Unit := ()
def PySem.W.Fast.tw6987423877856071116 : Unit := ()
def PySem.W.Fast.tw8369066524835706750 : Unit := ()
def PySem.W.Fast.tw9488466323429104080 : Unit := ()
def PySem.W.Fast.tw4422937565813191989 : Unit := ()
def PySem.W.Fast.tw6851170708516400827 : Unit := ()
def PySem.W.Fast.tw2867379313743154886 : Unit := ()
def PySem.W.Fast.tw10357778348616611694 : Unit := ()
def PySem.W.Fast.tw411237429872345245 : Unit := ()
def PySem.W.Fast.tw13197760444789976352 : Unit := ()
def PySem.W.Fast.tw11895773071361204019 : Unit := ()
def PySem.W.Fast.tw13813774927792443383 : Unit := ()
def PySem.W.Fast.tw7478142924312641962 : Unit := ()
def PySem.W.Fast.tw11059901956983011857 : Unit := ()
def PySem.W.Fast.tw160930898345389027 : Unit := ()
def PySem.W.Fast.tw3772147643210003323 : Unit := ()
def PySem.W.Fast.tw8535263361792278096 : Unit := ()
def PySem.W.Fast.tw10083543287798158335 : Unit := ()
def PySem.W.Fast.tw10385563449058632479 : Unit := ()
def PySem.W.Fast.tw13558403837692434917 : Unit := ()
def PySem.W.Fast.tw3500861829191944116 : Unit := ()
def PySem.W.Fast.tw2025335588806531986 : Unit := ()
def PySem.W.Fast.tw2787301618832082929 : Unit := ()
def PySem.W.Fast.tw3768916287964467219 : Unit := ()
def PySem.W.Fast.tw17882414271915549080 : Unit := ()
def PySem.W.Fast.tw2107359352411068828 : Unit := ()
def PySem.W.Fast.tw17616098622238271146 : Unit := ()
def PySem.W.Fast.tw154406937820931608 : Unit := ()
def PySem.W.Fast.tw12480110578846905101 : Unit := ()
def PySem.W.Fast.tw15278860387450402979 : Unit := ()
def PySem.W.Fast.tw14816592960480652857 : Unit := ()
def PySem.W.Fast.tw18347021870301242163 : Unit := ()
def PySem.W.Fast.tw11493627015856584954 : Unit := ()
def PySem.W.Fast.tw11111213038570161100 : Unit := ()
def PySem.W.Fast.tw12800701457897042245 : Unit := ()
def PySem.W.Fast.tw5566870545794951346 : Unit := ()
def PySem.W.Fast.tw6623970080262020919 : Unit := ()
def PySem.W.Fast.tw8868214442620287330 : Unit := ()
def PySem.W.Fast.tw18188431167017398749 : Unit := ()
def PySem.W.Fast.tw11318777394581584782 : Unit := ()
def PySem.W.Fast.tw12525008627873386114 : Unit := ()
def PySem.W.Fast.tw3184352491533671998 : Unit := ()
def PySem.W.Fast.tw14882567173756272926 : Unit := ()
def PySem.W.Fast.tw16038963973363515867 : Unit := ()
def PySem.W.Fast.tw10479712666202167549 : Unit := ()
def PySem.W.Fast.tw12164963432373493230 : Unit := ()
def PySem.W.Fast.tw1127910140141834006 : Unit := ()
def PySem.W.Fast.tw11181004182552195739 : Unit := ()
def PySem.W.Fast.tw6554098279120035504 : Unit := ()
def PySem.W.Fast.tw12160279972162589943 : Unit := ()
def PySem.W.Fast.tw8967373855817252066 : Unit := ()
def PySem.W.Fast.tw4252029454200153708 : Unit := ()
def PySem.W.Fast.tw7953124599961505921 : Unit := ()
def PySem.W.Fast.tw10676515068767787813 : Unit := ()
def PySem.W.Fast.tw9703175576181126535 : Unit := ()
def PySem.W.Fast.tw17488850206196820349 : Unit := ()
def PySem.W.Fast.tw13288491715384340679 : Unit := ()
def PySem.W.Fast.tw1837853359492635028 : Unit := ()
def PySem.W.Fast.tw8976360792161554337 : Unit := ()
def PySem.W.Fast.tw16027492167473963125 : Unit := ()
def PySem.W.Fast.tw4138394353414663614 : Unit := ()
def PySem.W.Fast.tw6647027514298319554 : Unit := ()
def PySem.W.Fast.tw4439816172842638807 : Unit := ()
def PySem.W.Fast.tw7962860114559078219 : Unit := ()
def PySem.W.Fast.tw6679998357521793395 : Unit := ()
def PySem.W.Fast.tw7106780780068652671 : Unit := ()
def PySem.W.Fast.tw13148579906347814084 : Unit := ()
def PySem.W.Fast.tw12074187642063580601 : Unit := ()
def PySem.W.Fast.tw10995053412703753830 : Unit := ()
def PySem.W.Fast.tw17455474965906556705 : Unit := ()
def PySem.W.Fast.tw1143017985712868564 : Unit := ()
def PySem.W.Fast.tw7893114981292400434 : Unit := ()
def PySem.W.Fast.tw8848138567538030086 : Unit := ()
def PySem.W.Fast.tw1637901423305109422 : Unit := ()
def PySem.W.Fast.tw9942567829501589741 : Unit := ()
def PySem.W.Fast.tw17302120425894701444 : Unit := ()
def PySem.W.Fast.tw8300400637808924110 : Unit := ()
def PySem.W.Fast.tw16455493210451975405 : Unit := ()
def PySem.W.Fast.tw6634309267720144489 : Unit := ()
def PySem.W.Fast.tw14866907458136263417 : Unit := ()
def PySem.W.Fast.tw16503006938581427974 : Unit := ()
def PySem.W.Fast.tw1975606696190902855 : Unit := ()
def PySem.W.Fast.tw15340892489290261258 : Unit := ()
def PySem.W.Fast.tw2323681061902845893 : Unit := ()
def PySem.W.Fast.tw8631360511896300075 : Unit := ()
def PySem.W.Fast.tw6291028264076522954 : Unit := ()
def PySem.W.Fast.tw11800986968982942626 : Unit := ()
def PySem.W.Fast.tw1644095344305508918 : Unit := ()
def PySem.W.Fast.tw133202433597519825 : Unit := ()
def PySem.W.Fast.tw91877614003670133 : Unit := ()
def PySem.W.Fast.tw18222344098938126673 : Unit := ()
def PySem.W.Fast.tw16184763975029417147 : Unit := ()
def PySem.W.Fast.tw7848774525776648842 : Unit := ()
def PySem.W.Fast.tw1359590608828493920 : Unit := ()
def PySem.W.Fast.tw14196672270697442341 : Unit := ()
def PySem.W.Fast.tw11339130493568275050 : Unit := ()
def PySem.W.Fast.tw18316048479444829448 : Unit := ()
def PySem.W.Fast.tw14772513874170374185 : Unit := ()
def PySem.W.Fast.tw14222555257926100834 : Unit := ()
def PySem.W.Fast.tw9204049422609558684 : Unit := ()
def PySem.W.Fast.tw433118931453057538 : Unit := ()
def PySem.W.Fast.tw3372629328177286312 : Unit := ()
def PySem.W.Fast.tw9471980813453603913 : Unit := ()
def PySem.W.Fast.tw5610739250565999617 : Unit := ()
def PySem.W.Fast.tw13575401955168260939 : Unit := ()
def PySem.W.Fast.tw6528689708297706757 : Unit := ()
def PySem.W.Fast.tw11374944949562532058 : Unit := ()
def PySem.W.Fast.tw12281041672217684537 : Unit := ()
def PySem.W.Fast.tw10129395736641669134 : Unit := ()
def PySem.W.Fast.tw12817042667397445148 : Unit := ()
def PySem.W.Fast.tw584734503539642215 : Unit := ()
def PySem.W.Fast.tw12617628832208841091 : Unit := ()
def PySem.W.Fast.tw1227391832587878191 : Unit := ()
def PySem.W.Fast.tw1900079688412650717 : Unit := ()
def PySem.W.Fast.tw1076585204363576024 : Unit := ()
def PySem.W.Fast.tw4879009739970954770 : Unit := ()
def PySem.W.Fast.tw10216575305391170560 : Unit := ()
def PySem.W.Fast.tw70327670963721672 : Unit := ()
def PySem.W.Fast.tw704546419930743647 : Unit := ()
def PySem.W.Fast.tw14783029305975523549 : Unit := ()
def PySem.W.Fast.tw2179059111000718834 : Unit := ()
def PySem.W.Fast.tw3267781908713894670 : Unit := ()
def PySem.W.Fast.tw1826512150170536377 : Unit := ()
def PySem.W.Fast.tw14786622847116506831 : Unit := ()
def PySem.W.Fast.tw9652329464639619916 : Unit := ()
def PySem.W.Fast.tw9388845377070703527 : Unit := ()
def PySem.W.Fast.tw17096021587222317747 : Unit := ()
def PySem.W.Fast.tw14975798136751794915 : Unit := ()
def PySem.W.Fast.tw12967568368799652111 : Unit := ()
def PySem.W.Fast.tw3736696252725770384 : Unit := ()
def PySem.W.Fast.tw13911270445492917759 : Unit := ()
def PySem.W.Fast.tw17738174913390019154 : Unit := ()
def PySem.W.Fast.tw1281288418650868689 : Unit := ()
def PySem.W.Fast.tw486574592555552919 : Unit := ()
def PySem.W.Fast.tw9852099813064425217 : Unit := ()
def PySem.W.Fast.tw13201347294522567003 : Unit := ()
def PySem.W.Fast.tw18300006588794145986 : Unit := ()
def PySem.W.Fast.tw17471625529890638121 : Unit := ()
def PySem.W.Fast.tw5785878043017039933 : Unit := ()
def PySem.W.Fast.tw1385175362437766501 : Unit := ()
def PySem.W.Fast.tw1462197037997114749 : Unit := ()
def PySem.W.Fast.tw15163509650171180429 : Unit := ()
def PySem.W.Fast.tw15829365590938911121 : Unit := ()
def PySem.W.Fast.tw11303624040918991831 : Unit := ()
def PySem.W.Fast.tw16966906723903788568 : Unit := ()
def PySem.W.Fast.tw18407794380788118047 : Unit := ()
def PySem.W.Fast.tw4071820085765980516 : Unit := ()
def PySem.W.Fast.tw10136923939361913883 : Unit := ()
def PySem.W.Fast.tw9303710251880226734 : Unit := ()
def PySem.W.Fast.tw3569477815743761665 : Unit := ()
def PySem.W.Fast.tw16282609956329284043 : Unit := ()
def PySem.W.Fast.tw889468171331047233 : Unit := ()
def PySem.W.Fast.tw12775257682609299497 : Unit := ()
def PySem.W.Fast.tw12539535832581123962 : Unit := ()
def PySem.W.Fast.tw3059616343158438795 : Unit := ()
def PySem.W.Fast.tw10140888791115108604 : Unit := ()
def PySem.W.Fast.tw11191338546039123111 : Unit := ()
def PySem.W.Fast.tw8858925889503835766 : Unit := ()
def PySem.W.Fast.tw1388815751959434574 : Unit := ()
def PySem.W.Fast.tw7639329002301799743 : Unit := ()
def PySem.W.Fast.tw7683289832820128857 : Unit := ()
def PySem.W.Fast.tw17970590924719247322 : Unit := ()
def PySem.W.Fast.tw9873814783956076296 : Unit := ()
def PySem.W.Fast.tw14728961009256821205 : Unit := ()
def PySem.W.Fast.tw15168245873471551492 : Unit := ()
def PySem.W.Fast.tw8871151697231377183 : Unit := ()
def PySem.W.Fast.tw11090504615117625973 : Unit := ()
def PySem.W.Fast.tw16194722445900285461 : Unit := ()
def PySem.W.Fast.tw15266745058493063365 : Unit := ()
def PySem.W.Fast.tw9249895141827211875 : Unit := ()
def PySem.W.Fast.tw13376585910789417447 : Unit := ()
def PySem.W.Fast.tw12806866597413322723 : Unit := ()
def PySem.W.Fast.tw16075918178217846596 : Unit := ()
def PySem.W.Fast.tw10155048019897887331 : Unit := ()
def PySem.W.Fast.tw14901160941355965240 : Unit := ()
def PySem.W.Fast.tw10951064283715284806 : Unit := ()
def PySem.W.Fast.tw13098154486816074895 : Unit := ()
def PySem.W.Fast.tw18124961157819051903 : Unit := ()
def PySem.W.Fast.tw13592925105756469620 : Unit := ()
def PySem.W.Fast.tw12410455887677091114 : Unit := ()
def PySem.W.Fast.tw13919056752348663153 : Unit := ()
def PySem.W.Fast.tw3879456716178665016 : Unit := ()
def PySem.W.Fast.tw784755856805281534 : Unit := ()
def PySem.W.Fast.tw3481996695344027114 : Unit := ()
def PySem.W.Fast.tw16975741039523642088 : Unit := ()
def PySem.W.Fast.tw16094404407499388048 : Unit := ()
def PySem.W.Fast.tw14232528053934354390 : Unit := ()
def PySem.W.Fast.tw2922123271082640384 : Unit := ()
def PySem.W.Fast.tw3186545625300952589 : Unit := ()
def PySem.W.Fast.tw9336831931660728012 : Unit := ()
def PySem.W.Fast.tw5047569030782941045 : Unit := ()
def PySem.W.Fast.tw4494302799580005425 : Unit := ()
def PySem.W.Fast.tw7491533318287245448 : Unit := ()
def PySem.W.Fast.tw11711000453003363228 : Unit := ()
def PySem.W.Fast.tw4537450521887673923 : Unit := ()
def PySem.W.Fast.tw7099313233253150665 : Unit := ()
def PySem.W.Fast.tw6564648194411533652 : Unit := ()
def PySem.W.Fast.tw3493409738183235488 : Unit := ()
def PySem.W.Fast.tw3639063384099593015 : Unit := ()
def PySem.W.Fast.tw1207534684559742244 : Unit := ()
def PySem.W.Fast.tw8715871173782341010 : Unit := ()
def PySem.W.Fast.tw14944547312190331877 : Unit := ()
def PySem.W.Fast.tw14618446816256697758 : Unit := ()
def PySem.W.Fast.tw6790937077988456235 : Unit := ()
def PySem.W.Fast.tw2227317416628740183 : Unit := ()
def PySem.W.Fast.tw11440803973938935000 : Unit := ()
def PySem.W.Fast.tw4449452882461858956 : Unit := ()
def PySem.W.Fast.tw689039415746212284 : Unit := ()
def PySem.W.Fast.tw14186171641031714205 : Unit := ()
def PySem.W.Fast.tw16226682052260926498 : Unit := ()
def PySem.W.Fast.tw1559460765926010148 : Unit := ()
def PySem.W.Fast.tw10684181903089814083 : Unit := ()
def PySem.W.Fast.tw9072052184205580663 : Unit := ()
def PySem.W.Fast.tw10286173398329622386 : Unit := ()
def PySem.W.Fast.tw286248577802036311 : Unit := ()
def PySem.W.Fast.tw14139358501662129307 : Unit := ()
def PySem.W.Fast.tw4923725888015856685 : Unit := ()
def PySem.W.Fast.tw14144735909965374582 : Unit := ()
def PySem.W.Fast.tw10652162385438913587 : Unit := ()
def PySem.W.Fast.tw8722765247504308358 : Unit := ()
def PySem.W.Fast.tw12891590100425989637 : Unit := ()
def PySem.W.Fast.tw5852284758514741908 : Unit := ()
def PySem.W.Fast.tw17881043121979397252 : Unit := ()
def PySem.W.Fast.tw17805425552595792476 : Unit := ()
def PySem.W.Fast.tw3084770704252843362 : Unit := ()
def PySem.W.Fast.tw12055988410253481241 : Unit := ()
def PySem.W.Fast.tw3814520140174985319 : Unit := ()
def PySem.W.Fast.tw4886372902265804094 : Unit := ()
def PySem.W.Fast.tw14303798642839754715 : Unit := ()
def PySem.W.Fast.tw3411412605093383763 : Unit := ()
def PySem.W.Fast.tw14212740812960699623 : Unit := ()
def PySem.W.Fast.tw16634515114350665319 : Unit := ()
def PySem.W.Fast.tw4217932686861897913 : Unit := ()
def PySem.W.Fast.tw4955985751485047071 : Unit := ()
def PySem.W.Fast.tw12097894179295396911 : Unit := ()
def PySem.W.Fast.tw5572014529976117628 : Unit := ()
def PySem.W.Fast.tw13643280493375340231 : Unit := ()
def PySem.W.Fast.tw8442002853929486085 : Unit := ()
def PySem.W.Fast.tw7054052566142055139 : Unit := ()
def PySem.W.Fast.tw11746050247451868558 : Unit := ()
def PySem.W.Fast.tw2656293531448663377 : Unit := ()
def PySem.W.Fast.tw5394091303801636641 : Unit := ()
def PySem.W.Fast.tw15487574719961474657 : Unit := ()
def PySem.W.Fast.tw15101131488348363196 : Unit := ()
def PySem.W.Fast.tw8877648288281574155 : Unit := ()
def PySem.W.Fast.tw16622164441572786983 : Unit := ()
def PySem.W.Fast.tw13319883775207688803 : Unit := ()
def PySem.W.Fast.tw14264139151732366314 : Unit := ()
def PySem.W.Fast.tw13612803243694221301 : Unit := ()
def PySem.W.Fast.tw10299073039128649625 : Unit := ()
def PySem.W.Fast.tw5817496715751369352 : Unit := ()
def PySem.W.Fast.tw10027916360698019054 : Unit := ()
def PySem.W.Fast.tw3467914457286690053 : Unit := ()
def PySem.W.Fast.tw14020363820614174281 : Unit := ()
def PySem.W.Fast.tw16026521664512191474 : Unit := ()
def PySem.W.Fast.tw10861664098290462992 : Unit := ()
def PySem.W.Fast.tw1959126072183801380 : Unit := ()
def PySem.W.Fast.tw5199852104623400685 : Unit := ()
def PySem.W.Fast.tw6298904939407088877 : Unit := ()
def PySem.W.Fast.tw2341186872935220581 : Unit := ()
def PySem.W.Fast.tw8850717470438972428 : Unit := ()
def PySem.W.Fast.tw12603640979550975223 : Unit := ()
def PySem.W.Fast.tw9036143355839707440 : Unit := ()
def PySem.W.Fast.tw15871258114662161055 : Unit := ()
def PySem.W.Fast.tw17794975722216958726 : Unit := ()
def PySem.W.Fast.tw15518520107935340291 : Unit := ()
def PySem.W.Fast.tw16822671290795392306 : Unit := ()
def PySem.W.Fast.tw2536287292037748475 : Unit := ()
def PySem.W.Fast.tw9248388879088902898 : Unit := ()
def PySem.W.Fast.tw3605424029528824584 : Unit := ()
def PySem.W.Fast.tw13351058822407441661 : Unit := ()
def PySem.W.Fast.tw7702209836266044755 : Unit := ()
def PySem.W.Fast.tw4411305281587664469 : Unit := ()
def PySem.W.Fast.tw809403185356180258 : Unit := ()
def PySem.W.Fast.tw967828828660252261 : Unit := ()
def PySem.W.Fast.tw1078011961084346011 : Unit := ()
def PySem.W.Fast.tw13623222459219785890 : Unit := ()
def PySem.W.Fast.tw15061207215155674328 : Unit := ()
def PySem.W.Fast.tw4814466976883192539 : Unit := ()
def PySem.W.Fast.tw12970598671702728638 : Unit := ()
def PySem.W.Fast.tw13867767515410842068 : Unit := ()
def PySem.W.Fast.tw7207479367079268875 : Unit := ()
def PySem.W.Fast.tw5490637572955616146 : Unit := ()
def PySem.W.Fast.tw13327396275791807102 : Unit := ()
def PySem.W.Fast.tw17471946957018136674 : Unit := ()
def PySem.W.Fast.tw9078901863884456069 : Unit := ()
def PySem.W.Fast.tw881982886139532763 : Unit := ()
def PySem.W.Fast.tw10496808076243971592 : Unit := ()
def PySem.W.Fast.tw11696605098897904027 : Unit := ()
def PySem.W.Fast.tw3405898385521212345 : Unit := ()
def PySem.W.Fast.tw17411117142815784350 : Unit := ()
def PySem.W.Fast.tw8264433053170808097 : Unit := ()
def PySem.W.Fast.tw17519497922283090420 : Unit := ()
def PySem.W.Fast.tw4279301287921699356 : Unit := ()
def PySem.W.Fast.tw2724559657466163154 : Unit := ()
def PySem.W.Fast.tw2100804293400672084 : Unit := ()
def PySem.W.Fast.tw7655656082743963334 : Unit := ()
def PySem.W.Fast.tw4738981840020290783 : Unit := ()
def PySem.W.Fast.tw11595398178020599727 : Unit := ()
def PySem.W.Fast.tw17974645587439268799 : Unit := ()
def PySem.W.Fast.tw12441214902839491419 : Unit := ()
def PySem.W.Fast.tw17232204493848599596 : Unit := ()
def PySem.W.Fast.tw7444999478730809095 : Unit := ()
def PySem.W.Fast.tw6275110877320260653 : Unit := ()
def PySem.W.Fast.tw17839249782781360980 : Unit := ()
def PySem.W.Fast.tw2354381735954943475 : Unit := ()
def PySem.W.Fast.tw1756451930418063970 : Unit := ()
def PySem.W.Fast.tw13452909379636174095 : Unit := ()
def PySem.W.Fast.tw18356644736328922172 : Unit := ()
def PySem.W.Fast.tw6883548703821159797 : Unit := ()
def PySem.W.Fast.tw2053768703936344649 : Unit := ()
def PySem.W.Fast.tw6637971361955060437 : Unit := ()
def PySem.W.Fast.tw12118754048014388822 : Unit := ()
def PySem.W.Fast.tw11858101025889699549 : Unit := ()
def PySem.W.Fast.tw18002110969300395742 : Unit := ()
def PySem.W.Fast.tw12020215583601536993 : Unit := ()
def PySem.W.Fast.tw15125731582110767418 : Unit := ()
def PySem.W.Fast.tw3364219674798718616 : Unit := ()
def PySem.W.Fast.tw14244253510268869125 : Unit := ()
def PySem.W.Fast.tw16803287410498276607 : Unit := ()
def PySem.W.Fast.tw12645519927315082570 : Unit := ()
def PySem.W.Fast.tw13380081462662209847 : Unit := ()
def PySem.W.Fast.tw9589898302079847517 : Unit := ()
def PySem.W.Fast.tw13770837135909642318 : Unit := ()
def PySem.W.Fast.tw10196219771746504368 : Unit := ()
def PySem.W.Fast.tw8641379300365641477 : Unit := ()
def PySem.W.Fast.tw18347904507280564464 : Unit := ()
def PySem.W.Fast.tw12649353817325333070 : Unit := ()
def PySem.W.Fast.tw4087667755578112271 : Unit := ()
def PySem.W.Fast.tw16968965673319635596 : Unit := ()
def PySem.W.Fast.tw10986275936453314736 : Unit := ()
def PySem.W.Fast.tw16257720363177103589 : Unit := ()
def PySem.W.Fast.tw14330866101294266772 : Unit := ()
def PySem.W.Fast.tw9851677344321057164 : Unit := ()
def PySem.W.Fast.tw2217916667184294962 : Unit := ()
def PySem.W.Fast.tw12296522441411873914 : Unit := ()
def PySem.W.Fast.tw11324095370645810674 : Unit := ()
def PySem.W.Fast.tw2200607594779003750 : Unit := ()
def PySem.W.Fast.tw6711777474124341565 : Unit := ()
def PySem.W.Fast.tw3339904945680051473 : Unit := ()
def PySem.W.Fast.tw10842159873665812077 : Unit := ()
def PySem.W.Fast.tw7814260141135165745 : Unit := ()
def PySem.W.Fast.tw10307008200657558469 : Unit := ()
def PySem.W.Fast.tw15120863258209943359 : Unit := ()
def PySem.W.Fast.tw6749998292224298693 : Unit := ()
def PySem.W.Fast.tw5396642197015062539 : Unit := ()
def PySem.W.Fast.tw4343370291946655426 : Unit := ()
def PySem.W.Fast.tw13488174159679534726 : Unit := ()
def PySem.W.Fast.tw12421791759178655760 : Unit := ()
def PySem.W.Fast.tw4374601840858533478 : Unit := ()
def PySem.W.Fast.tw16210052323044060730 : Unit := ()
def PySem.W.Fast.tw11791148239258683888 : Unit := ()
def PySem.W.Fast.tw10359499159034842504 : Unit := ()
def PySem.W.Fast.tw10053146229093642582 : Unit := ()
def PySem.W.Fast.tw10838863662410318981 : Unit := ()
def PySem.W.Fast.tw18082258151795306374 : Unit := ()
def PySem.W.Fast.tw13688886614757410333 : Unit := ()
def PySem.W.Fast.tw2099380999230255633 : Unit := ()
def PySem.W.Fast.tw13470892584797655010 : Unit := ()
def PySem.W.Fast.tw263925187147820591 : Unit := ()
def PySem.W.Fast.tw15047671403357397570 : Unit := ()
def PySem.W.Fast.tw13508211342959823806 : Unit := ()
def PySem.W.Fast.tw15218402261760789416 : Unit := ()
def PySem.W.Fast.tw6552662518070691848 : Unit := ()
def PySem.W.Fast.tw2861340653078193981 : Unit := ()
def PySem.W.Fast.tw15483564765621332780 : Unit := ()
def PySem.W.Fast.tw9712173610397345551 : Unit := ()
def PySem.W.Fast.tw6216248135534465675 : Unit := ()
def PySem.W.Fast.tw5450825309776010587 : Unit := ()
def PySem.W.Fast.tw16582795316205421658 : Unit := ()
def PySem.W.Fast.tw4734973922255371729 : Unit := ()
def PySem.W.Fast.tw11023052548106105256 : Unit := ()
def PySem.W.Fast.tw1357380933391865375 : Unit := ()
def PySem.W.Fast.tw11367002828045938642 : Unit := ()
def PySem.W.Fast.tw7685879094020413446 : Unit := ()
def PySem.W.Fast.tw12844219592946341009 : Unit := ()
def PySem.W.Fast.tw13639251784714906634 : Unit := ()
def PySem.W.Fast.tw9174284873420220582 : Unit := ()
def PySem.W.Fast.tw6217735058381347320 : Unit := ()
def PySem.W.Fast.tw3672526408505644195 : Unit := ()
def PySem.W.Fast.tw719007472992172371 : Unit := ()
def PySem.W.Fast.tw6638962749173258074 : Unit := ()
def PySem.W.Fast.tw7251970253297493334 : Unit := ()
def PySem.W.Fast.tw2180262123910213532 : Unit := ()
def PySem.W.Fast.tw10455686106510580119 : Unit := ()
def PySem.W.Fast.tw14081817890935549252 : Unit := ()
def PySem.W.Fast.tw13535886942027249881 : Unit := ()
def PySem.W.Fast.tw16174093256346192923 : Unit := ()
def PySem.W.Fast.tw6061406467277579773 : Unit := ()
def PySem.W.Fast.tw15337327585335369462 : Unit := ()
def PySem.W.Fast.tw16371947167115908868 : Unit := ()
def PySem.W.Fast.tw6929906188686048465 : Unit := ()
def PySem.W.Fast.tw7947601312206741365 : Unit := ()
def PySem.W.Fast.tw4529520115750466805 : Unit := ()
def PySem.W.Fast.tw7287780444820961077 : Unit := ()
def PySem.W.Fast.tw16280085550354027670 : Unit := ()
def PySem.W.Fast.tw17613371501886554686 : Unit := ()
def PySem.W.Fast.tw2845470477230310965 : Unit := ()
def PySem.W.Fast.tw3152515080756221085 : Unit := ()
def PySem.W.Fast.tw923823564062350632 : Unit := ()
def PySem.W.Fast.tw16754212151207971940 : Unit := ()
def PySem.W.Fast.tw6138462981757700617 : Unit := ()
def PySem.W.Fast.tw1369455826484550407 : Unit := ()
def PySem.W.Fast.tw13517871023921743815 : Unit := ()
def PySem.W.Fast.tw14664476893860075292 : Unit := ()
def PySem.W.Fast.tw1667747530061975174 : Unit := ()
def PySem.W.Fast.tw18131141816794706967 : Unit := ()
def PySem.W.Fast.tw13430325634786124559 : Unit := ()
def PySem.W.Fast.tw12805582484276525796 : Unit := ()
def PySem.W.Fast.tw4614715862080191488 : Unit := ()
def PySem.W.Fast.tw5135429065359863667 : Unit := ()
def PySem.W.Fast.tw11428887328382423597 : Unit := ()
def PySem.W.Fast.tw8796072241355065324 : Unit := ()
def PySem.W.Fast.tw17018580633920589343 : Unit := ()
def PySem.W.Fast.tw979099711335502798 : Unit := ()
def PySem.W.Fast.tw1072484917885220024 : Unit := ()
def PySem.W.Fast.tw12410794695842922219 : Unit := ()
def PySem.W.Fast.tw17534435361449725576 : Unit := ()
def PySem.W.Fast.tw14299323687006766896 : Unit := ()
def PySem.W.Fast.tw14741893283272166303 : Unit := ()
def PySem.W.Fast.tw11367600419387198519 : Unit := ()
def PySem.W.Fast.tw11610270030335401665 : Unit := ()
def PySem.W.Fast.tw7496248749329571734 : Unit := ()
def PySem.W.Fast.tw13320921184300060279 : Unit := ()
def PySem.W.Fast.tw14021466321000779889 : Unit := ()
def PySem.W.Fast.tw8466197769294759380 : Unit := ()
def PySem.W.Fast.tw15876439420386281441 : Unit := ()
def PySem.W.Fast.tw839862742231028332 : Unit := ()
def PySem.W.Fast.tw26884327060599726 : Unit := ()
def PySem.W.Fast.tw4028758921618706683 : Unit := ()
def PySem.W.Fast.tw7005436194451482037 : Unit := ()
def PySem.W.Fast.tw5525797564593892825 : Unit := ()
def PySem.W.Fast.tw5767780989738076219 : Unit := ()
def PySem.W.Fast.tw2634307909080048435 : Unit := ()
def PySem.W.Fast.tw5685994570663340801 : Unit := ()
def PySem.W.Fast.tw10552408086977792373 : Unit := ()
def PySem.W.Fast.tw1163851406439943293 : Unit := ()
def PySem.W.Fast.tw10104737202931375833 : Unit := ()
def PySem.W.Fast.tw8538076225863739445 : Unit := ()
def PySem.W.Fast.tw3971648328936827051 : Unit := ()
def PySem.W.Fast.tw8005415710874314893 : Unit := ()
def PySem.W.Fast.tw14858237031407473418 : Unit := ()
def PySem.W.Fast.tw9212906787214860943 : Unit := ()
def PySem.W.Fast.tw16752021193812422919 : Unit := ()
def PySem.W.Fast.tw16251802479578193966 : Unit := ()
def PySem.W.Fast.tw3374429121311866356 : Unit := ()
def PySem.W.Fast.tw23569888417999817 : Unit := ()
def PySem.W.Fast.tw1548293096322778925 : Unit := ()
def PySem.W.Fast.tw3665509787961606913 : Unit := ()
def PySem.W.Fast.tw2105997531634158059 : Unit := ()
def PySem.W.Fast.tw10460917624989091924 : Unit := ()
def PySem.W.Fast.tw18323933713525740981 : Unit := ()
def PySem.W.Fast.tw15045705091181031474 : Unit := ()
def PySem.W.Fast.tw15653868938234887626 : Unit := ()
def PySem.W.Fast.tw3932991139804216821 : Unit := ()
def PySem.W.Fast.tw4293220429531118222 : Unit := ()
def PySem.W.Fast.tw18198465490227993133 : Unit := ()
def PySem.W.Fast.tw4680850152238722878 : Unit := ()
def PySem.W.Fast.tw2611983648679420632 : Unit := ()
def PySem.W.Fast.tw11692977215572678977 : Unit := ()
def PySem.W.Fast.tw852059946319996128 : Unit := ()
def PySem.W.Fast.tw451744716423090693 : Unit := ()
def PySem.W.Fast.tw305976576326053778 : Unit := ()
def PySem.W.Fast.tw13377025057163518180 : Unit := ()
def PySem.W.Fast.tw17514828209775338397 : Unit := ()
def PySem.W.Fast.tw2876852093946472826 : Unit := ()
def PySem.W.Fast.tw616563877813368715 : Unit := ()
def PySem.W.Fast.tw13311032984924532471 : Unit := ()
def PySem.W.Fast.tw13484220163724725934 : Unit := ()
def PySem.W.Fast.tw5953503983670316344 : Unit := ()
def PySem.W.Fast.tw17663571749852345141 : Unit := ()
def PySem.W.Fast.tw10524967952821978596 : Unit := ()
def PySem.W.Fast.tw12175470789762596257 : Unit := ()
def PySem.W.Fast.tw3068349215471176213 : Unit := ()
def PySem.W.Fast.tw13812505458547596044 : Unit := ()
def PySem.W.Fast.tw7752908451552925937 : Unit := ()
def PySem.W.Fast.tw8615804035245779260 : Unit := ()
def PySem.W.Fast.tw11664796610521986981 : Unit := ()
def PySem.W.Fast.tw10988674547524953504 : Unit := ()
def PySem.W.Fast.tw15276988861644418583 : Unit := ()
def PySem.W.Fast.tw7972393528719863094 : Unit := ()
def PySem.W.Fast.tw6986250203106767226 : Unit := ()
def PySem.W.Fast.tw12438344607319498488 : Unit := ()
def PySem.W.Fast.tw5094214398886503286 : Unit := ()
def PySem.W.Fast.tw15988127122099495349 : Unit := ()
def PySem.W.Fast.tw2892640359585244171 : Unit := ()
def PySem.W.Fast.tw7712506235223860602 : Unit := ()
def PySem.W.Fast.tw7289255230806213368 : Unit := ()
def PySem.W.Fast.tw1211098439635152973 : Unit := ()
def PySem.W.Fast.tw15884782736073702642 : Unit := ()
def PySem.W.Fast.tw603008193201487668 : Unit := ()
def PySem.W.Fast.tw1010448646455623402 : Unit := ()
def PySem.W.Fast.tw11930929017506631216 : Unit := ()
def PySem.W.Fast.tw4626373906764931858 : Unit := ()
def PySem.W.Fast.tw16492085655777179193 : Unit := ()
def PySem.W.Fast.tw6713486231633783116 : Unit := ()
def PySem.W.Fast.tw2734705761929960520 : Unit := ()
def PySem.W.Fast.tw15219087241806856531 : Unit := ()
def PySem.W.Fast.tw12313695281555342781 : Unit := ()
def PySem.W.Fast.tw10375345510393988839 : Unit := ()
def PySem.W.Fast.tw3115516062297919631 : Unit := ()
def PySem.W.Fast.tw16000785293601495454 : Unit := ()
def PySem.W.Fast.tw17760867921412001487 : Unit := ()
def PySem.W.Fast.tw5151200542915536598 : Unit := ()
def PySem.W.Fast.tw10336214423350162580 : Unit := ()
def PySem.W.Fast.tw260695250810507365 : Unit := ()
def PySem.W.Fast.tw4268787744638415041 : Unit := ()
def PySem.W.Fast.tw17037285371835800756 : Unit := ()
def PySem.W.Fast.tw10044912450334152430 : Unit := ()
def PySem.W.Fast.tw8223209058938156760 : Unit := ()
def PySem.W.Fast.tw1185577197954619654 : Unit := ()
def PySem.W.Fast.tw4647625391329372068 : Unit := ()
def PySem.W.Fast.tw12013036819706197010 : Unit := ()
def PySem.W.Fast.tw11525121605559189479 : Unit := ()
def PySem.W.Fast.tw17162501027953719608 : Unit := ()
def PySem.W.Fast.tw15703447085865186739 : Unit := ()
def PySem.W.Fast.tw5347091906766177054 : Unit := ()
def PySem.W.Fast.tw6692779078631595682 : Unit := ()
def PySem.W.Fast.tw5507319178538592037 : Unit := ()
def PySem.W.Fast.tw11466615261366954793 : Unit := ()
def PySem.W.Fast.tw207910624143769148 : Unit := ()
def PySem.W.Fast.tw7111333988212658688 : Unit := ()
def PySem.W.Fast.tw2234393480483863867 : Unit := ()
def PySem.W.Fast.tw12029135661178901559 : Unit := ()
def PySem.W.Fast.tw15395975640443873278 : Unit := ()
def PySem.W.Fast.tw11370517015925654920 : Unit := ()
def PySem.W.Fast.tw9720423655039966443 : Unit := ()
def PySem.W.Fast.tw10631992058296527925 : Unit := ()
def PySem.W.Fast.tw16804674199323571537 : Unit := ()
def PySem.W.Fast.tw1557934948867840997 : Unit := ()
def PySem.W.Fast.tw8446877852485777131 : Unit := ()
def PySem.W.Fast.tw14205191204364098901 : Unit := ()
def PySem.W.Fast.tw4490291253606042754 : Unit := ()
def PySem.W.Fast.tw13501782774837884010 : Unit := ()
def PySem.W.Fast.tw17095775466812468850 : Unit := ()
def PySem.W.Fast.tw5105440731500690275 : Unit := ()
def PySem.W.Fast.tw16458453063019711053 : Unit := ()
def PySem.W.Fast.tw2683039533080886296 : Unit := ()
def PySem.W.Fast.tw1884726901448852154 : Unit := ()
def PySem.W.Fast.tw6961839855528585114 : Unit := ()
def PySem.W.Fast.tw13093765865314333060 : Unit := ()
def PySem.W.Fast.tw9064310028765599971 : Unit := ()
def PySem.W.Fast.tw6938942479995097661 : Unit := ()
def PySem.W.Fast.tw11357235285623011188 : Unit := ()
def PySem.W.Fast.tw10624747305448098316 : Unit := ()
def PySem.W.Fast.tw14730669136861095265 : Unit := ()
def PySem.W.Fast.tw4835819256136575368 : Unit := ()
def PySem.W.Fast.tw16656313499939426058 : Unit := ()
def PySem.W.Fast.tw11750468139278477826 : Unit := ()
def PySem.W.Fast.tw6496125762284074112 : Unit := ()
def PySem.W.Fast.tw7809647180833074248 : Unit := ()
def PySem.W.Fast.tw5570325915276127544 : Unit := ()
def PySem.W.Fast.tw13957172350656571855 : Unit := ()
def PySem.W.Fast.tw8328390396826662000 : Unit := ()
def PySem.W.Fast.tw6443691374101867821 : Unit := ()
def PySem.W.Fast.tw16213288855799388026 : Unit := ()
def PySem.W.Fast.tw6551423170470668324 : Unit := ()
def PySem.W.Fast.tw9734585390924752947 : Unit := ()
def PySem.W.Fast.tw12426336631153410473 : Unit := ()
def PySem.W.Fast.tw11300125989861412873 : Unit := ()
def PySem.W.Fast.tw3631608094164017198 : Unit := ()
def PySem.W.Fast.tw13358796385800240391 : Unit := ()
def PySem.W.Fast.tw6360191834728126999 : Unit := ()
def PySem.W.Fast.tw17033411620430449293 : Unit := ()
def PySem.W.Fast.tw15643140602742165575 : Unit := ()
def PySem.W.Fast.tw13529008822415817528 : Unit := ()
def PySem.W.Fast.tw10688894781983302205 : Unit := ()
def PySem.W.Fast.tw12157669456007124861 : Unit := ()
def PySem.W.Fast.tw4370782789332633177 : Unit := ()
def PySem.W.Fast.tw4678087025268596408 : Unit := ()
def PySem.W.Fast.tw14772405616608435925 : Unit := ()
def PySem.W.Fast.tw7552688820075931604 : Unit := ()
def PySem.W.Fast.tw107214428122568242 : Unit := ()
def PySem.W.Fast.tw17841893045532982670 : Unit := ()
def PySem.W.Fast.tw3028171148815359492 : Unit := ()
def PySem.W.Fast.tw5817121013832905617 : Unit := ()
def PySem.W.Fast.tw12208558863974066741 : Unit := ()
def PySem.W.Fast.tw6786894657043954770 : Unit := ()
def PySem.W.Fast.tw2172908713650093555 : Unit := ()
def PySem.W.Fast.tw990132026177518957 : Unit := ()
def PySem.W.Fast.tw11634600401509451989 : Unit := ()
def PySem.W.Fast.tw1099158449142211310 : Unit := ()
def PySem.W.Fast.tw6930745046503061332 : Unit := ()
def PySem.W.Fast.tw12670106580985863201 : Unit := ()
def PySem.W.Fast.tw13543839473930660925 : Unit := ()
def PySem.W.Fast.tw4314670520405470456 : Unit := ()
def PySem.W.Fast.tw5805040551938051225 : Unit := ()
def PySem.W.Fast.tw7919404610968526187 : Unit := ()
def PySem.W.Fast.tw17687693231799466831 : Unit := ()
def PySem.W.Fast.tw12270988663004348650 : Unit := ()
def PySem.W.Fast.tw12174426623117327263 : Unit := ()
def PySem.W.Fast.tw13790404816848427910 : Unit := ()
def PySem.W.Fast.tw8350676307518125446 : Unit := ()
def PySem.W.Fast.tw3522260502584446227 : Unit := ()
def PySem.W.Fast.tw12532947403910731588 : Unit := ()
def PySem.W.Fast.tw9570838549508098456 : Unit := ()
def PySem.W.Fast.tw2285695338372098813 : Unit := ()
def PySem.W.Fast.tw11166799016985198841 : Unit := ()
def PySem.W.Fast.tw13769945061851346435 : Unit := ()
def PySem.W.Fast.tw5592256153811095818 : Unit := ()
def PySem.W.Fast.tw9334524325838665214 : Unit := ()
def PySem.W.Fast.tw17566626921938514305 : Unit := ()
def PySem.W.Fast.tw12789522183851666518 : Unit := ()
def PySem.W.Fast.tw2552695276060553473 : Unit := ()
def PySem.W.Fast.tw18022610554645273726 : Unit := ()
def PySem.W.Fast.tw14248941359302555550 : Unit := ()
def PySem.W.Fast.tw17619266612346538192 : Unit := ()
def PySem.W.Fast.tw6795641016066504066 : Unit := ()
def PySem.W.Fast.tw10975256037651787175 : Unit := ()
def PySem.W.Fast.tw3456131609142588207 : Unit := ()
def PySem.W.Fast.tw11574045952996550442 : Unit := ()
def PySem.W.Fast.tw609782827665805333 : Unit := ()
def PySem.W.Fast.tw9225336560319127088 : Unit := ()
def PySem.W.Fast.tw5365994134261283499 : Unit := ()
def PySem.W.Fast.tw2513310965514820083 : Unit := ()
def PySem.W.Fast.tw6049120549471013410 : Unit := ()
def PySem.W.Fast.tw6544468104544746977 : Unit := ()
def PySem.W.Fast.tw10160074593534993798 : Unit := ()
def PySem.W.Fast.tw15123727157533379816 : Unit := ()
def PySem.W.Fast.tw13614749386666446174 : Unit := ()
def PySem.W.Fast.tw16213580842554220143 : Unit := ()
def PySem.W.Fast.tw6656551429091812510 : Unit := ()
def PySem.W.Fast.tw10713402436318906104 : Unit := ()
def PySem.W.Fast.tw9282968072227828723 : Unit := ()
def PySem.W.Fast.tw222673053676588918 : Unit := ()
def PySem.W.Fast.tw5782492164861848246 : Unit := ()
def PySem.W.Fast.tw4857289827861416773 : Unit := ()
def PySem.W.Fast.tw7695840240038797088 : Unit := ()
def PySem.W.Fast.tw464265678330467192 : Unit := ()
def PySem.W.Fast.tw15020734773888582545 : Unit := ()
def PySem.W.Fast.tw199467227933221436 : Unit := ()
def PySem.W.Fast.tw4557615833646921304 : Unit := ()
def PySem.W.Fast.tw1027384788319391225 : Unit := ()
def PySem.W.Fast.tw16007179329429728732 : Unit := ()
def PySem.W.Fast.tw9718568117028732386 : Unit := ()
def PySem.W.Fast.tw8396507320816472214 : Unit := ()
def PySem.W.Fast.tw4030766898069426326 : Unit := ()
def PySem.W.Fast.tw10952389663428634903 : Unit := ()
def PySem.W.Fast.tw1327355256437477195 : Unit := ()
def PySem.W.Fast.tw6240085666523605999 : Unit := ()
def PySem.W.Fast.tw1334613003714886299 : Unit := ()
def PySem.W.Fast.tw992210109693187117 : Unit := ()
def PySem.W.Fast.tw7100048315037174684 : Unit := ()
def PySem.W.Fast.tw3251646102179981553 : Unit := ()
def PySem.W.Fast.tw9291227116465303174 : Unit := ()
def PySem.W.Fast.tw9658790116945553818 : Unit := ()
def PySem.W.Fast.tw6521983409252060611 : Unit := ()
def PySem.W.Fast.tw9276258184361971822 : Unit := ()
def PySem.W.Fast.tw4183677263309528384 : Unit := ()
def PySem.W.Fast.tw16494084693215386183 : Unit := ()
def PySem.W.Fast.tw16792268044671035922 : Unit := ()
def PySem.W.Fast.tw8468463104857955843 : Unit := ()
def PySem.W.Fast.tw7469622485198355514 : Unit := ()
def PySem.W.Fast.tw7799149779484443540 : Unit := ()
def PySem.W.Fast.tw13909693039534179829 : Unit := ()
def PySem.W.Fast.tw4154093629535237413 : Unit := ()
def PySem.W.Fast.tw8102093165099958686 : Unit := ()
def PySem.W.Fast.tw7431889217854848396 : Unit := ()
def PySem.W.Fast.tw9235714681326828268 : Unit := ()
def PySem.W.Fast.tw9574630133956515886 : Unit := ()
def PySem.W.Fast.tw2965691348240403434 : Unit := ()
def PySem.W.Fast.tw13424405761109777315 : Unit := ()
def PySem.W.Fast.tw2589322246151799723 : Unit := ()
def PySem.W.Fast.tw9020713083391930626 : Unit := ()
def PySem.W.Fast.tw6042445099455393340 : Unit := ()
def PySem.W.Fast.tw854773268079518968 : Unit := ()
def PySem.W.Fast.tw8041703363432196475 : Unit := ()
def PySem.W.Fast.tw10147184449175091679 : Unit := ()
def PySem.W.Fast.tw8620290374727548951 : Unit := ()
def PySem.W.Fast.tw5594642308779054635 : Unit := ()
def PySem.W.Fast.tw4226194756119333123 : Unit := ()
def PySem.W.Fast.tw17668133413203817100 : Unit := ()
def PySem.W.Fast.tw3478173985065978800 : Unit := ()
def PySem.W.Fast.tw3958936986794336441 : Unit := ()
def PySem.W.Fast.tw3882726925340372627 : Unit := ()
def PySem.W.Fast.tw6929109215848874499 : Unit := ()
def PySem.W.Fast.tw3728322498808445738 : Unit := ()
def PySem.W.Fast.tw12424183687260564678 : Unit := ()
def PySem.W.Fast.tw9329922933303107074 : Unit := ()
def PySem.W.Fast.tw8737866343013388421 : Unit := ()
def PySem.W.Fast.tw7024027315664236825 : Unit := ()
def PySem.W.Fast.tw12522965692253762643 : Unit := ()
def PySem.W.Fast.tw2788084767858174780 : Unit := ()
def PySem.W.Fast.tw12136393975199973806 : Unit := ()
def PySem.W.Fast.tw15335377479344362256 : Unit := ()
def PySem.W.Fast.tw1498726881239633028 : Unit := ()
def PySem.W.Fast.tw9595445359528154500 : Unit := ()
def PySem.W.Fast.tw11255885627037842114 : Unit := ()
def PySem.W.Fast.tw15354829170446928938 : Unit := ()
def PySem.W.Fast.tw6462166554080569637 : Unit := ()
def PySem.W.Fast.tw16494247002502534488 : Unit := ()
def PySem.W.Fast.tw556557018525987782 : Unit := ()
def PySem.W.Fast.tw10366687661153555704 : Unit := ()
def PySem.W.Fast.tw4470644390023288327 : Unit := ()
def PySem.W.Fast.tw8015147592680348733 : Unit := ()
def PySem.W.Fast.tw12721855426691889334 : Unit := ()
def PySem.W.Fast.tw16701418379618201433 : Unit := ()
def PySem.W.Fast.tw15561217822275766035 : Unit := ()
def PySem.W.Fast.tw4155240288807261776 : Unit := ()
def PySem.W.Fast.tw8143735910106415100 : Unit := ()
def PySem.W.Fast.tw9099331048219780030 : Unit := ()
def PySem.W.Fast.tw8522705675814427214 : Unit := ()
def PySem.W.Fast.tw11627631507922913449 : Unit := ()
def PySem.W.Fast.tw3654679696037705015 : Unit := ()
def PySem.W.Fast.tw6383361558024181032 : Unit := ()
def PySem.W.Fast.tw4792736950004080753 : Unit := ()
def PySem.W.Fast.tw16823722182784431938 : Unit := ()
def PySem.W.Fast.tw4744565288635992059 : Unit := ()
def PySem.W.Fast.tw7878969912894145955 : Unit := ()
def PySem.W.Fast.tw10362606425539386159 : Unit := ()
def PySem.W.Fast.tw8770316080029573708 : Unit := ()
def PySem.W.Fast.tw4475358648371260417 : Unit := ()
def PySem.W.Fast.tw7687398820862147690 : Unit := ()
def PySem.W.Fast.tw13480331245533678603 : Unit := ()
def PySem.W.Fast.tw9699591837851353726 : Unit := ()
def PySem.W.Fast.tw14558373510710645536 : Unit := ()
def PySem.W.Fast.tw10702501671844369683 : Unit := ()
def PySem.W.Fast.tw14645745029811489090 : Unit := ()
def PySem.W.Fast.tw11314888226185320242 : Unit := ()
def PySem.W.Fast.tw1817692896917101505 : Unit := ()
def PySem.W.Fast.tw2116323544501683213 : Unit := ()
def PySem.W.Fast.tw3585824051429206327 : Unit := ()
def PySem.W.Fast.tw2264433702388088212 : Unit := ()
def PySem.W.Fast.tw14325562215015216411 : Unit := ()
def PySem.W.Fast.tw10262601588116742929 : Unit := ()
def PySem.W.Fast.tw2579241106988646976 : Unit := ()
def PySem.W.Fast.tw10837571121994772213 : Unit := ()
def PySem.W.Fast.tw13223002940238461771 : Unit := ()
def PySem.W.Fast.tw7104868980432123102 : Unit := ()
def PySem.W.Fast.tw7273799306958239699 : Unit := ()
def PySem.W.Fast.tw17405416193900256001 : Unit := ()
def PySem.W.Fast.tw6564078548074883452 : Unit := ()
def PySem.W.Fast.tw2004458839119015757 : Unit := ()
def PySem.W.Fast.tw9570594510280710689 : Unit := ()
def PySem.W.Fast.tw8120072346493034673 : Unit := ()
def PySem.W.Fast.tw12350195677945829277 : Unit := ()
def PySem.W.Fast.tw777915129464118592 : Unit := ()
def PySem.W.Fast.tw14996229679705408306 : Unit := ()
def PySem.W.Fast.tw1693024779394200226 : Unit := ()
def PySem.W.Fast.tw11018964114942204808 : Unit := ()
def PySem.W.Fast.tw16617648601745551535 : Unit := ()
def PySem.W.Fast.tw12730359980300075868 : Unit := ()
def PySem.W.Fast.tw16294776033509077195 : Unit := ()
def PySem.W.Fast.tw3958894329348451482 : Unit := ()
def PySem.W.Fast.tw10164111324288876960 : Unit := ()
def PySem.W.Fast.tw10494570778562168203 : Unit := ()
def PySem.W.Fast.tw4864129155635175673 : Unit := ()
def PySem.W.Fast.tw4702440177736200354 : Unit := ()
def PySem.W.Fast.tw6903777785251156651 : Unit := ()
def PySem.W.Fast.tw16902835950697514588 : Unit := ()
def PySem.W.Fast.tw2369231018357238404 : Unit := ()
def PySem.W.Fast.tw2542846090642870286 : Unit := ()
def PySem.W.Fast.tw12264353179322639763 : Unit := ()
def PySem.W.Fast.tw10833323894439945735 : Unit := ()
def PySem.W.Fast.tw18630711260319071 : Unit := ()
def PySem.W.Fast.tw17434640843109928728 : Unit := ()
def PySem.W.Fast.tw2782115336319718961 : Unit := ()
def PySem.W.Fast.tw5129653902439595507 : Unit := ()
def PySem.W.Fast.tw891405082440719104 : Unit := ()
def PySem.W.Fast.tw16092898260290553508 : Unit := ()
def PySem.W.Fast.tw9649602480629087399 : Unit := ()
def PySem.W.Fast.tw13047265151621703932 : Unit := ()
def PySem.W.Fast.tw2622827605414333275 : Unit := ()
def PySem.W.Fast.tw10443613869082870486 : Unit := ()
def PySem.W.Fast.tw4752761584106618462 : Unit := ()
def PySem.W.Fast.tw13720580991383061058 : Unit := ()
def PySem.W.Fast.tw10302736768110434589 : Unit := ()
def PySem.W.Fast.tw3064143681790597767 : Unit := ()
def PySem.W.Fast.tw9193852442929944781 : Unit := ()
def PySem.W.Fast.tw10565481380453296364 : Unit := ()
def PySem.W.Fast.tw8903493452027830172 : Unit := ()
def PySem.W.Fast.tw205559115878115803 : Unit := ()
def PySem.W.Fast.tw2590992393629316469 : Unit := ()
def PySem.W.Fast.tw9893871687402870996 : Unit := ()
def PySem.W.Fast.tw11702933578248929911 : Unit := ()
def PySem.W.Fast.tw5810510150403945124 : Unit := ()
def PySem.W.Fast.tw1104662360415533142 : Unit := ()
def PySem.W.Fast.tw16148997449584548437 : Unit := ()
def PySem.W.Fast.tw16612129902964555280 : Unit := ()
def PySem.W.Fast.tw14970057914065262691 : Unit := ()
def PySem.W.Fast.tw5874836301884431503 : Unit := ()
def PySem.W.Fast.tw1738458402358289765 : Unit := ()
def PySem.W.Fast.tw3061775530196929176 : Unit := ()
def PySem.W.Fast.tw13205625795524479388 : Unit := ()
def PySem.W.Fast.tw2427847619976432325 : Unit := ()
def PySem.W.Fast.tw298449728024821227 : Unit := ()
def PySem.W.Fast.tw10649184057752827028 : Unit := ()
def PySem.W.Fast.tw4764220170790696066 : Unit := ()
def PySem.W.Fast.tw11373526354940417780 : Unit := ()
def PySem.W.Fast.tw18436529395734841409 : Unit := ()
def PySem.W.Fast.tw9646317677260989742 : Unit := ()
def PySem.W.Fast.tw14560947548440968553 : Unit := ()
def PySem.W.Fast.tw10259092459990488404 : Unit := ()
def PySem.W.Fast.tw14931497532921579330 : Unit := ()
def PySem.W.Fast.tw2513119845198140800 : Unit := ()
def PySem.W.Fast.tw9334921432327067281 : Unit := ()
def PySem.W.Fast.tw4517388884934597746 : Unit := ()
def PySem.W.Fast.tw16910689443306901117 : Unit := ()
def PySem.W.Fast.tw15370667515281221872 : Unit := ()
def PySem.W.Fast.tw9660935833693078379 : Unit := ()
def PySem.W.Fast.tw16916554894101787067 : Unit := ()
def PySem.W.Fast.tw13848771323014570731 : Unit := ()
def PySem.W.Fast.tw10728407612701183801 : Unit := ()
def PySem.W.Fast.tw1607177507958489203 : Unit := ()
def PySem.W.Fast.tw6107264077459736253 : Unit := ()
def PySem.W.Fast.tw6929735897137401437 : Unit := ()
def PySem.W.Fast.tw5885687229838862195 : Unit := ()
def PySem.W.Fast.tw16821338071049484039 : Unit := ()
def PySem.W.Fast.tw800761183922928524 : Unit := ()
def PySem.W.Fast.tw16722766920918747721 : Unit := ()
def PySem.W.Fast.tw17980381987704514327 : Unit := ()
def PySem.W.Fast.tw12222572503765568455 : Unit := ()
def PySem.W.Fast.tw8193728195824489714 : Unit := ()
def PySem.W.Fast.tw17591320445432268964 : Unit := ()
def PySem.W.Fast.tw11151045358623955925 : Unit := ()
def PySem.W.Fast.tw4077344100555690941 : Unit := ()
def PySem.W.Fast.tw18224920017679799466 : Unit := ()
def PySem.W.Fast.tw11955712326662778767 : Unit := ()
def PySem.W.Fast.tw14156894810723541869 : Unit := ()
def PySem.W.Fast.tw16852814377893977054 : Unit := ()
def PySem.W.Fast.tw4825837497617176993 : Unit := ()
def PySem.W.Fast.tw16424177277315131684 : Unit := ()
def PySem.W.Fast.tw4102810182539615461 : Unit := ()
def PySem.W.Fast.tw14132601034591690344 : Unit := ()
def PySem.W.Fast.tw13923959722243039940 : Unit := ()
def PySem.W.Fast.tw12424524949426174677 : Unit := ()
def PySem.W.Fast.tw18142447745665517982 : Unit := ()
def PySem.W.Fast.tw14573997750839637756 : Unit := ()
def PySem.W.Fast.tw15729323232840402064 : Unit := ()
def PySem.W.Fast.tw10226788687028145246 : Unit := ()
def PySem.W.Fast.tw9015880159657326889 : Unit := ()
def PySem.W.Fast.tw13233035170990978979 : Unit := ()
def PySem.W.Fast.tw2867421919318178843 : Unit := ()
def PySem.W.Fast.tw13902686249239517665 : Unit := ()
def PySem.W.Fast.tw18343271158754440145 : Unit := ()
def PySem.W.Fast.tw17077766946059246360 : Unit := ()
def PySem.W.Fast.tw11016896145510429635 : Unit := ()
def PySem.W.Fast.tw3598690557169454747 : Unit := ()
def PySem.W.Fast.tw15631666944410021440 : Unit := ()
def PySem.W.Fast.tw11005023039756962760 : Unit := ()
def PySem.W.Fast.tw8802092884666958670 : Unit := ()
def PySem.W.Fast.tw903227815819309500 : Unit := ()
def PySem.W.Fast.tw8609431975071272240 : Unit := ()
def PySem.W.Fast.tw12867385306048338939 : Unit := ()
def PySem.W.Fast.tw5384821138363456464 : Unit := ()
def PySem.W.Fast.tw8536726492014672689 : Unit := ()
def PySem.W.Fast.tw3334991876488770719 : Unit := ()
def PySem.W.Fast.tw12782356379621507668 : Unit := ()
def PySem.W.Fast.tw3338126320653328068 : Unit := ()
def PySem.W.Fast.tw4338390535416682600 : Unit := ()
def PySem.W.Fast.tw7560510556979769839 : Unit := ()
def PySem.W.Fast.tw15969434105205474044 : Unit := ()
def PySem.W.Fast.tw850558200252996806 : Unit := ()
def PySem.W.Fast.tw17453167812523283495 : Unit := ()
def PySem.W.Fast.tw790205935416423917 : Unit := ()
def PySem.W.Fast.tw12078146092702482243 : Unit := ()
def PySem.W.Fast.tw11784148212631716613 : Unit := ()
def PySem.W.Fast.tw10949120141969644522 : Unit := ()
def PySem.W.Fast.tw5430337872028482065 : Unit := ()
def PySem.W.Fast.tw17908191484533069220 : Unit := ()
def PySem.W.Fast.tw13311041851184582147 : Unit := ()
def PySem.W.Fast.tw13702737816583774462 : Unit := ()
def PySem.W.Fast.tw5648414386682553903 : Unit := ()
def PySem.W.Fast.tw6003381453809418562 : Unit := ()
def PySem.W.Fast.tw9960629498067194599 : Unit := ()
def PySem.W.Fast.tw16195053683340405627 : Unit := ()
def PySem.W.Fast.tw8556016085575364884 : Unit := ()
def PySem.W.Fast.tw9374808367231247642 : Unit := ()
def PySem.W.Fast.tw15559739323446456641 : Unit := ()
def PySem.W.Fast.tw14299948455339065762 : Unit := ()
def PySem.W.Fast.tw14686306320870902193 : Unit := ()
def PySem.W.Fast.tw13184192145429761913 : Unit := ()
def PySem.W.Fast.tw5055300553615512931 : Unit := ()
def PySem.W.Fast.tw10189532595455895456 : Unit := ()
def PySem.W.Fast.tw6140401255221505363 : Unit := ()
def PySem.W.Fast.tw7870544767190548331 : Unit := ()
def PySem.W.Fast.tw16538623373034597747 : Unit := ()
def PySem.W.Fast.tw13441716551617707511 : Unit := ()
def PySem.W.Fast.tw13680155573930726558 : Unit := ()
def PySem.W.Fast.tw1591154527053523716 : Unit := ()
def PySem.W.Fast.tw1368289225511632840 : Unit := ()
def PySem.W.Fast.tw16171435350740568159 : Unit := ()
def PySem.W.Fast.tw5517141840600021811 : Unit := ()
def PySem.W.Fast.tw14123794023723600625 : Unit := ()
def PySem.W.Fast.tw8219744549069891783 : Unit := ()
def PySem.W.Fast.tw15022899201599127786 : Unit := ()
def PySem.W.Fast.tw4910197372394390128 : Unit := ()
def PySem.W.Fast.tw5984794157154020515 : Unit := ()
def PySem.W.Fast.tw13846053811128108124 : Unit := ()
def PySem.W.Fast.tw18359390250858766716 : Unit := ()
def PySem.W.Fast.tw541347652649077993 : Unit := ()
def PySem.W.Fast.tw9111697057583471110 : Unit := ()
def PySem.W.Fast.tw12255073743903779772 : Unit := ()
def PySem.W.Fast.tw343844722703947424 : Unit := ()
def PySem.W.Fast.tw17035993478896396310 : Unit := ()
def PySem.W.Fast.tw13501365810656887502 : Unit := ()
def PySem.W.Fast.tw10084582904969008743 : Unit := ()
def PySem.W.Fast.tw1165927979599842569 : Unit := ()
def PySem.W.Fast.tw15278498466250071178 : Unit := ()
def PySem.W.Fast.tw12789450388510864737 : Unit := ()
def PySem.W.Fast.tw7893385477996300321 : Unit := ()
def PySem.W.Fast.tw4829546030108448754 : Unit := ()
def PySem.W.Fast.tw12295891991581323880 : Unit := ()
def PySem.W.Fast.tw12454981801453610373 : Unit := ()
def PySem.W.Fast.tw17034727607980651043 : Unit := ()
def PySem.W.Fast.tw10212809562918879504 : Unit := ()
def PySem.W.Fast.tw263613652434683224 : Unit := ()
def PySem.W.Fast.tw13252137443998090445 : Unit := ()
def PySem.W.Fast.tw2137590561831829216 : Unit := ()
def PySem.W.Fast.tw12272317240521127983 : Unit := ()
def PySem.W.Fast.tw17634202115066188245 : Unit := ()
def PySem.W.Fast.tw12405818931000263110 : Unit := ()
def PySem.W.Fast.tw17816010381811354191 : Unit := ()
def PySem.W.Fast.tw9000075574435652544 : Unit := ()
def PySem.W.Fast.tw15026943658368939710 : Unit := ()
def PySem.W.Fast.tw6179627748579889299 : Unit := ()
def PySem.W.Fast.tw11439016790669092805 : Unit := ()
def PySem.W.Fast.tw4454629254965548518 : Unit := ()
def PySem.W.Fast.tw13989846576396772385 : Unit := ()
def PySem.W.Fast.tw14853375046592536667 : Unit := ()
def PySem.W.Fast.tw12033853877996121742 : Unit := ()
def PySem.W.Fast.tw2275901291281250906 : Unit := ()
def PySem.W.Fast.tw4066086150260811451 : Unit := ()
def PySem.W.Fast.tw2077616422514620091 : Unit := ()
def PySem.W.Fast.tw9454517235993559263 : Unit := ()
def PySem.W.Fast.tw5466812215144804748 : Unit := ()
def PySem.W.Fast.tw9109290451941557895 : Unit := ()
def PySem.W.Fast.tw8424169580178772921 : Unit := ()
def PySem.W.Fast.tw11137305519501069064 : Unit := ()
def PySem.W.Fast.tw8500557070821531654 : Unit := ()
def PySem.W.Fast.tw3933016610269166910 : Unit := ()
def PySem.W.Fast.tw2872076617393100395 : Unit := ()
def PySem.W.Fast.tw4166139359701716669 : Unit := ()
def PySem.W.Fast.tw5201326643167052308 : Unit := ()
def PySem.W.Fast.tw15287899604404266684 : Unit := ()
def PySem.W.Fast.tw9026403973360238717 : Unit := ()
def PySem.W.Fast.tw5489983289956378122 : Unit := ()
def PySem.W.Fast.tw15420352660051544981 : Unit := ()
def PySem.W.Fast.tw11012021777190136337 : Unit := ()
def PySem.W.Fast.tw9756194484003196019 : Unit := ()
def PySem.W.Fast.tw5632012352305099330 : Unit := ()
def PySem.W.Fast.tw15534982699903256068 : Unit := ()
def PySem.W.Fast.tw1926731378448222218 : Unit := ()
def PySem.W.Fast.tw2440002356767199732 : Unit := ()
def PySem.W.Fast.tw14075132475171568490 : Unit := ()
def PySem.W.Fast.tw16863937410558372386 : Unit := ()
def PySem.W.Fast.tw16380760664993077339 : Unit := ()
def PySem.W.Fast.tw8909742446065938039 : Unit := ()
def PySem.W.Fast.tw16065564019487952855 : Unit := ()
def PySem.W.Fast.tw12121145122447472695 : Unit := ()
def PySem.W.Fast.tw18368535567637039001 : Unit := ()
def PySem.W.Fast.tw13743192094043615696 : Unit := ()
def PySem.W.Fast.tw1145220962822229078 : Unit := ()
def PySem.W.Fast.tw15407968677652321285 : Unit := ()
def PySem.W.Fast.tw7743128758354473897 : Unit := ()
def PySem.W.Fast.tw1106991647027881869 : Unit := ()
def PySem.W.Fast.tw675939738165973867 : Unit := ()
def PySem.W.Fast.tw1898962469244880724 : Unit := ()
def PySem.W.Fast.tw14720715416974248436 : Unit := ()
def PySem.W.Fast.tw2459720916154388591 : Unit := ()
def PySem.W.Fast.tw8270343289428595584 : Unit := ()
def PySem.W.Fast.tw3546486773477361866 : Unit := ()
def PySem.W.Fast.tw13123775043918111651 : Unit := ()
def PySem.W.Fast.tw17766767122329131229 : Unit := ()
def PySem.W.Fast.tw6754191059837630916 : Unit := ()
def PySem.W.Fast.tw11095740266731222548 : Unit := ()
def PySem.W.Fast.tw5075087453474265611 : Unit := ()
def PySem.W.Fast.tw17093296306874312903 : Unit := ()
def PySem.W.Fast.tw12127499737311477922 : Unit := ()
def PySem.W.Fast.tw1580307659657180876 : Unit := ()
def PySem.W.Fast.tw6222237603323719292 : Unit := ()
def PySem.W.Fast.tw8586384281311418573 : Unit := ()
def PySem.W.Fast.tw3188000646628398353 : Unit := ()
def PySem.W.Fast.tw4243989135889643375 : Unit := ()
def PySem.W.Fast.tw11604035319100904819 : Unit := ()
def PySem.W.Fast.tw6506071752321334439 : Unit := ()
def PySem.W.Fast.tw4792538986539651710 : Unit := ()
def PySem.W.Fast.tw9723151886012411924 : Unit := ()
def PySem.W.Fast.tw9687737449098309738 : Unit := ()
def PySem.W.Fast.tw418311694575623958 : Unit := ()
def PySem.W.Fast.tw14258868679252022923 : Unit := ()
def PySem.W.Fast.tw1107040481176569649 : Unit := ()
def PySem.W.Fast.tw11287950583635388536 : Unit := ()
def PySem.W.Fast.tw2267672012925323000 : Unit := ()
def PySem.W.Fast.tw15975069370409935906 : Unit := ()
def PySem.W.Fast.tw18232497930451348899 : Unit := ()
def PySem.W.Fast.tw7538562076624195100 : Unit := ()
def PySem.W.Fast.tw4940988741215172065 : Unit := ()
def PySem.W.Fast.tw5817979740806383564 : Unit := ()
def PySem.W.Fast.tw14052975199400788733 : Unit := ()
def PySem.W.Fast.tw14110523883476853759 : Unit := ()
def PySem.W.Fast.tw13236456493450037956 : Unit := ()
def PySem.W.Fast.tw4606572000888753054 : Unit := ()
def PySem.W.Fast.tw15059690020940549341 : Unit := ()
def PySem.W.Fast.tw5371106870313932310 : Unit := ()
def PySem.W.Fast.tw15522207697472206258 : Unit := ()
def PySem.W.Fast.tw14128961308929868103 : Unit := ()
def PySem.W.Fast.tw8904662461772246827 : Unit := ()
def PySem.W.Fast.tw14886353208176977087 : Unit := ()
def PySem.W.Fast.tw239260758522271584 : Unit := ()
def PySem.W.Fast.tw11353648811758257666 : Unit := ()
def PySem.W.Fast.tw6513561318760152416 : Unit := ()
def PySem.W.Fast.tw10559592948188321701 : Unit := ()
def PySem.W.Fast.tw17636433339689301545 : Unit := ()
def PySem.W.Fast.tw494706450283648927 : Unit := ()
def PySem.W.Fast.tw3553566003737963162 : Unit := ()
def PySem.W.Fast.tw16074756784727425881 : Unit := ()
def PySem.W.Fast.tw2885392139959073112 : Unit := ()
def PySem.W.Fast.tw6106628525650897021 : Unit := ()
def PySem.W.Fast.tw15810899794731295823 : Unit := ()
def PySem.W.Fast.tw14620337704449671676 : Unit := ()
def PySem.W.Fast.tw1305499402422120532 : Unit := ()
def PySem.W.Fast.tw11069277916966787920 : Unit := ()
def PySem.W.Fast.tw16192530052407625443 : Unit := ()
def PySem.W.Fast.tw18268761293095557941 : Unit := ()
def PySem.W.Fast.tw16945131289992157714 : Unit := ()
def PySem.W.Fast.tw4346510542349767693 : Unit := ()
def PySem.W.Fast.tw11228511304147987621 : Unit := ()
def PySem.W.Fast.tw15226518267391619652 : Unit := ()
def PySem.W.Fast.tw17434248290327378294 : Unit := ()
def PySem.W.Fast.tw18430427534838631362 : Unit := ()
def PySem.W.Fast.tw4886967337058777662 : Unit := ()
def PySem.W.Fast.tw14670461470117835642 : Unit := ()
def PySem.W.Fast.tw17452268170080412311 : Unit := ()
def PySem.W.Fast.tw12918764476556257799 : Unit := ()
def PySem.W.Fast.tw89845881409599861 : Unit := ()
def PySem.W.Fast.tw4237535689309698293 : Unit := ()
def PySem.W.Fast.tw16688948514731339238 : Unit := ()
def PySem.W.Fast.tw11845343546117433280 : Unit := ()
def PySem.W.Fast.tw726884746695856806 : Unit := ()
def PySem.W.Fast.tw9200383214177273840 : Unit := ()
def PySem.W.Fast.tw5187101279812545476 : Unit := ()
def PySem.W.Fast.tw5551048729975617147 : Unit := ()
def PySem.W.Fast.tw16769964220546319079 : Unit := ()
def PySem.W.Fast.tw15854260250301428627 : Unit := ()
def PySem.W.Fast.tw5563170252823936137 : Unit := ()
def PySem.W.Fast.tw1484861818032284185 : Unit := ()
def PySem.W.Fast.tw14644833774548846846 : Unit := ()
def PySem.W.Fast.tw2450098002827691828 : Unit := ()
def PySem.W.Fast.tw9410751583471763887 : Unit := ()
def PySem.W.Fast.tw6256806796196115790 : Unit := ()
def PySem.W.Fast.tw15346004125625638237 : Unit := ()
def PySem.W.Fast.tw7486490460242083124 : Unit := ()
def PySem.W.Fast.tw2446630982364673403 : Unit := ()
def PySem.W.Fast.tw10010122346365501938 : Unit := ()
def PySem.W.Fast.tw6133112258907483951 : Unit := ()
def PySem.W.Fast.tw4136224724091327418 : Unit := ()
def PySem.W.Fast.tw3591172400819159300 : Unit := ()
def PySem.W.Fast.tw12786849462423050762 : Unit := ()
def PySem.W.Fast.tw1402132764704281586 : Unit := ()
def PySem.W.Fast.tw7025434816987623419 : Unit := ()
def PySem.W.Fast.tw13193467815599980068 : Unit := ()
def PySem.W.Fast.tw3469453516968674126 : Unit := ()
def PySem.W.Fast.tw15882289013708428863 : Unit := ()
def PySem.W.Fast.tw5370348486057376968 : Unit := ()
def PySem.W.Fast.tw11157339465910763721 : Unit := ()
def PySem.W.Fast.tw9217615954562609548 : Unit := ()
def PySem.W.Fast.tw2805442788492365276 : Unit := ()
def PySem.W.Fast.tw6821016086860348524 : Unit := ()
def PySem.W.Fast.tw12537548216414256707 : Unit := ()
def PySem.W.Fast.tw11018981699863846604 : Unit := ()
def PySem.W.Fast.tw4099848905171164317 : Unit := ()
def PySem.W.Fast.tw1963141422754507978 : Unit := ()
def PySem.W.Fast.tw88559884311460536 : Unit := ()
def PySem.W.Fast.tw826632901436046207 : Unit := ()
def PySem.W.Fast.tw13376548721851211783 : Unit := ()
def PySem.W.Fast.tw3269251636786818416 : Unit := ()
def PySem.W.Fast.tw12439217773975220878 : Unit := ()
def PySem.W.Fast.tw15823892728495809062 : Unit := ()
def PySem.W.Fast.tw8432856653174602298 : Unit := ()
def PySem.W.Fast.tw5653025517898573732 : Unit := ()
def PySem.W.Fast.tw7379171033196324616 : Unit := ()
def PySem.W.Fast.tw7394133187765434738 : Unit := ()
def PySem.W.Fast.tw6129955983638123464 : Unit := ()
def PySem.W.Fast.tw405901402487016427 : Unit := ()
def PySem.W.Fast.tw8903066535738253363 : Unit := ()
def PySem.W.Fast.tw2736187498112332323 : Unit := ()
def PySem.W.Fast.tw6647033269469160473 : Unit := ()
def PySem.W.Fast.tw17896762421501432945 : Unit := ()
def PySem.W.Fast.tw15251201797367826980 : Unit := ()
def PySem.W.Fast.tw5085802279671070406 : Unit := ()
def PySem.W.Fast.tw6680369088591533281 : Unit := ()
def PySem.W.Fast.tw18445737193794518553 : Unit := ()
def PySem.W.Fast.tw9977631327098895372 : Unit := ()
def PySem.W.Fast.tw16133381478885905725 : Unit := ()
def PySem.W.Fast.tw11020538859240150860 : Unit := ()
def PySem.W.Fast.tw15391643388846728339 : Unit := ()
def PySem.W.Fast.tw16517572799500401743 : Unit := ()
def PySem.W.Fast.tw8144235220277604251 : Unit := ()
def PySem.W.Fast.tw5706951289928471815 : Unit := ()
def PySem.W.Fast.tw14627418565712701015 : Unit := ()
def PySem.W.Fast.tw8879001435203739646 : Unit := ()
def PySem.W.Fast.tw16427678092780475708 : Unit := ()
def PySem.W.Fast.tw5291599300406557187 : Unit := ()
def PySem.W.Fast.tw908064095211681972 : Unit := ()
def PySem.W.Fast.tw16878280021793535259 : Unit := ()
def PySem.W.Fast.tw15812260549374998715 : Unit := ()
def PySem.W.Fast.tw16357020152484578119 : Unit := ()
def PySem.W.Fast.tw4064529966391709823 : Unit := ()
def PySem.W.Fast.tw1356326618444982285 : Unit := ()
def PySem.W.Fast.tw18027317410406893148 : Unit := ()
def PySem.W.Fast.tw14625592652611009008 : Unit := ()
def PySem.W.Fast.tw8310605880303170203 : Unit := ()
def PySem.W.Fast.tw11704091636821431047 : Unit := ()
def PySem.W.Fast.tw14663800604515807958 : Unit := ()
def PySem.W.Fast.tw5342716431026498413 : Unit := ()
def PySem.W.Fast.tw2214795634062750494 : Unit := ()
def PySem.W.Fast.tw7543481818533042875 : Unit := ()
def PySem.W.Fast.tw347503341241745326 : Unit := ()
def PySem.W.Fast.tw12523110155146637393 : Unit := ()
def PySem.W.Fast.tw9415161369949531105 : Unit := ()
def PySem.W.Fast.tw7474659059402290741 : Unit := ()
def PySem.W.Fast.tw12597146669629348013 : Unit := ()
def PySem.W.Fast.tw16287963462045975556 : Unit := ()
def PySem.W.Fast.tw18421763119550512777 : Unit := ()
def PySem.W.Fast.tw12693915190664193966 : Unit := ()
def PySem.W.Fast.tw15708190990739874381 : Unit := ()
def PySem.W.Fast.tw4050764552095100229 : Unit := ()
def PySem.W.Fast.tw1326119860561713157 : Unit := ()
def PySem.W.Fast.tw17638966432602952482 : Unit := ()
def PySem.W.Fast.tw7762389568022674443 : Unit := ()
def PySem.W.Fast.tw8484505435509245531 : Unit := ()
def PySem.W.Fast.tw17144423977475397653 : Unit := ()
def PySem.W.Fast.tw1435917117607042851 : Unit := ()
def PySem.W.Fast.tw3804805781169151753 : Unit := ()
def PySem.W.Fast.tw8118034071132560439 : Unit := ()
def PySem.W.Fast.tw15244015781833355611 : Unit := ()
def PySem.W.Fast.tw7764279108744845682 : Unit := ()
def PySem.W.Fast.tw13230618649497106419 : Unit := ()
def PySem.W.Fast.tw2385214141173935093 : Unit := ()
def PySem.W.Fast.tw13343041981540143237 : Unit := ()
def PySem.W.Fast.tw15710910539994675885 : Unit := ()
def PySem.W.Fast.tw15429724688766826567 : Unit := ()
def PySem.W.Fast.tw4534527353705142741 : Unit := ()
def PySem.W.Fast.tw10722503703093206004 : Unit := ()
def PySem.W.Fast.tw8566100887219194174 : Unit := ()
def PySem.W.Fast.tw15664116102111127241 : Unit := ()
def PySem.W.Fast.tw4300292688752423110 : Unit := ()
def PySem.W.Fast.tw18318776867045069501 : Unit := ()
def PySem.W.Fast.tw10594386086782889108 : Unit := ()
def PySem.W.Fast.tw11380009172766152234 : Unit := ()
def PySem.W.Fast.tw13142406817779921635 : Unit := ()
def PySem.W.Fast.tw14355473665607388171 : Unit := ()
def PySem.W.Fast.tw17733168045684549429 : Unit := ()
def PySem.W.Fast.tw4064914504598509878 : Unit := ()
def PySem.W.Fast.tw13823715274987970041 : Unit := ()
def PySem.W.Fast.tw12393289832148212565 : Unit := ()
def PySem.W.Fast.tw4325540589241010167 : Unit := ()
def PySem.W.Fast.tw10563024765516316477 : Unit := ()
def PySem.W.Fast.tw707528704527855615 : Unit := ()
def PySem.W.Fast.tw12763415853152906503 : Unit := ()
def PySem.W.Fast.tw1754927660414243304 : Unit := ()
def PySem.W.Fast.tw17183608737738960538 : Unit := ()
def PySem.W.Fast.tw18096133985312503741 : Unit := ()
def PySem.W.Fast.tw16040995444711564101 : Unit := ()
def PySem.W.Fast.tw2142027461632327678 : Unit := ()
def PySem.W.Fast.tw10282631561198219384 : Unit := ()
def PySem.W.Fast.tw17896413835478071932 : Unit := ()
def PySem.W.Fast.tw3537721132810997314 : Unit := ()
def PySem.W.Fast.tw1238133567480201577 : Unit := ()
def PySem.W.Fast.tw12517799366417055726 : Unit := ()
def PySem.W.Fast.tw5835209450655627758 : Unit := ()
def PySem.W.Fast.tw11412539408923755493 : Unit := ()
def PySem.W.Fast.tw10637993084681371743 : Unit := ()
def PySem.W.Fast.tw13917585674149214033 : Unit := ()
def PySem.W.Fast.tw376983799335207670 : Unit := ()
def PySem.W.Fast.tw16127866670123415901 : Unit := ()
def PySem.W.Fast.tw14537369282620125736 : Unit := ()
def PySem.W.Fast.tw158189043160774905 : Unit := ()
def PySem.W.Fast.tw2079425387156593773 : Unit := ()
def PySem.W.Fast.tw13228135520304392256 : Unit := ()
def PySem.W.Fast.tw18393769472702115009 : Unit := ()
def PySem.W.Fast.tw10211145337721919580 : Unit := ()
def PySem.W.Fast.tw4710286148589979340 : Unit := ()
def PySem.W.Fast.tw11658936426784903840 : Unit := ()
def PySem.W.Fast.tw6852633282226301077 : Unit := ()
def PySem.W.Fast.tw14560877230792348758 : Unit := ()
def PySem.W.Fast.tw6643845371785979138 : Unit := ()
def PySem.W.Fast.tw4030487283131783723 : Unit := ()
def PySem.W.Fast.tw15706652917780259043 : Unit := ()
def PySem.W.Fast.tw17949241742653085456 : Unit := ()
def PySem.W.Fast.tw9289222950243871578 : Unit := ()
def PySem.W.Fast.tw2591540140085514469 : Unit := ()
def PySem.W.Fast.tw2740029763653523568 : Unit := ()
def PySem.W.Fast.tw12469223511230786175 : Unit := ()
def PySem.W.Fast.tw5218745311798932523 : Unit := ()
def PySem.W.Fast.tw6249392138014522637 : Unit := ()
def PySem.W.Fast.tw1703691994630088156 : Unit := ()
def PySem.W.Fast.tw9087973909858500491 : Unit := ()
def PySem.W.Fast.tw8369648227744172436 : Unit := ()
def PySem.W.Fast.tw12730021900573434809 : Unit := ()
def PySem.W.Fast.tw311074874539816702 : Unit := ()
def PySem.W.Fast.tw6544626172573050337 : Unit := ()
def PySem.W.Fast.tw16990854013175888907 : Unit := ()
def PySem.W.Fast.tw5471270613017827198 : Unit := ()
def PySem.W.Fast.tw10160309865217210622 : Unit := ()
def PySem.W.Fast.tw16427092792614497466 : Unit := ()
def PySem.W.Fast.tw1168721610577203558 : Unit := ()
def PySem.W.Fast.tw7116495786099017720 : Unit := ()
def PySem.W.Fast.tw4359809546911943449 : Unit := ()
def PySem.W.Fast.tw16458919890480422861 : Unit := ()
def PySem.W.Fast.tw11189182015383641164 : Unit := ()
def PySem.W.Fast.tw12551274403982609887 : Unit := ()
def PySem.W.Fast.tw16012911193145161583 : Unit := ()
def PySem.W.Fast.tw17038775039601018915 : Unit := ()
def PySem.W.Fast.tw15337197856546900135 : Unit := ()
def PySem.W.Fast.tw4583782906645018605 : Unit := ()
def PySem.W.Fast.tw17306966788684992786 : Unit := ()
def PySem.W.Fast.tw17299987452543628351 : Unit := ()
def PySem.W.Fast.tw8489834628350474808 : Unit := ()
def PySem.W.Fast.tw13369787202924284306 : Unit := ()
def PySem.W.Fast.tw1841464119916768829 : Unit := ()
def PySem.W.Fast.tw6358867135316649857 : Unit := ()
def PySem.W.Fast.tw5242269373451282440 : Unit := ()
def PySem.W.Fast.tw14337196687623508976 : Unit := ()
def PySem.W.Fast.tw10667398378757479550 : Unit := ()
def PySem.W.Fast.tw835383204598394710 : Unit := ()
def PySem.W.Fast.tw7444153760735848605 : Unit := ()
def PySem.W.Fast.tw3090764568778140859 : Unit := ()
def PySem.W.Fast.tw14526390817390429004 : Unit := ()
def PySem.W.Fast.tw2595203918890935347 : Unit := ()
def PySem.W.Fast.tw5886607144080776067 : Unit := ()
def PySem.W.Fast.tw2652998090008666783 : Unit := ()
def PySem.W.Fast.tw3933374940910558111 : Unit := ()
def PySem.W.Fast.tw18151211605753204020 : Unit := ()
def PySem.W.Fast.tw6913075621291008706 : Unit := ()
def PySem.W.Fast.tw12742166667170211737 : Unit := ()
def PySem.W.Fast.tw923977760802784591 : Unit := ()
def PySem.W.Fast.tw15516644384954253698 : Unit := ()
def PySem.W.Fast.tw3110906149228460813 : Unit := ()
def PySem.W.Fast.tw8286184429397222438 : Unit := ()
def PySem.W.Fast.tw16500883098247249361 : Unit := ()
def PySem.W.Fast.tw7789776873316754293 : Unit := ()
def PySem.W.Fast.tw3272092619649772571 : Unit := ()
def PySem.W.Fast.tw10689392067549978866 : Unit := ()
def PySem.W.Fast.tw4941588487206201530 : Unit := ()
def PySem.W.Fast.tw8944147539451612801 : Unit := ()
def PySem.W.Fast.tw874090291739166243 : Unit := ()
def PySem.W.Fast.tw17037917060005992016 : Unit := ()
def PySem.W.Fast.tw14376826551914617236 : Unit := ()
def PySem.W.Fast.tw14445748390951554524 : Unit := ()
def PySem.W.Fast.tw9768634303052291011 : Unit := ()
def PySem.W.Fast.tw12021854954992830542 : Unit := ()
def PySem.W.Fast.tw1325403219950615269 : Unit := ()
def PySem.W.Fast.tw933196603067428064 : Unit := ()
def PySem.W.Fast.tw13604105804657049022 : Unit := ()
def PySem.W.Fast.tw10312907426236665788 : Unit := ()
def PySem.W.Fast.tw14622534393260143040 : Unit := ()
def PySem.W.Fast.tw1461593026893214428 : Unit := ()
def PySem.W.Fast.tw4868478211869270089 : Unit := ()
def PySem.W.Fast.tw9876414198405209859 : Unit := ()
def PySem.W.Fast.tw3915247621798765218 : Unit := ()
def PySem.W.Fast.tw16083644863141048667 : Unit := ()
def PySem.W.Fast.tw5588904731779408561 : Unit := ()
def PySem.W.Fast.tw2738182007015736915 : Unit := ()
def PySem.W.Fast.tw1941283056638002278 : Unit := ()
def PySem.W.Fast.tw6892590716286896857 : Unit := ()
def PySem.W.Fast.tw17163845475676056546 : Unit := ()
def PySem.W.Fast.tw15934195631931502807 : Unit := ()
def PySem.W.Fast.tw6215939104571533884 : Unit := ()
def PySem.W.Fast.tw17296163076796698795 : Unit := ()
def PySem.W.Fast.tw11964152269561179466 : Unit := ()
def PySem.W.Fast.tw4480315297085508780 : Unit := ()
def PySem.W.Fast.tw14741685885613671993 : Unit := ()
def PySem.W.Fast.tw11060281625462812094 : Unit := ()
def PySem.W.Fast.tw8799166638556906368 : Unit := ()
def PySem.W.Fast.tw4602640892848281470 : Unit := ()
def PySem.W.Fast.tw11518633184284246590 : Unit := ()
def PySem.W.Fast.tw10342324204926141162 : Unit := ()
def PySem.W.Fast.tw15512840324656302405 : Unit := ()
def PySem.W.Fast.tw3611746875218343784 : Unit := ()
def PySem.W.Fast.tw4659062726001987172 : Unit := ()
def PySem.W.Fast.tw11038637590003896117 : Unit := ()
def PySem.W.Fast.tw13172737828368369349 : Unit := ()
def PySem.W.Fast.tw10539445228298625204 : Unit := ()
def PySem.W.Fast.tw7553503704258211502 : Unit := ()
def PySem.W.Fast.tw12960475079559909035 : Unit := ()
def PySem.W.Fast.tw8711261527044930715 : Unit := ()
def PySem.W.Fast.tw2984240676743679221 : Unit := ()
def PySem.W.Fast.tw323881521703111854 : Unit := ()
def PySem.W.Fast.tw1181400175070935014 : Unit := ()
def PySem.W.Fast.tw7708386813270884129 : Unit := ()
def PySem.W.Fast.tw15389158986644696219 : Unit := ()
def PySem.W.Fast.tw9286802268270699426 : Unit := ()
def PySem.W.Fast.tw306389056160948638 : Unit := ()
def PySem.W.Fast.tw9767081888607367929 : Unit := ()
def PySem.W.Fast.tw4545925279635800811 : Unit := ()
def PySem.W.Fast.tw14400878471539441566 : Unit := ()
def PySem.W.Fast.tw1179225145288895191 : Unit := ()
def PySem.W.Fast.tw1440259139713188535 : Unit := ()
def PySem.W.Fast.tw4524857162204711795 : Unit := ()
def PySem.W.Fast.tw3886962003819272808 : Unit := ()
def PySem.W.Fast.tw9564730712098822962 : Unit := ()
def PySem.W.Fast.tw7218666243654924402 : Unit := ()
def PySem.W.Fast.tw15281570372523638022 : Unit := ()
def PySem.W.Fast.tw1081915068045638355 : Unit := ()
def PySem.W.Fast.tw2674842207083007365 : Unit := ()
def PySem.W.Fast.tw12599790858800097271 : Unit := ()
def PySem.W.Fast.tw3616691359432589622 : Unit := ()
def PySem.W.Fast.tw3227765847101237317 : Unit := ()
def PySem.W.Fast.tw3849876658376854828 : Unit := ()
def PySem.W.Fast.tw5820326471725104389 : Unit := ()
def PySem.W.Fast.tw4592634362225531146 : Unit := ()
def PySem.W.Fast.tw16980122941353729639 : Unit := ()
def PySem.W.Fast.tw779069814636386354 : Unit := ()
def PySem.W.Fast.tw17265867361458185875 : Unit := ()
def PySem.W.Fast.tw5164743609493640186 : Unit := ()
def PySem.W.Fast.tw15542363560077312146 : Unit := ()
def PySem.W.Fast.tw17601619508927767914 : Unit := ()
def PySem.W.Fast.tw10450839099624998724 : Unit := ()
def PySem.W.Fast.tw10469358577024649869 : Unit := ()
def PySem.W.Fast.tw4491829827525048179 : Unit := ()
def PySem.W.Fast.tw1651065849311342060 : Unit := ()
def PySem.W.Fast.tw9706120644912189420 : Unit := ()
def PySem.W.Fast.tw82579970521451852 : Unit := ()
def PySem.W.Fast.tw9600697701247551634 : Unit := ()
def PySem.W.Fast.tw5528930393597083542 : Unit := ()
def PySem.W.Fast.tw4315644044544467710 : Unit := ()
def PySem.W.Fast.tw4751575880740559373 : Unit := ()
def PySem.W.Fast.tw3450456305548215239 : Unit := ()
def PySem.W.Fast.tw4426758194383925004 : Unit := ()
def PySem.W.Fast.tw6814755617574263739 : Unit := ()
def PySem.W.Fast.tw15683484845338480849 : Unit := ()
def PySem.W.Fast.tw2198384933590975920 : Unit := ()
def PySem.W.Fast.tw10282716909791999074 : Unit := ()
def PySem.W.Fast.tw7409457145518654622 : Unit := ()
def PySem.W.Fast.tw12251126873322849857 : Unit := ()
def PySem.W.Fast.tw5029350257876888102 : Unit := ()
def PySem.W.Fast.tw11105902809134966261 : Unit := ()
def PySem.W.Fast.tw7192017404783476550 : Unit := ()
def PySem.W.Fast.tw11330041347954901351 : Unit := ()
def PySem.W.Fast.tw16450706774154489284 : Unit := ()
def PySem.W.Fast.tw1385487715880250635 : Unit := ()
def PySem.W.Fast.tw7808044386787798591 : Unit := ()
def PySem.W.Fast.tw12453522851275635529 : Unit := ()
def PySem.W.Fast.tw13435714479454975357 : Unit := ()
def PySem.W.Fast.tw17419206880527830798 : Unit := ()
def PySem.W.Fast.tw957262531204778273 : Unit := ()
def PySem.W.Fast.tw16671421789078398908 : Unit := ()
def PySem.W.Fast.tw6232009181718260431 : Unit := ()
def PySem.W.Fast.tw1833611722138342613 : Unit := ()
def PySem.W.Fast.tw10074870012002692556 : Unit := ()
def PySem.W.Fast.tw2241905552659990662 : Unit := ()
def PySem.W.Fast.tw8276633761609481720 : Unit := ()
def PySem.W.Fast.tw18306006828089472294 : Unit := ()
def PySem.W.Fast.tw8573029895982825422 : Unit := ()
def PySem.W.Fast.tw15655482242649187519 : Unit := ()
def PySem.W.Fast.tw11015165625917450077 : Unit := ()
def PySem.W.Fast.tw3086042092639536988 : Unit := ()
def PySem.W.Fast.tw11720660173854832353 : Unit := ()
def PySem.W.Fast.tw10317458810490236519 : Unit := ()
def PySem.W.Fast.tw16072927234880968550 : Unit := ()
def PySem.W.Fast.tw2226973099307321036 : Unit := ()
def PySem.W.Fast.tw4598991654543437281 : Unit := ()
def PySem.W.Fast.tw17993892096864402212 : Unit := ()
def PySem.W.Fast.tw548698656680732374 : Unit := ()
def PySem.W.Fast.tw7509937098319032840 : Unit := ()
def PySem.W.Fast.tw3415174815004016398 : Unit := ()
def PySem.W.Fast.tw2118098164496210741 : Unit := ()
def PySem.W.Fast.tw17956918063392055112 : Unit := ()
def PySem.W.Fast.tw2205399570883620239 : Unit := ()
def PySem.W.Fast.tw4747551555856397671 : Unit := ()
def PySem.W.Fast.tw15720542890313189352 : Unit := ()
def PySem.W.Fast.tw8969072900404671310 : Unit := ()
def PySem.W.Fast.tw14560721014354107271 : Unit := ()
def PySem.W.Fast.tw8939033830509545771 : Unit := ()
def PySem.W.Fast.tw15336337222781173812 : Unit := ()
def PySem.W.Fast.tw8727704990571098139 : Unit := ()
def PySem.W.Fast.tw3927358442690286667 : Unit := ()
def PySem.W.Fast.tw11063337335390958356 : Unit := ()
def PySem.W.Fast.tw659064526472894158 : Unit := ()
def PySem.W.Fast.tw12915317844071723945 : Unit := ()
def PySem.W.Fast.tw4320142835077343272 : Unit := ()
def PySem.W.Fast.tw2763174006548214191 : Unit := ()
def PySem.W.Fast.tw3372907662702779374 : Unit := ()
def PySem.W.Fast.tw7400555203562330076 : Unit := ()
def PySem.W.Fast.tw10415903020975914066 : Unit := ()
def PySem.W.Fast.tw7969469746628430791 : Unit := ()
def PySem.W.Fast.tw14730741286983949948 : Unit := ()
def PySem.W.Fast.tw15615824753626072734 : Unit := ()
def PySem.W.Fast.tw5988585942390444688 : Unit := ()
def PySem.W.Fast.tw9533741660286985268 : Unit := ()
def PySem.W.Fast.tw165912824701931153 : Unit := ()
def PySem.W.Fast.tw15813050489638315178 : Unit := ()
def PySem.W.Fast.tw14945955279555814175 : Unit := ()
def PySem.W.Fast.tw16880650594238486244 : Unit := ()
def PySem.W.Fast.tw1453521444180170154 : Unit := ()
def PySem.W.Fast.tw497797435594439434 : Unit := ()
def PySem.W.Fast.tw11674401595755836907 : Unit := ()
def PySem.W.Fast.tw15984830050431680032 : Unit := ()
def PySem.W.Fast.tw8285375715914481561 : Unit := ()
def PySem.W.Fast.tw7732151261403808083 : Unit := ()
def PySem.W.Fast.tw4721783855921874973 : Unit := ()
def PySem.W.Fast.tw5840862287988867822 : Unit := ()
def PySem.W.Fast.tw5300160823594474376 : Unit := ()
def PySem.W.Fast.tw5294231365804945836 : Unit := ()
def PySem.W.Fast.tw15085997130446801137 : Unit := ()
def PySem.W.Fast.tw15636711204125584030 : Unit := ()
def PySem.W.Fast.tw14959342956486523998 : Unit := ()
def PySem.W.Fast.tw10654537455696388333 : Unit := ()
def PySem.W.Fast.tw2844567384977062843 : Unit := ()
def PySem.W.Fast.tw12042553837239915433 : Unit := ()
def PySem.W.Fast.tw145091763079478877 : Unit := ()
def PySem.W.Fast.tw4257604218376194844 : Unit := ()
def PySem.W.Fast.tw1493177939304147689 : Unit := ()
def PySem.W.Fast.tw3043606051427660439 : Unit := ()
def PySem.W.Fast.tw16821120322105385142 : Unit := ()
def PySem.W.Fast.tw449198861558893128 : Unit := ()
def PySem.W.Fast.tw14174086566037666644 : Unit := ()
def PySem.W.Fast.tw17383163328964125530 : Unit := ()
def PySem.W.Fast.tw1850317226863081190 : Unit := ()
def PySem.W.Fast.tw13958230781947474600 : Unit := ()
def PySem.W.Fast.tw15091296833579598634 : Unit := ()
def PySem.W.Fast.tw17208923724174661290 : Unit := ()
def PySem.W.Fast.tw828827572176716706 : Unit := ()
def PySem.W.Fast.tw2404614654512577516 : Unit := ()
def PySem.W.Fast.tw12457592905161842386 : Unit := ()
def PySem.W.Fast.tw16706771140953008823 : Unit := ()
def PySem.W.Fast.tw16594523984074634635 : Unit := ()
def PySem.W.Fast.tw14401622460100925400 : Unit := ()
def PySem.W.Fast.tw6029511211203234788 : Unit := ()
def PySem.W.Fast.tw9264571876240964221 : Unit := ()
def PySem.W.Fast.tw17609944635503874059 : Unit := ()
def PySem.W.Fast.tw11406963459920508341 : Unit := ()
def PySem.W.Fast.tw11456355381695321549 : Unit := ()
def PySem.W.Fast.tw1904529444999414634 : Unit := ()
def PySem.W.Fast.tw8479120237150517302 : Unit := ()
def PySem.W.Fast.tw16149284396661508326 : Unit := ()
def PySem.W.Fast.tw1986167227305074607 : Unit := ()
def PySem.W.Fast.tw6055334660832321167 : Unit := ()
def PySem.W.Fast.tw6295423653278714414 : Unit := ()
def PySem.W.Fast.tw4607660090863903932 : Unit := ()
def PySem.W.Fast.tw17349739376028309337 : Unit := ()
def PySem.W.Fast.tw14720031697559987473 : Unit := ()
def PySem.W.Fast.tw18440919665324303491 : Unit := ()
def PySem.W.Fast.tw16144096120572666103 : Unit := ()
def PySem.W.Fast.tw17506414964863185212 : Unit := ()
def PySem.W.Fast.tw6817435807593245751 : Unit := ()
def PySem.W.Fast.tw8875996266959085298 : Unit := ()
def PySem.W.Fast.tw14872553429730759243 : Unit := ()
def PySem.W.Fast.tw4696867215702200248 : Unit := ()
def PySem.W.Fast.tw15176478679521398574 : Unit := ()
def PySem.W.Fast.tw3262118822151270796 : Unit := ()
def PySem.W.Fast.tw1271645918252863887 : Unit := ()
def PySem.W.Fast.tw1462655531058930936 : Unit := ()
def PySem.W.Fast.tw16846263134825600860 : Unit := ()
def PySem.W.Fast.tw15751127413362237558 : Unit := ()
def PySem.W.Fast.tw14659394883447561839 : Unit := ()
def PySem.W.Fast.tw9046823656862446535 : Unit := ()
def PySem.W.Fast.tw10552309418533697285 : Unit := ()
def PySem.W.Fast.tw2311286786196548528 : Unit := ()
def PySem.W.Fast.tw4248062710740898204 : Unit := ()
def PySem.W.Fast.tw11925751455989195843 : Unit := ()
def PySem.W.Fast.tw5770541804432782055 : Unit := ()
def PySem.W.Fast.tw11529319503231634033 : Unit := ()
def PySem.W.Fast.tw1749836160684642756 : Unit := ()
def PySem.W.Fast.tw8147018420402323974 : Unit := ()
def PySem.W.Fast.tw9471547645346658270 : Unit := ()
def PySem.W.Fast.tw14279182683329968292 : Unit := ()
def PySem.W.Fast.tw766049023614755713 : Unit := ()
def PySem.W.Fast.tw14580503572059009797 : Unit := ()
def PySem.W.Fast.tw3841746127029502823 : Unit := ()
def PySem.W.Fast.tw13471411311527433537 : Unit := ()
def PySem.W.Fast.tw4223760906830218495 : Unit := ()
def PySem.W.Fast.tw15503311247817454985 : Unit := ()
def PySem.W.Fast.tw11903848105811242984 : Unit := ()
def PySem.W.Fast.tw10367870494098674151 : Unit := ()
def PySem.W.Fast.tw929484095734953025 : Unit := ()
def PySem.W.Fast.tw7602680944885292911 : Unit := ()
def PySem.W.Fast.tw9275789480588459967 : Unit := ()
def PySem.W.Fast.tw12316378444566830649 : Unit := ()
def PySem.W.Fast.tw13072668725411015336 : Unit := ()
def PySem.W.Fast.tw4754343378575717332 : Unit := ()
def PySem.W.Fast.tw14563564661537820097 : Unit := ()
def PySem.W.Fast.tw1635110229642976442 : Unit := ()
def PySem.W.Fast.tw1110850291528014097 : Unit := ()
def PySem.W.Fast.tw5407629076279552481 : Unit := ()
def PySem.W.Fast.tw96726332371044067 : Unit := ()
def PySem.W.Fast.tw14146317240196688285 : Unit := ()
def PySem.W.Fast.tw4847786044167565225 : Unit := ()
def PySem.W.Fast.tw5999266189084012568 : Unit := ()
def PySem.W.Fast.tw7271743077007720358 : Unit := ()
def PySem.W.Fast.tw3581836373659340117 : Unit := ()
def PySem.W.Fast.tw4086061255770746268 : Unit := ()
def PySem.W.Fast.tw673818851259782492 : Unit := ()
def PySem.W.Fast.tw2727073775476623595 : Unit := ()
def PySem.W.Fast.tw17172920112949202308 : Unit := ()
def PySem.W.Fast.tw18137112815514428759 : Unit := ()
def PySem.W.Fast.tw3173013166691874503 : Unit := ()
namespace U
open PySem PySem.W
def hkLive (x : Obj) : Option Obj := match x with
  | ⟨_, _, .freed, _⟩ => none
  | o => some o
theorem hkLive_get {h : Heap} {a : Addr} {x : Obj} (q : h.objs[a]? = some x) : h.get? a = hkLive x := by
  unfold Heap.get?
  rw [q]
  obtain ⟨c, d, dt, sl⟩ := x
  cases dt <;> rfl
noncomputable def hkScan (l : List Obj) : Nat → List Nat → List (Option Obj) :=
  @List.rec Obj (fun _ => Nat → List Nat → List (Option Obj)) (fun _ as => as.map fun _ => none)
    (fun x _ ih k as => @List.rec Nat (fun _ => List (Option Obj)) [] (fun a t _ => @Bool.rec (fun _ => List (Option Obj)) (ih (k + 1) (a :: t)) (hkLive x :: ih (k + 1) t) (Nat.beq a k)) as) l
theorem hkScan_nil (k : Nat) (as : List Nat) : hkScan [] k as = as.map fun _ => none := rfl
theorem hkScan_cons0 (x : Obj) (l : List Obj) (k : Nat) : hkScan (x :: l) k [] = [] := rfl
theorem hkScan_cons (x : Obj) (l : List Obj) (k a : Nat) (t : List Nat) : hkScan (x :: l) k (a :: t) = if a = k then hkLive x :: hkScan l (k + 1) t else hkScan l (k + 1) (a :: t) := by
  show @Bool.rec (fun _ => List (Option Obj)) (hkScan l (k + 1) (a :: t)) (hkLive x :: hkScan l (k + 1) t) (Nat.beq a k) = _
  cases h : Nat.beq a k with
  | true => rw [if_pos (Nat.eq_of_beq_eq_true h)]
  | false => rw [if_neg (Nat.ne_of_beq_eq_false h)]
theorem hkScan_at : ∀ (l : List Obj) (k : Nat) (as : List Nat) (i a : Nat) (o : Obj), as[i]? = some a → (hkScan l k as)[i]? = some (some o) → k ≤ a ∧ ∃ y, l[a - k]? = some y ∧ hkLive y = some o
  | [], k, as, i, a, o, h1, h2 => by
    rw [hkScan_nil, List.getElem?_map, h1] at h2
    cases h2
  | x :: l, k, [], i, a, o, h1, h2 => by simp at h1
  | x :: l, k, b :: t, i, a, o, h1, h2 => by
    rw [hkScan_cons] at h2
    have up : ∀ {as : List Nat} {j : Nat}, as[j]? = some a → (hkScan l (k + 1) as)[j]? = some (some o) → k ≤ a ∧ ∃ y, (x :: l)[a - k]? = some y ∧ hkLive y = some o := fun g1 g2 => by
      obtain ⟨q1, y, q2, q3⟩ := hkScan_at l (k + 1) _ _ a o g1 g2
      refine ⟨by omega, y, ?_, q3⟩
      rw [show a - k = (a - (k + 1)) + 1 by omega, List.getElem?_cons_succ]
      exact q2
    split at h2
    · rename_i hb
      cases i with
      | zero =>
        rw [List.getElem?_cons_zero] at h1 h2
        cases h1
        subst hb
        exact ⟨Nat.le_refl _, x, by rw [Nat.sub_self]; rfl, Option.some.inj h2⟩
      | succ j =>
        rw [List.getElem?_cons_succ] at h1 h2
        exact up h1 h2
    · exact up h1 h2
theorem hk_of {K : Params → Frag} {as : List Addr} (e : ∀ P, as = (K P).map (·.1)) (w : World) (s : Shared) (x : hkScan s.heap.objs.toList 0 as = (K w.params).map fun p => some p.2) : InK K w s.heap := by
  refine InK.of e w s ?_
  refine List.ext_getElem? fun i => ?_
  have ei : as[i]? = ((K w.params)[i]?).map (·.1) := by rw [e w.params, List.getElem?_map]
  have xi : (hkScan s.heap.objs.toList 0 as)[i]? = ((K w.params)[i]?).map (fun p => some p.2) := by rw [x, List.getElem?_map]
  rw [List.getElem?_map, List.getElem?_map]
  cases hp : (K w.params)[i]? with
  | none => rw [hp] at ei; rw [ei]; rfl
  | some p =>
    rw [hp] at ei xi
    rw [ei]
    obtain ⟨_, y, q, hy⟩ := hkScan_at _ 0 as i p.1 p.2 ei xi
    rw [Nat.sub_zero, Array.getElem?_toList] at q
    show some (s.heap.get? p.1) = some (some p.2)
    rw [hkLive_get q, hy]
noncomputable def hkHook (K : Params → Frag) (as : List Addr) (e : ∀ P, as = (K P).map (·.1)) : Hook :=
  ⟨List (Option Obj), fun s => hkScan s.heap.objs.toList 0 as, fun w => (K w.params).map fun p => some p.2, InK K, hk_of e, InK.keeps⟩
theorem hkIn_of {K : Params → Frag} {as : List Addr} {e : ∀ P, as = (K P).map (·.1)} {w : World} {h : Heap} (Y : (hkHook K as e).says w h) : (K w.params).In h := Y
end U
local macro_rules | `(tactic| o_head ($_:ident $k $a $e)) => `(tactic| o_head (@U.hkHook $k $a (by as_aux_lemma => exact $e)))
set_option maxRecDepth 100000 in
set_option maxHeartbeats 0 in
theorem PySem.Challenge.cw_unseenflips_k01_errors_and_what_they_kee_holds : PySem.Challenge.rw_unseenflips_k01_errors_and_what_they_kee.Holds := by
  w_on; o_law; k_head; (case hw => w_witness2)
  k_fill
  refine U.walk (l := PySem.Challenge.rw_unseenflips_k01_errors_and_what_they_kee) rfl rfl (fun w h Y => U.hkIn_of Y) ?F
  case F =>
    intro w mg fa h KX G hmg
    refine' U.all_mk KX G hmg ?a_l_seed ?l_l_seed ?c_l_seed ?k_l_seed ?a_l_choose ?l_l_choose ?c_l_choose ?k_l_choose ?a_l_one_of ?l_l_one_of ?c_l_one_of ?k_l_one_of ?a_l_leaf ?l_l_leaf ?c_l_leaf ?k_l_leaf ?a_l_any ?l_l_any ?c_l_any ?k_l_any ?a_l_kept ?l_l_kept ?c_l_kept ?k_l_kept ?a_l_sorts ?l_l_sorts ?c_l_sorts ?k_l_sorts ?a_law ?l_law ?c_law ?k_law ?aC_InvalidRule ?elk_InvalidRule ?erf_InvalidRule ?sa_InvalidRule ?exC_InvalidRule ?tyC_InvalidRule ?kC_InvalidRule ?no_InvalidRule ?a_InvalidRule ?t_InvalidRule ?lk_InvalidRule ?cd_InvalidRule ?cell_InvalidRule ?code_InvalidRule ?cfl_InvalidRule ?fl_InvalidRule ?tp_InvalidRule ?sub_InvalidRule ?sup_InvalidRule ?opq_InvalidRule ?ini_InvalidRule ?ve_InvalidRule ?ehd_InvalidRule ?esb_InvalidRule ?aC_InvalidCheck ?elk_InvalidCheck ?erf_InvalidCheck ?sa_InvalidCheck ?exC_InvalidCheck ?tyC_InvalidCheck ?kC_InvalidCheck ?no_InvalidCheck ?a_InvalidCheck ?t_InvalidCheck ?lk_InvalidCheck ?cd_InvalidCheck ?cell_InvalidCheck ?code_InvalidCheck ?cfl_InvalidCheck ?fl_InvalidCheck ?tp_InvalidCheck ?sub_InvalidCheck ?sup_InvalidCheck ?opq_InvalidCheck ?ini_InvalidCheck ?ve_InvalidCheck ?ehd_InvalidCheck ?esb_InvalidCheck ?aC_InvalidText ?elk_InvalidText ?erf_InvalidText ?sa_InvalidText ?exC_InvalidText ?tyC_InvalidText ?kC_InvalidText ?no_InvalidText ?a_InvalidText ?t_InvalidText ?lk_InvalidText ?cd_InvalidText ?cell_InvalidText ?code_InvalidText ?cfl_InvalidText ?fl_InvalidText ?tp_InvalidText ?sub_InvalidText ?sup_InvalidText ?opq_InvalidText ?ini_InvalidText ?ve_InvalidText ?ehd_InvalidText ?esb_InvalidText ?aC_InvalidHits ?elk_InvalidHits ?erf_InvalidHits ?sa_InvalidHits ?exC_InvalidHits ?tyC_InvalidHits ?kC_InvalidHits ?no_InvalidHits ?a_InvalidHits ?t_InvalidHits ?lk_InvalidHits ?cd_InvalidHits ?cell_InvalidHits ?code_InvalidHits ?cfl_InvalidHits ?fl_InvalidHits ?tp_InvalidHits ?sub_InvalidHits ?sup_InvalidHits ?opq_InvalidHits ?ini_InvalidHits ?ve_InvalidHits ?ehd_InvalidHits ?esb_InvalidHits ?aC_Refused ?elk_Refused ?erf_Refused ?sa_Refused ?exC_Refused ?tyC_Refused ?kC_Refused ?no_Refused ?a_Refused ?t_Refused ?lk_Refused ?cd_Refused ?cell_Refused ?code_Refused ?cfl_Refused ?fl_Refused ?tp_Refused ?sub_Refused ?sup_Refused ?opq_Refused ?ini_Refused ?ve_Refused ?ehd_Refused ?esb_Refused ?aC_InvalidWord ?elk_InvalidWord ?erf_InvalidWord ?sa_InvalidWord ?exC_InvalidWord ?tyC_InvalidWord ?kC_InvalidWord ?no_InvalidWord ?a_InvalidWord ?t_InvalidWord ?lk_InvalidWord ?cd_InvalidWord ?cell_InvalidWord ?code_InvalidWord ?cfl_InvalidWord ?fl_InvalidWord ?tp_InvalidWord ?sub_InvalidWord ?sup_InvalidWord ?opq_InvalidWord ?ini_InvalidWord ?ve_InvalidWord ?ehd_InvalidWord ?esb_InvalidWord ?aC_InvalidCommand ?elk_InvalidCommand ?erf_InvalidCommand ?sa_InvalidCommand ?exC_InvalidCommand ?tyC_InvalidCommand ?kC_InvalidCommand ?no_InvalidCommand ?a_InvalidCommand ?t_InvalidCommand ?lk_InvalidCommand ?cd_InvalidCommand ?cell_InvalidCommand ?code_InvalidCommand ?cfl_InvalidCommand ?fl_InvalidCommand ?tp_InvalidCommand ?sub_InvalidCommand ?sup_InvalidCommand ?opq_InvalidCommand ?ini_InvalidCommand ?ve_InvalidCommand ?ehd_InvalidCommand ?esb_InvalidCommand ?ega_InvalidRule ?egg_InvalidRule ?ega_InvalidCheck ?egg_InvalidCheck ?ega_InvalidText ?egg_InvalidText ?ega_InvalidHits ?egg_InvalidHits ?ega_Refused ?egg_Refused ?aGI_InvalidRule ?aGI_InvalidCheck ?aGI_InvalidText ?aGI_InvalidWord ?aGI_InvalidHits ?aGI_InvalidCommand ?aGI_Refused ?aGI_FlipError ?z_ValueError ?z_KeyError ?z_IndexError ?xg_InvalidRule ?xk_InvalidRule ?xs_InvalidRule ?xd_InvalidRule ?xa_InvalidRule ?clg_X ?clt_X ?xm_InvalidRule ?xg_InvalidCheck ?xk_InvalidCheck ?xs_InvalidCheck ?xd_InvalidCheck ?xa_InvalidCheck ?xm_InvalidCheck ?xg_InvalidText ?xk_InvalidText ?xs_InvalidText ?xd_InvalidText ?xa_InvalidText ?xm_InvalidText ?xg_InvalidWord ?xk_InvalidWord ?xs_InvalidWord ?xd_InvalidWord ?xa_InvalidWord ?xm_InvalidWord ?xg_InvalidHits ?xk_InvalidHits ?xs_InvalidHits ?xd_InvalidHits ?xa_InvalidHits ?xm_InvalidHits ?xg_InvalidCommand ?xk_InvalidCommand ?xs_InvalidCommand ?xd_InvalidCommand ?xa_InvalidCommand ?xm_InvalidCommand ?xg_Refused ?xk_Refused ?xs_Refused ?xd_Refused ?xa_Refused ?xm_Refused ?xg_GFlipError ?xk_GFlipError ?xs_GFlipError ?xd_GFlipError ?xa_GFlipError ?xm_GFlipError ?kon_xn_Flip ?kn_Flip ?kon_of_InvalidRule_InvalidRule ?kon_of_InvalidRule_InvalidCheck ?kon_of_InvalidRule_InvalidText ?kon_of_InvalidRule_InvalidWord ?kon_of_InvalidRule_InvalidHits ?kon_of_InvalidRule_InvalidCommand ?kon_of_InvalidRule_Refused ?kon_of_InvalidCheck_InvalidRule ?kon_of_InvalidCheck_InvalidCheck ?kon_of_InvalidCheck_InvalidText ?kon_of_InvalidCheck_InvalidWord ?kon_of_InvalidCheck_InvalidHits ?kon_of_InvalidCheck_InvalidCommand ?kon_of_InvalidCheck_Refused ?kon_of_InvalidText_InvalidRule ?kon_of_InvalidText_InvalidCheck ?kon_of_InvalidText_InvalidText ?kon_of_InvalidText_InvalidWord ?kon_of_InvalidText_InvalidHits ?kon_of_InvalidText_InvalidCommand ?kon_of_InvalidText_Refused ?kon_of_InvalidWord_InvalidRule ?kon_of_InvalidWord_InvalidCheck ?kon_of_InvalidWord_InvalidText ?kon_of_InvalidWord_InvalidWord ?kon_of_InvalidWord_InvalidHits ?kon_of_InvalidWord_InvalidCommand ?kon_of_InvalidWord_Refused ?kon_of_InvalidHits_InvalidRule ?kon_of_InvalidHits_InvalidCheck ?kon_of_InvalidHits_InvalidText ?kon_of_InvalidHits_InvalidWord ?kon_of_InvalidHits_InvalidHits ?kon_of_InvalidHits_InvalidCommand ?kon_of_InvalidHits_Refused ?kon_of_InvalidCommand_InvalidRule ?kon_of_InvalidCommand_InvalidCheck ?kon_of_InvalidCommand_InvalidText ?kon_of_InvalidCommand_InvalidWord ?kon_of_InvalidCommand_InvalidHits ?kon_of_InvalidCommand_InvalidCommand ?kon_of_InvalidCommand_Refused ?kon_of_Refused_InvalidRule ?kon_of_Refused_InvalidCheck ?kon_of_Refused_InvalidText ?kon_of_Refused_InvalidWord ?kon_of_Refused_InvalidHits ?kon_of_Refused_InvalidCommand ?kon_of_Refused_Refused ?kon_of_InvalidRule_Flip ?kon_of_InvalidRule_Value ?kon_of_Flip_InvalidRule ?kon_of_InvalidCheck_Flip ?kon_of_InvalidCheck_Value ?kon_of_Flip_InvalidCheck ?kon_of_InvalidText_Flip ?kon_of_InvalidText_Value ?kon_of_Flip_InvalidText ?kon_of_InvalidWord_Flip ?kon_of_InvalidWord_Value ?kon_of_Flip_InvalidWord ?kon_of_InvalidHits_Flip ?kon_of_InvalidHits_Value ?kon_of_Flip_InvalidHits ?kon_of_InvalidCommand_Flip ?kon_of_InvalidCommand_Value ?kon_of_Flip_InvalidCommand ?kon_of_Refused_Flip ?kon_of_Refused_Value ?kon_of_Flip_Refused ?kon_of_Flip_KeyError ?kon_of_Flip_IndexError ?z_len ?z_abs ?z_int ?z_range ?z_max ?z_min ?z_enumerate ?z_zip ?z_dict ?z_list ?z_tuple ?z_isinstance ?z_bool ?z_str ?z_all ?z_any ?z_sum ?z_sorted ?z_repr
    (case a_l_seed => k_is)
    (case l_l_seed => k_is)
    (case c_l_seed => k_is)
    (case k_l_seed => k_is)
    (case a_l_choose => k_is)
    (case l_l_choose => k_is)
    (case c_l_choose => k_is)
    (case k_l_choose => k_is)
    (case a_l_one_of => k_is)
    (case l_l_one_of => k_is)
    (case c_l_one_of => k_is)
    (case k_l_one_of => k_is)
    (case a_l_leaf => k_is)
    (case l_l_leaf => k_is)
    (case c_l_leaf => k_is)
    (case k_l_leaf => k_is)
    (case a_l_any => k_is)
    (case l_l_any => k_is)
    (case c_l_any => k_is)
    (case k_l_any => k_is)
    (case a_l_kept => k_is)
    (case l_l_kept => k_is)
    (case c_l_kept => k_is)
    (case k_l_kept => k_is)
    (case a_l_sorts => k_is)
    (case l_l_sorts => k_is)
    (case c_l_sorts => k_is)
    (case k_l_sorts => k_is)
    (case a_law => k_is)
    (case l_law => k_is)
    (case c_law => k_is)
    (case k_law => k_is)
    (case aC_InvalidRule => k_is)
    (case elk_InvalidRule => k_is)
    (case erf_InvalidRule => decide +kernel)
    (case sa_InvalidRule => k_is)
    (case exC_InvalidRule => k_is)
    (case tyC_InvalidRule => k_is)
    (case kC_InvalidRule => k_is)
    (case no_InvalidRule => k_is)
    (case a_InvalidRule => k_is)
    (case t_InvalidRule => k_is)
    (case lk_InvalidRule => k_is)
    (case cd_InvalidRule => k_is)
    (case cell_InvalidRule => k_is)
    (case code_InvalidRule => k_is)
    (case cfl_InvalidRule => exact rfl)
    (case fl_InvalidRule => decide +kernel)
    (case tp_InvalidRule => decide +kernel)
    (case sub_InvalidRule => k_is)
    (case sup_InvalidRule => k_is)
    (case opq_InvalidRule => k_is)
    (case ini_InvalidRule => kernel_rfl)
    (case ve_InvalidRule => k_is)
    (case ehd_InvalidRule => k_is)
    (case esb_InvalidRule => k_is)
    (case aC_InvalidCheck => k_is)
    (case elk_InvalidCheck => k_is)
    (case erf_InvalidCheck => decide +kernel)
    (case sa_InvalidCheck => k_is)
    (case exC_InvalidCheck => k_is)
    (case tyC_InvalidCheck => k_is)
    (case kC_InvalidCheck => k_is)
    (case no_InvalidCheck => k_is)
    (case a_InvalidCheck => k_is)
    (case t_InvalidCheck => k_is)
    (case lk_InvalidCheck => k_is)
    (case cd_InvalidCheck => k_is)
    (case cell_InvalidCheck => k_is)
    (case code_InvalidCheck => k_is)
    (case cfl_InvalidCheck => exact rfl)
    (case fl_InvalidCheck => decide +kernel)
    (case tp_InvalidCheck => decide +kernel)
    (case sub_InvalidCheck => k_is)
    (case sup_InvalidCheck => k_is)
    (case opq_InvalidCheck => k_is)
    (case ini_InvalidCheck => kernel_rfl)
    (case ve_InvalidCheck => k_is)
    (case ehd_InvalidCheck => k_is)
    (case esb_InvalidCheck => k_is)
    (case aC_InvalidText => k_is)
    (case elk_InvalidText => k_is)
    (case erf_InvalidText => decide +kernel)
    (case sa_InvalidText => k_is)
    (case exC_InvalidText => k_is)
    (case tyC_InvalidText => k_is)
    (case kC_InvalidText => k_is)
    (case no_InvalidText => k_is)
    (case a_InvalidText => k_is)
    (case t_InvalidText => k_is)
    (case lk_InvalidText => k_is)
    (case cd_InvalidText => k_is)
    (case cell_InvalidText => k_is)
    (case code_InvalidText => k_is)
    (case cfl_InvalidText => exact rfl)
    (case fl_InvalidText => decide +kernel)
    (case tp_InvalidText => decide +kernel)
    (case sub_InvalidText => k_is)
    (case sup_InvalidText => k_is)
    (case opq_InvalidText => k_is)
    (case ini_InvalidText => kernel_rfl)
    (case ve_InvalidText => k_is)
    (case ehd_InvalidText => k_is)
    (case esb_InvalidText => k_is)
    (case aC_InvalidHits => k_is)
    (case elk_InvalidHits => k_is)
    (case erf_InvalidHits => decide +kernel)
    (case sa_InvalidHits => k_is)
    (case exC_InvalidHits => k_is)
    (case tyC_InvalidHits => k_is)
    (case kC_InvalidHits => k_is)
    (case no_InvalidHits => k_is)
    (case a_InvalidHits => k_is)
    (case t_InvalidHits => k_is)
    (case lk_InvalidHits => k_is)
    (case cd_InvalidHits => k_is)
    (case cell_InvalidHits => k_is)
    (case code_InvalidHits => k_is)
    (case cfl_InvalidHits => exact rfl)
    (case fl_InvalidHits => decide +kernel)
    (case tp_InvalidHits => decide +kernel)
    (case sub_InvalidHits => k_is)
    (case sup_InvalidHits => k_is)
    (case opq_InvalidHits => k_is)
    (case ini_InvalidHits => kernel_rfl)
    (case ve_InvalidHits => k_is)
    (case ehd_InvalidHits => k_is)
    (case esb_InvalidHits => k_is)
    (case aC_Refused => k_is)
    (case elk_Refused => k_is)
    (case erf_Refused => decide +kernel)
    (case sa_Refused => k_is)
    (case exC_Refused => k_is)
    (case tyC_Refused => k_is)
    (case kC_Refused => k_is)
    (case no_Refused => k_is)
    (case a_Refused => k_is)
    (case t_Refused => k_is)
    (case lk_Refused => k_is)
    (case cd_Refused => k_is)
    (case cell_Refused => k_is)
    (case code_Refused => k_is)
    (case cfl_Refused => exact rfl)
    (case fl_Refused => decide +kernel)
    (case tp_Refused => decide +kernel)
    (case sub_Refused => k_is)
    (case sup_Refused => k_is)
    (case opq_Refused => k_is)
    (case ini_Refused => kernel_rfl)
    (case ve_Refused => k_is)
    (case ehd_Refused => k_is)
    (case esb_Refused => k_is)
    (case aC_InvalidWord => k_is)
    (case elk_InvalidWord => k_is)
    (case erf_InvalidWord => decide +kernel)
    (case sa_InvalidWord => k_is)
    (case exC_InvalidWord => k_is)
    (case tyC_InvalidWord => k_is)
    (case kC_InvalidWord => k_is)
    (case no_InvalidWord => k_is)
    (case a_InvalidWord => k_is)
    (case t_InvalidWord => k_is)
    (case lk_InvalidWord => k_is)
    (case cd_InvalidWord => k_is)
    (case cell_InvalidWord => k_is)
    (case code_InvalidWord => k_is)
    (case cfl_InvalidWord => exact rfl)
    (case fl_InvalidWord => decide +kernel)
    (case tp_InvalidWord => decide +kernel)
    (case sub_InvalidWord => k_is)
    (case sup_InvalidWord => k_is)
    (case opq_InvalidWord => k_is)
    (case ini_InvalidWord => kernel_rfl)
    (case ve_InvalidWord => k_is)
    (case ehd_InvalidWord => k_is)
    (case esb_InvalidWord => k_is)
    (case aC_InvalidCommand => k_is)
    (case elk_InvalidCommand => k_is)
    (case erf_InvalidCommand => decide +kernel)
    (case sa_InvalidCommand => k_is)
    (case exC_InvalidCommand => k_is)
    (case tyC_InvalidCommand => k_is)
    (case kC_InvalidCommand => k_is)
    (case no_InvalidCommand => k_is)
    (case a_InvalidCommand => k_is)
    (case t_InvalidCommand => k_is)
    (case lk_InvalidCommand => k_is)
    (case cd_InvalidCommand => k_is)
    (case cell_InvalidCommand => k_is)
    (case code_InvalidCommand => k_is)
    (case cfl_InvalidCommand => exact rfl)
    (case fl_InvalidCommand => decide +kernel)
    (case tp_InvalidCommand => decide +kernel)
    (case sub_InvalidCommand => k_is)
    (case sup_InvalidCommand => k_is)
    (case opq_InvalidCommand => k_is)
    (case ini_InvalidCommand => kernel_rfl)
    (case ve_InvalidCommand => k_is)
    (case ehd_InvalidCommand => k_is)
    (case esb_InvalidCommand => k_is)
    (case ega_InvalidRule => k_is)
    (case egg_InvalidRule => k_is)
    (case ega_InvalidCheck => k_is)
    (case egg_InvalidCheck => k_is)
    (case ega_InvalidText => k_is)
    (case egg_InvalidText => k_is)
    (case ega_InvalidHits => k_is)
    (case egg_InvalidHits => k_is)
    (case ega_Refused => k_is)
    (case egg_Refused => k_is)
    (case aGI_InvalidRule => k_is)
    (case aGI_InvalidCheck => k_is)
    (case aGI_InvalidText => k_is)
    (case aGI_InvalidWord => k_is)
    (case aGI_InvalidHits => k_is)
    (case aGI_InvalidCommand => k_is)
    (case aGI_Refused => k_is)
    (case aGI_FlipError => k_is)
    (case z_ValueError => k_is)
    (case z_KeyError => k_is)
    (case z_IndexError => k_is)
    (case xg_InvalidRule => k_is)
    (case xk_InvalidRule => k_is)
    (case xs_InvalidRule => k_is)
    (case xd_InvalidRule => k_is)
    (case xa_InvalidRule => k_is)
    (case clg_X => k_is)
    (case clt_X => k_is)
    (case xm_InvalidRule => k_is)
    (case xg_InvalidCheck => k_is)
    (case xk_InvalidCheck => k_is)
    (case xs_InvalidCheck => k_is)
    (case xd_InvalidCheck => k_is)
    (case xa_InvalidCheck => k_is)
    (case xm_InvalidCheck => k_is)
    (case xg_InvalidText => k_is)
    (case xk_InvalidText => k_is)
    (case xs_InvalidText => k_is)
    (case xd_InvalidText => k_is)
    (case xa_InvalidText => k_is)
    (case xm_InvalidText => k_is)
    (case xg_InvalidWord => k_is)
    (case xk_InvalidWord => k_is)
    (case xs_InvalidWord => k_is)
    (case xd_InvalidWord => k_is)
    (case xa_InvalidWord => k_is)
    (case xm_InvalidWord => k_is)
    (case xg_InvalidHits => k_is)
    (case xk_InvalidHits => k_is)
    (case xs_InvalidHits => k_is)
    (case xd_InvalidHits => k_is)
    (case xa_InvalidHits => k_is)
    (case xm_InvalidHits => k_is)
    (case xg_InvalidCommand => k_is)
    (case xk_InvalidCommand => k_is)
    (case xs_InvalidCommand => k_is)
    (case xd_InvalidCommand => k_is)
    (case xa_InvalidCommand => k_is)
    (case xm_InvalidCommand => k_is)
    (case xg_Refused => k_is)
    (case xk_Refused => k_is)
    (case xs_Refused => k_is)
    (case xd_Refused => k_is)
    (case xa_Refused => k_is)
    (case xm_Refused => k_is)
    (case xg_GFlipError => k_is)
    (case xk_GFlipError => k_is)
    (case xs_GFlipError => k_is)
    (case xd_GFlipError => k_is)
    (case xa_GFlipError => k_is)
    (case xm_GFlipError => k_is)
    (case kon_xn_Flip => kernel_rfl)
    (case kn_Flip => k_is)
    (case kon_of_InvalidRule_InvalidRule => kernel_rfl)
    (case kon_of_InvalidRule_InvalidCheck => kernel_rfl)
    (case kon_of_InvalidRule_InvalidText => kernel_rfl)
    (case kon_of_InvalidRule_InvalidWord => kernel_rfl)
    (case kon_of_InvalidRule_InvalidHits => kernel_rfl)
    (case kon_of_InvalidRule_InvalidCommand => kernel_rfl)
    (case kon_of_InvalidRule_Refused => kernel_rfl)
    (case kon_of_InvalidCheck_InvalidRule => kernel_rfl)
    (case kon_of_InvalidCheck_InvalidCheck => kernel_rfl)
    (case kon_of_InvalidCheck_InvalidText => kernel_rfl)
    (case kon_of_InvalidCheck_InvalidWord => kernel_rfl)
    (case kon_of_InvalidCheck_InvalidHits => kernel_rfl)
    (case kon_of_InvalidCheck_InvalidCommand => kernel_rfl)
    (case kon_of_InvalidCheck_Refused => kernel_rfl)
    (case kon_of_InvalidText_InvalidRule => kernel_rfl)
    (case kon_of_InvalidText_InvalidCheck => kernel_rfl)
    (case kon_of_InvalidText_InvalidText => kernel_rfl)
    (case kon_of_InvalidText_InvalidWord => kernel_rfl)
    (case kon_of_InvalidText_InvalidHits => kernel_rfl)
    (case kon_of_InvalidText_InvalidCommand => kernel_rfl)
    (case kon_of_InvalidText_Refused => kernel_rfl)
    (case kon_of_InvalidWord_InvalidRule => kernel_rfl)
    (case kon_of_InvalidWord_InvalidCheck => kernel_rfl)
    (case kon_of_InvalidWord_InvalidText => kernel_rfl)
    (case kon_of_InvalidWord_InvalidWord => kernel_rfl)
    (case kon_of_InvalidWord_InvalidHits => kernel_rfl)
    (case kon_of_InvalidWord_InvalidCommand => kernel_rfl)
    (case kon_of_InvalidWord_Refused => kernel_rfl)
    (case kon_of_InvalidHits_InvalidRule => kernel_rfl)
    (case kon_of_InvalidHits_InvalidCheck => kernel_rfl)
    (case kon_of_InvalidHits_InvalidText => kernel_rfl)
    (case kon_of_InvalidHits_InvalidWord => kernel_rfl)
    (case kon_of_InvalidHits_InvalidHits => kernel_rfl)
    (case kon_of_InvalidHits_InvalidCommand => kernel_rfl)
    (case kon_of_InvalidHits_Refused => kernel_rfl)
    (case kon_of_InvalidCommand_InvalidRule => kernel_rfl)
    (case kon_of_InvalidCommand_InvalidCheck => kernel_rfl)
    (case kon_of_InvalidCommand_InvalidText => kernel_rfl)
    (case kon_of_InvalidCommand_InvalidWord => kernel_rfl)
    (case kon_of_InvalidCommand_InvalidHits => kernel_rfl)
    (case kon_of_InvalidCommand_InvalidCommand => kernel_rfl)
    (case kon_of_InvalidCommand_Refused => kernel_rfl)
    (case kon_of_Refused_InvalidRule => kernel_rfl)
    (case kon_of_Refused_InvalidCheck => kernel_rfl)
    (case kon_of_Refused_InvalidText => kernel_rfl)
    (case kon_of_Refused_InvalidWord => kernel_rfl)
    (case kon_of_Refused_InvalidHits => kernel_rfl)
    (case kon_of_Refused_InvalidCommand => kernel_rfl)
    (case kon_of_Refused_Refused => kernel_rfl)
    (case kon_of_InvalidRule_Flip => kernel_rfl)
    (case kon_of_InvalidRule_Value => kernel_rfl)
    (case kon_of_Flip_InvalidRule => kernel_rfl)
    (case kon_of_InvalidCheck_Flip => kernel_rfl)
    (case kon_of_InvalidCheck_Value => kernel_rfl)
    (case kon_of_Flip_InvalidCheck => kernel_rfl)
    (case kon_of_InvalidText_Flip => kernel_rfl)
    (case kon_of_InvalidText_Value => kernel_rfl)
    (case kon_of_Flip_InvalidText => kernel_rfl)
    (case kon_of_InvalidWord_Flip => kernel_rfl)
    (case kon_of_InvalidWord_Value => kernel_rfl)
    (case kon_of_Flip_InvalidWord => kernel_rfl)
    (case kon_of_InvalidHits_Flip => kernel_rfl)
    (case kon_of_InvalidHits_Value => kernel_rfl)
    (case kon_of_Flip_InvalidHits => kernel_rfl)
    (case kon_of_InvalidCommand_Flip => kernel_rfl)
    (case kon_of_InvalidCommand_Value => kernel_rfl)
    (case kon_of_Flip_InvalidCommand => kernel_rfl)
    (case kon_of_Refused_Flip => kernel_rfl)
    (case kon_of_Refused_Value => kernel_rfl)
    (case kon_of_Flip_Refused => kernel_rfl)
    (case kon_of_Flip_KeyError => kernel_rfl)
    (case kon_of_Flip_IndexError => kernel_rfl)
    (case z_len => k_is)
    (case z_abs => k_is)
    (case z_int => k_is)
    (case z_range => k_is)
    (case z_max => k_is)
    (case z_min => k_is)
    (case z_enumerate => k_is)
    (case z_zip => k_is)
    (case z_dict => k_is)
    (case z_list => k_is)
    (case z_tuple => k_is)
    (case z_isinstance => k_is)
    (case z_bool => k_is)
    (case z_str => k_is)
    (case z_all => k_is)
    (case z_any => k_is)
    (case z_sum => k_is)
    (case z_sorted => k_is)
    (case z_repr => k_is)
#print axioms PySem.Challenge.cw_unseenflips_k01_errors_and_what_they_kee_holds