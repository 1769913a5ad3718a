import PyProof.Rows.All
import Wide.All
import OpenK.AllK
import Wide.FinOn
import HandS.ForMost
import HandS.Codes
import HandS.FStr
import HandS.IsInst
import HandS.Star
import HandS.TupAny
import HandS.Style
import HandS.Walk
import KE.GoesEnum
import KE.GoesNew
import HandS.Property
import HandS.Defaults
import HandS.ClsMeth
import HandS.MakeKw
import KE.GoesZip
import HandS.SortOrd
import HandS.SortRule
import HandS.OwnEq
import HandS.CallLocal
import KE.KCallOwn
import HandS.ExcInit
import HandS.Nested
import HandS.TryOnly
import KE.KExcSuper
import HandS.ExcOwn
import HandS.ExcIs
import KE.KDictPairs
import HandS.Replace
import HandS.DictComp
import PyProof.Rows.SortShellAny
import HandS.RaiseMore
import HandS.More
import PySem.Challenge.RW_unseenflips_k37_rate_papers_spoilt
set_option Elab.async false
set_option linter.all false
set_option maxRecDepth 100000
set_option maxHeartbeats 4000000
namespace Lx
open PySem PySem.Spec PyProof.Rows L2
def ItES (x : Str) : It := ⟨fun i _ => i < x.cps.size, fun i H v H' => ∃ T c, v = .ref T ∧ H T = none ∧ H' = upd H T (.tup [.int (i : Nat), .str ⟨#[c]⟩]) ∧ x.cps[i]? = some c, fun i _ => x.cps.size ≤ i⟩
theorem turn_enumS {P : Program} {w : World} {K : PySem.W.Frag} {elts : List Expr} {kk : Nat} {tpos : Pos} (x : Str) (t : Tok) (e it : Addr) :
    Turn P w K (.Tuple elts kk tpos) (ItES x) [e, it] e (fun i h => (∃ old, IsEnum h e it ((i : Nat) : Int) old) ∧ h.IsStrIter it (strIterType x) x t i ∧ e ≠ it ∧ i ≤ x.cps.size) where
  mem := by simp
  obj := fun i h st b hb => by
    obtain ⟨⟨old, he⟩, ⟨o, ho, hc, hd⟩, _⟩ := st
    have e' : b = e ∨ b = it := by simpa using hb
    rcases e' with z | z
    · rw [z]; exact ⟨_, he, fun v q => nomatch q⟩
    · rw [z]; exact ⟨o, ho, fun v q => by rw [hd] at q; cases q⟩
  keep := fun i h h' st k => by
    obtain ⟨⟨old, he⟩, ⟨o, ho, r⟩, hne⟩ := st
    exact ⟨⟨old, k e (by simp) _ he⟩, ⟨o, k it (by simp) o ho, r⟩, hne⟩
  item := by
    intro X hP hw hK hc i pins s σ H E I hf st hg
    subst hP hw hK
    obtain ⟨⟨old, he⟩, hit, hne, _⟩ := st
    have hlt : i < x.cps.size := hg
    have hel : e < s.heap.objs.size := Heap.lt_size he
    have hil : it < s.heap.objs.size := by obtain ⟨_, q, _⟩ := hit; exact Heap.lt_size q
    have hh : X.A.in1.handled = none := I.ok.hd hc
    refine wpAny_pyNext_enum_itemC (Draws.text hh it x t) he hit hlt hne (by simpa using hne) fun v h' tk hP ho hit' hT hsz hk => ?_
    obtain ⟨c, u, hcx, rfl⟩ := hP
    refine ⟨_, rfl, wpAny_letOwnedTupleGo_enum (s := { s with heap := h', toks := tk + 1 }) ho fun h'' he' sb => ?_⟩
    have hT2 : h''.get? s.heap.objs.size = some { cls := .type "tuple", data := .seq #[.int i tk, .str ⟨#[c]⟩ u] } := (sb.2 _ (Nat.ne_of_gt hel)).trans hT
    have new : ObjOk X.prog X.w (upd H s.heap.objs.size (.tup [.int (i : Nat), .str ⟨#[c]⟩])) h'' s.heap.objs.size (.tup [.int (i : Nat), .str ⟨#[c]⟩]) :=
      ⟨by show 2 ≤ sizeLine; decide, [.int i tk, .str ⟨#[c]⟩ u], .cons ⟨_, rfl⟩ (.cons ⟨_, rfl⟩ .nil), ⟨_, hT2, rfl, _, rfl⟩⟩
    have I1 : Inv X pins σ (upd H s.heap.objs.size (.tup [.int (i : Nat), .str ⟨#[c]⟩])) { s with heap := h'', toks := tk + 1 } :=
      I.turnedNew (ch := [e, it]) (fun b ob hb q => (sb.2 b (fun z => hb (by simp [z]))).trans (hk b ob (fun z => hb (by simp [z])) (fun z => hb (by simp [z])) q)) hf (Nat.le_refl _) new
    refine ⟨.ref s.heap.objs.size, _, I1, rfl, ⟨_, c, rfl, I.hok.fresh (Nat.le_refl _), rfl, hcx⟩, ⟨⟨.str ⟨#[c]⟩ u, ?_⟩, ?_, hne, hlt⟩, fun b hb => ?_⟩
    · have e1 : ((i + 1 : Nat) : Int) = (i : Int) + 1 := by omega
      rw [e1]; exact he'
    · obtain ⟨o, ho', r⟩ := hit'
      exact ⟨o, (sb.2 it (Ne.symm hne)).trans ho', r⟩
    · have hb' : b < s.heap.objs.size := by
        have e' : b = e ∨ b = it := by simpa using hb
        rcases e' with z | z
        · rw [z]; exact hel
        · rw [z]; exact hil
      rw [upd_ne (Nat.ne_of_lt hb')]
      exact (hf b hb).1
  done := by
    intro X hP hw hK hc i pins s σ H E I hf st hg
    subst hP hw hK
    obtain ⟨⟨old, he⟩, hit, hne, hle⟩ := st
    have hge : x.cps.size ≤ i := hg
    have hi : i = x.cps.size := Nat.le_antisymm hle hge
    subst hi
    have hh : X.A.in1.handled = none := I.ok.hd hc
    obtain ⟨f0, f1, f2, f3, f4, f5⟩ := hf it (by simp)
    exact wpAny_pyNext_enum_endD (Draws.text hh it x t) he hit fun h' eb => ⟨rfl, I.turned (t' := s.toks) (fun b o hb q => eb b o hb q) f0 f1 f3 f4 f5⟩
  self := fun A i s Q E st h => let ⟨⟨_, he⟩, _⟩ := st; wpAny_pyIter_enum he h
def iEnumS (ta : TA) : TI := fun σ H R => ta σ H fun vs H1 => ∃ x, vs = [.str x] ∧ R (ItES x) H1
theorem pi_enumS {X : Cx} {e : Expr} {ta : TA} {p pos tpos : Pos} {elts : List Expr} {kk : Nat} (hg : Gl X "enumerate") (hm : X.mg "enumerate" = none) (ha : PA X [e] ta) (hs : starEach [e] X.env = [(false, eval e X.env)] := by rfl) :
    PI X (.Tuple elts kk tpos) (.Call (.Name "enumerate" p) [e] [] pos) (iEnumS ta) := by
  refine ⟨fun pins s σ H R I h => ?_⟩
  refine Call_ (ld_blt I hg hm boot_enumerate (PyProof.Rows.callWith_type1 (thn (ha.run pos pins s σ H _ I h) fun us s1 ⟨vs, H1, I1, r1, q1⟩ => ?_) hs rfl))
  obtain ⟨x, ex, q⟩ := q1
  subst ex
  cases r1 with
  | cons r rr =>
    cases rr
    obtain ⟨t, rfl⟩ := r
    refine call_enumerate_str fun h' he hit hsz hk => wpAny_pyIter_enum he ?_
    have I2 : Inv X pins σ H1 { s1 with heap := h' } := I1.kept (t' := s1.toks) hk
    refine ⟨s1.heap.objs.size + 1, [s1.heap.objs.size + 1, s1.heap.objs.size], _, _, H1, rfl, I2, turn_enumS x t (s1.heap.objs.size + 1) s1.heap.objs.size, ⟨⟨.none, he⟩, hit, Nat.succ_ne_self _, Nat.zero_le _⟩, fun b hb => ?_, q⟩
    have e' : b = s1.heap.objs.size + 1 ∨ b = s1.heap.objs.size := by simpa using hb
    have hle : s1.heap.objs.size ≤ b := by
      rcases e' with z | z
      · rw [z]; exact Nat.le_add_right _ _
      · rw [z]; exact Nat.le_refl _
    exact I1.fpOk hle (I1.hok.fresh hle)
def ItET (K : PySem.W.Frag) (a : Addr) : It :=
  ⟨fun i H => ∃ (xs : List V) (x : V), SqT K H a xs ∧ xs[i]? = some x, fun i H v H' => ∃ T x, v = .ref T ∧ H T = none ∧ H' = upd H T (.tup [.int (i : Nat), x]) ∧ ∀ xs, SqT K H a xs → xs[i]? = some x, fun i H => ∃ xs : List V, SqT K H a xs ∧ xs.length ≤ i⟩
theorem meets_enumerate_newT (l : Addr) (items : Array Value) (n : Nat) (dct : Option Addr) (sl : Array (Option Value)) :
    Meets (Builtin.«enumerate.__new__» ⟨[.type "enumerate", .ref l], []⟩) (fun _ R s => s.heap.get? l = some { cls := .type "tuple", dict := dct, data := .seq items n, slots := sl } ∧
      R (.ok (.ret (.ref (s.heap.push { cls := .type "tuple_iterator", data := .fields #[.ref l, .int 0 0] }).objs.size)))
        { s with heap := (s.heap.push { cls := .type "tuple_iterator", data := .fields #[.ref l, .int 0 0] }).push { cls := .type "enumerate", data := .fields #[.none, .bool false, .ref s.heap.objs.size, rawInt 0, .none, .none] } }) :=
  .of_wp fun prog w A R s h => by
    obtain ⟨hp, g, d, tk, os⟩ := s; obtain ⟨hl, h⟩ := h
    have hsub := sub_enumerate
    have hL : Heap.IsTuple (Shared.heap ⟨hp, g, d, tk, os⟩) l items := ⟨_, hl, rfl, n, rfl⟩
    wp_walk using AutoSeq1.wpAny_loadPart' hl
    refine wpAny_stack_any fun st => wpAny_pure ?_
    split
    · rename_i c _ _ _ _ _
      cases (c == Value.type "enumerate")
      · wp_walk using AutoSeq1.wpAny_loadPart' hl, wpAny_pyIter_tuple hL
        exact ⟨_, rfl, h⟩
      · wp_walk using AutoSeq1.wpAny_loadPart' hl, wpAny_pyIter_tuple hL
        exact ⟨_, rfl, h⟩
    · wp_walk using AutoSeq1.wpAny_loadPart' hl, wpAny_pyIter_tuple hL
      exact ⟨_, rfl, h⟩
theorem call_enumerate_tup {prog : Program} {w : World} {A : Around} {E : Value → Shared → Prop} {s : Shared} {l : Addr} {items : Array Value} {Q : Value → Shared → Prop} (hL : s.heap.IsTuple l items)
    (h : ∀ h', IsEnum h' (s.heap.objs.size + 1) s.heap.objs.size 0 .none → h'.IsTupleIter s.heap.objs.size l 0 → h'.objs.size = s.heap.objs.size + 2 →
      (∀ b o, s.heap.get? b = some o → h'.get? b = some o) → Q (.ref (s.heap.objs.size + 1)) { s with heap := h' }) :
    wpAny (model prog w) A (call (.type "enumerate") [.ref l]) Q E s := by
  obtain ⟨⟨c, dct, dt, sl⟩, hl, hc, n, hd⟩ := hL
  replace hc : c = .type "tuple" := hc
  replace hd : dt = .seq items n := hd
  subst hc hd
  refine callType_new F.called_enumerate (by decide) (F.typeCall_enumerate_1 _) (F.newCall_enumerate_1 _) (fun obj => F.args_object_init_2 obj _) F.entry_enumerate_new
    (meets_enumerate_newT l items n dct sl) ⟨hl, ?_⟩
  have hz : (s.heap.push { cls := .type "tuple_iterator", data := .fields #[.ref l, .int 0 0] }).objs.size = s.heap.objs.size + 1 := Heap.size_push ..
  show _ ∧ _
  rw [hz]
  have he : IsEnum ((s.heap.push { cls := .type "tuple_iterator", data := .fields #[.ref l, .int 0 0] }).push
      { cls := .type "enumerate", data := .fields #[.none, .bool false, .ref s.heap.objs.size, rawInt 0, .none, .none] }) (s.heap.objs.size + 1) s.heap.objs.size 0 .none := by
    have := Heap.get?_push_size (s.heap.push { cls := .type "tuple_iterator", data := .fields #[.ref l, .int 0 0] })
      (o := { cls := .type "enumerate", data := .fields #[.none, .bool false, .ref s.heap.objs.size, rawInt 0, .none, .none] }) rfl
    rw [hz] at this; exact this
  refine ⟨⟨_, he, rfl⟩, h _ he ⟨_, Heap.get?_push_of_some _ (Heap.get?_push_size _ rfl), rfl, rfl⟩ (by rw [Heap.size_push, hz]) fun b o x => Heap.get?_push_of_some _ (Heap.get?_push_of_some _ x)⟩
theorem turn_enumT {P : Program} {w : World} {K : PySem.W.Frag} {elts : List Expr} {kk : Nat} {tpos : Pos} (a e it : Addr) :
    Turn P w K (.Tuple elts kk tpos) (ItET K a) [e, it] e (fun i h => (∃ old, IsEnum h e it ((i : Nat) : Int) old) ∧ h.IsTupleIter it a i ∧ e ≠ it ∧ a ≠ it ∧ a ≠ e) where
  mem := by simp
  obj := fun i h st b hb => by
    obtain ⟨⟨old, he⟩, ⟨o, ho, hc, hd⟩, _⟩ := st
    have e' : b = e ∨ b = it := by simpa using hb
    rcases e' with z | z
    · rw [z]; exact ⟨_, he, fun v q => nomatch q⟩
    · rw [z]; exact ⟨o, ho, fun v q => by rw [hd] at q; cases q⟩
  keep := fun i h h' st k => by
    obtain ⟨⟨old, he⟩, ⟨o, ho, r⟩, hne⟩ := st
    exact ⟨⟨old, k e (by simp) _ he⟩, ⟨o, k it (by simp) o ho, r⟩, hne⟩
  item := by
    intro X hP hw hK hc i pins s σ H E I hf st hg
    subst hP hw hK
    obtain ⟨⟨old, he⟩, hit, hne, hai, hae⟩ := st
    obtain ⟨xs, x, hq, hx⟩ := hg
    obtain ⟨its, rv, p, hz⟩ := I.tuple hq
    obtain ⟨u, hu, ru⟩ := rv.get hx
    have hel : e < s.heap.objs.size := Heap.lt_size he
    have hil : it < s.heap.objs.size := by obtain ⟨_, q, _⟩ := hit; exact Heap.lt_size q
    have hh : X.A.in1.handled = none := I.ok.hd hc
    have pT : s.heap.IsTuple a its.toArray := p
    have hlt : i < its.toArray.size := by
      have := (List.getElem?_eq_some_iff.mp hu).1
      simpa using this
    refine wpAny_pyNext_enum_itemC (Draws.tuple hh it a hai its.toArray) he ⟨hit, pT⟩ hlt hne (by simp [hne, Ne.symm hae]) fun v h' tk hP ho hit' hT hsz hk => ?_
    have ev : v = u := by
      have hP' : its.toArray[i]? = some v := hP
      rw [List.getElem?_toArray, hu] at hP'
      exact (Option.some.inj hP').symm
    subst ev
    refine ⟨_, rfl, wpAny_letOwnedTupleGo_enum (s := { s with heap := h', toks := tk + 1 }) ho fun h'' he' sb => ?_⟩
    have hT2 : h''.get? s.heap.objs.size = some { cls := .type "tuple", data := .seq #[.int i tk, v] } := (sb.2 _ (Nat.ne_of_gt hel)).trans hT
    have new : ObjOk X.prog X.w (upd H s.heap.objs.size (.tup [.int (i : Nat), x])) h'' s.heap.objs.size (.tup [.int (i : Nat), x]) :=
      ⟨by show 2 ≤ sizeLine; decide, [.int i tk, v], .cons ⟨_, rfl⟩ (.cons ru .nil), ⟨_, hT2, rfl, _, rfl⟩⟩
    have I1 : Inv X pins σ (upd H s.heap.objs.size (.tup [.int (i : Nat), x])) { s with heap := h'', toks := tk + 1 } :=
      I.turnedNew (ch := [e, it]) (fun b ob hb q => (sb.2 b (fun z => hb (by simp [z]))).trans (hk b ob (fun z => hb (by simp [z])) (fun z => hb (by simp [z])) q)) hf (Nat.le_refl _) new
    refine ⟨.ref s.heap.objs.size, _, I1, rfl, ⟨_, x, rfl, I.hok.fresh (Nat.le_refl _), rfl, fun ys hy => by rw [I.tuple_inj hy hq]; exact hx⟩, ⟨⟨v, ?_⟩, ?_, hne, hai, hae⟩, fun b hb => ?_⟩
    · have e1 : ((i + 1 : Nat) : Int) = (i : Int) + 1 := by omega
      rw [e1]; exact he'
    · obtain ⟨⟨o, ho', r⟩, _⟩ := hit'
      exact ⟨o, (sb.2 it (Ne.symm hne)).trans ho', r⟩
    · have hb' : b < s.heap.objs.size := by
        have e' : b = e ∨ b = it := by simpa using hb
        rcases e' with z | z
        · rw [z]; exact hel
        · rw [z]; exact hil
      rw [upd_ne (Nat.ne_of_lt hb')]
      exact (hf b hb).1
  done := by
    intro X hP hw hK hc i pins s σ H E I hf st hg
    subst hP hw hK
    obtain ⟨⟨old, he⟩, hit, hne, hai, hae⟩ := st
    obtain ⟨xs, hq, hx⟩ := hg
    obtain ⟨its, rv, p, hz⟩ := I.tuple hq
    have hl := rv.length
    have pT : s.heap.IsTuple a its.toArray := p
    have hh : X.A.in1.handled = none := I.ok.hd hc
    obtain ⟨f0, f1, f2, f3, f4, f5⟩ := hf it (by simp)
    have D : Draws X.prog X.w X.A.in1 it [it, a] i (fun _ _ => True) (fun j h => j = i ∧ h.IsTupleIter it a i ∧ h.IsTuple a its.toArray) :=
      { live := fun _ _ st => let ⟨o, ho, _⟩ := st.2.1; ⟨o, ho⟩
        frame := fun _ _ _ st hk => ⟨st.1, st.2.1.at fun o e => hk it (by simp) o e, st.2.2.at fun o e => hk a (by simp) o e⟩
        item := fun j s Q E hj st hQ => absurd st.1 (Nat.ne_of_lt hj)
        done := fun s Q E st hE => wpAny_nextOf_tuple_end hh st.2.1 st.2.2 (by simp; omega) hE }
    exact wpAny_pyNext_enum_endD D he ⟨rfl, hit, pT⟩ fun h' eb => ⟨rfl, I.turned (t' := s.toks) (fun b o hb q => eb b o hb q) f0 f1 f3 f4 f5⟩
  self := fun A i s Q E st h => let ⟨⟨_, he⟩, _⟩ := st; wpAny_pyIter_enum he h
def iEnumT (K : PySem.W.Frag) (ta : TA) : TI := fun σ H R => ta σ H fun vs H1 => ∃ a xs, vs = [.ref a] ∧ SqT K H1 a xs ∧ R (ItET K a) H1
theorem pi_enumT {X : Cx} {e : Expr} {ta : TA} {p pos tpos : Pos} {elts : List Expr} {kk : Nat} (hg : Gl X "enumerate") (hm : X.mg "enumerate" = none) (ha : PA X [e] ta) (hs : starEach [e] X.env = [(false, eval e X.env)] := by rfl) :
    PI X (.Tuple elts kk tpos) (.Call (.Name "enumerate" p) [e] [] pos) (iEnumT X.K ta) := by
  refine ⟨fun pins s σ H R I h => ?_⟩
  refine Call_ (ld_blt I hg hm boot_enumerate (PyProof.Rows.callWith_type1 (thn (ha.run pos pins s σ H _ I h) fun us s1 ⟨vs, H1, I1, r1, q1⟩ => ?_) hs rfl))
  obtain ⟨a, xs, ex, hq, q⟩ := q1
  subst ex
  cases r1 with
  | cons r rr =>
    cases rr
    cases r
    obtain ⟨its, rv, p', hz⟩ := I1.tuple hq
    have pT : s1.heap.IsTuple a its.toArray := p'
    have hlt : a < s1.heap.objs.size := by obtain ⟨o, ho, _⟩ := pT; exact Heap.lt_size ho
    refine call_enumerate_tup pT fun h' he hit hsz hk => wpAny_pyIter_enum he ?_
    have I2 : Inv X pins σ H1 { s1 with heap := h' } := I1.kept (t' := s1.toks) hk
    refine ⟨s1.heap.objs.size + 1, [s1.heap.objs.size + 1, s1.heap.objs.size], _, _, H1, rfl, I2, turn_enumT a (s1.heap.objs.size + 1) s1.heap.objs.size, ⟨⟨.none, he⟩, hit, Nat.succ_ne_self _, Nat.ne_of_lt hlt, Nat.ne_of_lt (Nat.lt_succ_of_lt hlt)⟩, fun b hb => ?_, q⟩
    have e' : b = s1.heap.objs.size + 1 ∨ b = s1.heap.objs.size := by simpa using hb
    have hle : s1.heap.objs.size ≤ b := by
      rcases e' with z | z
      · rw [z]; exact Nat.le_add_right _ _
      · rw [z]; exact Nat.le_refl _
    exact I1.fpOk hle (I1.hok.fresh hle)
def iEnumQ (K : PySem.W.Frag) (ta : TA) : TI := fun σ H R => iEnum K ta σ H R ∨ iEnumT K ta σ H R
theorem pi_enumQ {X : Cx} {e : Expr} {ta : TA} {p pos tpos : Pos} {elts : List Expr} {kk : Nat} (hg : Gl X "enumerate") (hm : X.mg "enumerate" = none) (ha : PA X [e] ta) (hs : starEach [e] X.env = [(false, eval e X.env)] := by rfl) :
    PI X (.Tuple elts kk tpos) (.Call (.Name "enumerate" p) [e] [] pos) (iEnumQ X.K ta) := by
  refine ⟨fun pins s σ H R I h => ?_⟩
  rcases h with h | h
  · exact (pi_enum hg hm ha hs).run pins s σ H R I h
  · exact (pi_enumT hg hm ha hs).run pins s σ H R I h
theorem walk_enumT {K : PySem.W.Frag} {a : Addr} {xs : List V} : Walk (ItET K a) xs.length (fun H => SqT K H a xs) (YPair (fun i => some (.int (i : Nat))) (fun i => xs[i]?)) := by
  refine ⟨fun i _ hi q => ⟨xs, xs[i], q, by simp [hi]⟩, fun _ q => ⟨xs, q, Nat.le_refl _⟩, fun i H v H' _ q y => ?_⟩
  obtain ⟨T, x, h1, h2, h3, h4⟩ := y
  exact ⟨T, .int (i : Nat), x, h1, h2, h3, rfl, h4 xs q⟩
theorem walk_enumS {x : Str} : Walk (ItES x) x.cps.size (fun _ => True) (fun i H v H' => ∃ T c, v = .ref T ∧ H T = none ∧ H' = upd H T (.tup [.int (i : Nat), .str ⟨#[c]⟩]) ∧ x.cps[i]? = some c) :=
  ⟨fun _ _ hi _ => hi, fun _ _ => Nat.le_refl _, fun _ _ _ _ _ _ y => y⟩
end Lx
set_option maxRecDepth 100000
set_option maxHeartbeats 4000000
namespace Lx
open PySem PySem.Spec PyProof.Rows L2
def ItTup (n : Nat) (f : Nat → List V → Prop) : It :=
  ⟨fun i _ => i < n, fun i H v H' => ∃ T xs, v = .ref T ∧ H T = none ∧ H' = upd H T (.tup xs) ∧ f i xs, fun i _ => n ≤ i⟩
theorem turn_tuples {P : Program} {w : World} {K : PySem.W.Frag} {elts : List Expr} {kk : Nat} {tpos : Pos} {it : Addr} {fp wr : List Addr} {n : Nat} {Pt : Nat → Array Value → Prop} {St : Nat → Heap → Prop} {Mid : Nat → Addr → Heap → Prop} {f : Nat → List V → Prop}
    (Wk : ∀ A : Around, A.in1.handled = none → WalksT P w A it fp wr n Pt St Mid) (hrel : ∀ i vals, Pt i vals → ∃ xs, Vals xs vals.toList ∧ f i xs ∧ xs.length ≤ 8)
    (hobj : ∀ i h, St i h → ∀ b ∈ fp, ∃ o, h.get? b = some o ∧ ∀ v, o.data ≠ .cell v) (hmem : it ∈ fp)
    (hself : ∀ (A : Around) (i : Nat) (s : Shared) (Q : Value → Shared → Prop) (E : Value → Shared → Prop), St i s.heap → Q (.ref it) s → wpAny (model P w) A (pyIter (.ref it)) Q E s) :
    Turn P w K (.Tuple elts kk tpos) (ItTup n f) fp it (fun i h => St i h ∧ i ≤ n) where
  mem := hmem
  obj := fun i h st => hobj i h st.1
  keep := fun i h h' st k => ⟨(Wk {} rfl).frame i h h' st.1 k, st.2⟩
  item := by
    intro X hP hw hK hc i pins s σ H E I hf st hg
    subst hP hw hK
    have hh : X.A.in1.handled = none := I.ok.hd hc
    have hlt : i < n := hg
    refine (GoesN.ofWalksT (elts := elts) (k := kk) (pos := tpos) (Wk X.A hh)).goes i s _ _ hlt st.1 fun v h' tk hY st' hk htk => ?_
    obtain ⟨T, vals, rfl, hnew, hPt, hT⟩ := hY
    obtain ⟨xs, rv, hfx, hl⟩ := hrel i vals hPt
    have new : ObjOk X.prog X.w (upd H T (.tup xs)) h' T (.tup xs) := ⟨Nat.le_trans hl (by decide), vals.toList, rv, by rw [Array.toArray_toList]; exact hT⟩
    have I1 : Inv X pins σ (upd H T (.tup xs)) { s with heap := h', toks := tk } :=
      I.turnedNew (ch := fp) (fun b ob hb q => hk b ob (fun z => hb ((Wk X.A hh).sub b z)) q) hf hnew new
    refine ⟨.ref T, _, I1, rfl, ⟨T, xs, rfl, I.hok.fresh hnew, rfl, hfx⟩, ⟨st', hlt⟩, fun b hb => ?_⟩
    have hb' : b < s.heap.objs.size := by obtain ⟨o, ho, _⟩ := hobj i _ st.1 b hb; exact Heap.lt_size ho
    rw [upd_ne (Nat.ne_of_lt (Nat.lt_of_lt_of_le hb' hnew))]
    exact (hf b hb).1
  done := by
    intro X hP hw hK hc i pins s σ H E I hf st hg
    subst hP hw hK
    have hh : X.A.in1.handled = none := I.ok.hd hc
    have hge : n ≤ i := hg
    have hi : i = n := Nat.le_antisymm st.2 hge
    subst hi
    refine (Wk X.A hh).done s _ _ st.1 fun h' tk hk => ⟨rfl, ?_⟩
    exact I.turnedL (ch := fp) (fun c o hb q => hk c o (fun z => hb ((Wk X.A hh).sub c z)) q) hf
  self := fun A i s Q E st h => hself A i s Q E st.1 h
theorem walk_tuples {n : Nat} {f : Nat → List V → Prop} : Walk (ItTup n f) n (fun _ => True) (fun i H v H' => ∃ T xs, v = .ref T ∧ H T = none ∧ H' = upd H T (.tup xs) ∧ f i xs) :=
  ⟨fun _ _ hi _ => hi, fun _ _ => Nat.le_refl _, fun _ _ _ _ _ _ y => y⟩
def zipF (x y : Str) : Nat → List V → Prop := fun i xs => ∃ c d, x.cps[i]? = some c ∧ y.cps[i]? = some d ∧ xs = [.str ⟨#[c]⟩, .str ⟨#[d]⟩]
def iZipS (ta : TA) : TI := fun σ H R => ta σ H fun vs H1 => ∃ x y, vs = [.str x, .str y] ∧ R (ItTup (min x.cps.size y.cps.size) (zipF x y)) H1
theorem pi_zipS {X : Cx} {e e2 : Expr} {ta : TA} {p pos tpos : Pos} {elts : List Expr} {kk : Nat} (hg : Gl X "zip") (hm : X.mg "zip" = none) (ha : PA X [e, e2] ta)
    (hs : starEach [e, e2] X.env = (false, eval e X.env) :: starEach [e2] X.env := by rfl) (hpl : (backTo pos (starEach [e2] X.env)).any (·.1) = false := by rfl) :
    PI X (.Tuple elts kk tpos) (.Call (.Name "zip" p) [e, e2] [] pos) (iZipS ta) := by
  refine ⟨fun pins s σ H R I h => ?_⟩
  refine Call_ (ld_blt I hg hm PyProof.Rows.boot_zip (PyProof.Rows.callWith_type1 (thn (ha.run pos pins s σ H _ I h) fun us s1 ⟨vs, H1, I1, r1, q1⟩ => ?_) hs hpl))
  obtain ⟨x, y, ex, q⟩ := q1
  subst ex
  cases r1 with
  | cons r rr =>
    cases rr with
    | cons r' rr =>
      cases rr
      obtain ⟨t, rfl⟩ := r
      obtain ⟨t', rfl⟩ := r'
      refine zip_begins2 (begins_text x t) (begins_text y t') trivial trivial fun h' hz hTI hTO h1 h2 hsz hk => wpAny_pyIter_zip hz ?_
      have I2 : Inv X pins σ H1 { s1 with heap := h' } := I1.kept (t' := s1.toks) hk
      have sep := zip_sep2 (N := s1.heap.objs.size) (fp1 := []) (fp2 := []) (fun b hb => nomatch hb) (fun b hb => nomatch hb)
      have tn := turn_tuples (P := X.prog) (w := X.w) (K := X.K) (elts := elts) (kk := kk) (tpos := tpos) (f := zipF x y)
        (fun A hh => WalksT.zipD2 sep (Draws.text (prog := X.prog) (w := X.w) hh s1.heap.objs.size x t) (Draws.text (prog := X.prog) (w := X.w) hh (s1.heap.objs.size + 1) y t'))
        (fun i vals hv => by
          obtain ⟨x1, x2, ⟨c, u, hc, rfl⟩, ⟨d, u', hd, rfl⟩, rfl⟩ := hv
          exact ⟨[.str ⟨#[c]⟩, .str ⟨#[d]⟩], .cons ⟨_, rfl⟩ (.cons ⟨_, rfl⟩ .nil), ⟨c, d, hc, hd, rfl⟩, by show 2 ≤ 8; decide⟩)
        (fun i h st b hb => by
          obtain ⟨z1, z2, ⟨a1, a2, z3⟩, ⟨o1, e1, _, d1⟩, ⟨o2, e2, _, d2⟩⟩ := st
          have e' : b = s1.heap.objs.size + 4 ∨ b = s1.heap.objs.size + 2 ∨ b = s1.heap.objs.size + 3 ∨ b = s1.heap.objs.size ∨ b = s1.heap.objs.size + 1 := by simpa using hb
          rcases e' with q | q | q | q | q
          · rw [q]; exact ⟨_, z1, fun v q => nomatch q⟩
          · rw [q]; exact ⟨_, z2, fun v q => nomatch q⟩
          · rw [q]; exact ⟨_, z3, fun v q => nomatch q⟩
          · rw [q]; exact ⟨o1, e1, fun v q => by rw [d1] at q; cases q⟩
          · rw [q]; exact ⟨o2, e2, fun v q => by rw [d2] at q; cases q⟩)
        (by simp) (fun A i s Q E st h => wpAny_pyIter_zip st.1 h)
      refine ⟨s1.heap.objs.size + 4, _, _, _, H1, rfl, I2, tn, ⟨⟨hz, hTI, ⟨_, _, hTO⟩, ⟨_, h1, rfl, rfl⟩, ⟨_, h2, rfl, rfl⟩⟩, Nat.zero_le _⟩, fun c hcm => ?_, q⟩
      have e' : c = s1.heap.objs.size + 4 ∨ c = s1.heap.objs.size + 2 ∨ c = s1.heap.objs.size + 3 ∨ c = s1.heap.objs.size ∨ c = s1.heap.objs.size + 1 := by simpa using hcm
      have hle : s1.heap.objs.size ≤ c := by
        rcases e' with z | z | z | z | z
        · rw [z]; exact Nat.le_add_right _ _
        · rw [z]; exact Nat.le_add_right _ _
        · rw [z]; exact Nat.le_add_right _ _
        · rw [z]; exact Nat.le_refl _
        · rw [z]; exact Nat.le_add_right _ _
      exact I1.fpOk hle (I1.hok.fresh hle)
section
variable {X : Cx}
theorem op_rep_str : OpR X (binaryOp .Mult) (fun x y H Q => ∃ (z : Str) (n : Int), x = .str z ∧ y = .int n ∧ n < 2 ^ 20 ∧ -(2 ^ 20) < n ∧ z.length * n.toNat ≤ 100000 ∧ Q (.str (Txt.mul z n)) H) := by
  intro pins s σ H x y u v Q I rx ry h
  obtain ⟨z, n, rfl, rfl, h1, h2, h3, q⟩ := h
  obtain ⟨t, rfl⟩ := rx
  obtain ⟨t', rfl⟩ := ry
  refine SB.mul ⟨?_, fun a b => ?_, fun a b => ?_⟩ fun t' k => ⟨.str (Txt.mul z n), H, I.tok _, ⟨_, rfl⟩, q⟩
  · rw [decide_eq_false (by omega), decide_eq_false (by omega)]; rfl
  · have e1 : ((z.length : Int)) ≤ 100000 := by
      have : z.length * 1 ≤ z.length * n.toNat := Nat.mul_le_mul_left _ (by omega)
      omega
    have e2 : (100000 : Int) ≤ (2 ^ 63 - 1) / n := by
      refine (Int.le_ediv_iff_mul_le (by omega)).mpr ?_
      omega
    omega
  · show decide (z.length * n.toNat > sizeLine) = false
    exact decide_eq_false (Nat.not_lt.mpr (Nat.le_trans h3 (by decide)))
end
open C8 in
theorem pe_mk0 {X : Cx} {k j : Nat} {C : Addr} {x : Str} {sp : Sp} {dvs : List V} {p pos : Pos} (c : Mak X.prog X.w X.K X.mg X.base k x C sp dvs) (hr : Room j X.A) (hk : k + 1 ≤ j) (hg : Gl X x) (hdb : (x == ("__debug__" : Str)) = false := by decide) :
    PE X (.Call (.Name x p) [] [] pos) (tMake C sp dvs C8.E0 tNil) := by
  obtain ⟨f, fd, ps, ds, M, F, hm, b, d⟩ := c.ex
  exact pe_make0 M F (hr.mono hk) hg hm b d C8.pass0 hdb
open C8 in
theorem pe_c0 {X : Cx} {k j : Nat} {x : Str} {sp : Sp} {dvs : List V} {p pos : Pos} (c : Cal X.prog X.w X.K X.mg X.base k x sp dvs) (hr : Room j X.A) (hk : k ≤ j) (hg : Gl X x) (hdb : (x == ("__debug__" : Str)) = false := by decide) :
    PE X (.Call (.Name x p) [] [] pos) (tCall sp dvs C8.E0 tNil) := by
  obtain ⟨f, fd, ps, ds, F, hm, kp, b, d⟩ := c.ex
  exact pe_call0 F (hr.mono hk) hg hm kp b d C8.pass0 hdb
structure Prp (P : Program) (w : World) (K : PySem.W.Frag) (mg : Str → Option Value) (base : Heap) (k : Nat) (C : Addr) (m : Str) (sp : Sp) : Prop where
  ex : ∃ (p f : Addr) (fd : FuncData) (ps : List Str), Cls K C ∧ PropOf K C m p f ∧ FnOk P w K mg base C8.CX0 k f fd ps sp ∧ Binds K fd ps []
theorem pe_pr {X : Cx} {k j : Nat} {C : Addr} {m : Str} {sp : Sp} {e : Expr} {ta : TE} {pos : Pos} (c : Prp X.prog X.w X.K X.mg X.base k C m sp) (hr : Room j X.A) (hk : k + 1 ≤ j) (he : PE X e ta) (hab : attributeBase e m X.env (eval e X.env) = eval e X.env := by rfl) :
    PE X (.Attribute e m pos) (tProp C sp [] C8.E0 ta) := by
  obtain ⟨p, f, fd, ps, hc, hp, F, b⟩ := c.ex
  exact pe_prop he hc hp F (hr.mono hk) b .nil C8.pass0 hab
end Lx
set_option maxRecDepth 100000
set_option maxHeartbeats 4000000
namespace SrT
open PySem PyProof.Rows SrtO
def IsTT (h : Heap) (v : Value) (x y : Str) : Prop := ∃ a o t u n, v = .ref a ∧ h.get? a = some o ∧ o.cls = .type "tuple" ∧ o.data = .seq #[.str x t, .str y u] n
theorem IsTT.keeps {h h' : Heap} {v : Value} {x y : Str} (p : IsTT h v x y) (k : ∀ b o, h.get? b = some o → o.cls = .type "tuple" → h'.get? b = some o) : IsTT h' v x y := by
  obtain ⟨a, o, t, u, n, e, ho, hc, hd⟩ := p
  exact ⟨a, o, t, u, n, e, k _ _ ho hc, hc, hd⟩
def lexT (p q : Str × Str) : Bool := if p.1 = q.1 then decide (p.2.cps.toList < q.2.cps.toList) else decide (p.1.cps.toList < q.1.cps.toList)
theorem str_of {a b : Str} (h : a.cps.toList = b.cps.toList) : a = b := TL.ext_tl h
theorem tri {a b : Str} (h1 : ¬ a.cps.toList < b.cps.toList) (h2 : ¬ b.cps.toList < a.cps.toList) : a = b :=
  str_of (List.le_antisymm (List.not_lt.mp h2) (List.not_lt.mp h1))
theorem lexT_no {p q : Str × Str} : lexT p q = false ↔ q.1.cps.toList < p.1.cps.toList ∨ (p.1 = q.1 ∧ ¬ p.2.cps.toList < q.2.cps.toList) := by
  unfold lexT
  by_cases e : p.1 = q.1
  · rw [if_pos e, decide_eq_false_iff_not]
    constructor
    · intro h; exact .inr ⟨e, h⟩
    · rintro (h | h)
      · rw [e] at h; exact absurd h (List.lt_irrefl _)
      · exact h.2
  · rw [if_neg e, decide_eq_false_iff_not]
    constructor
    · intro h
      by_cases c : q.1.cps.toList < p.1.cps.toList
      · exact .inl c
      · exact absurd (tri h c) e
    · rintro (h | h)
      · exact List.lt_asymm h
      · exact absurd h.1 e
theorem lexT_yes {p q : Str × Str} : lexT p q = true ↔ p.1.cps.toList < q.1.cps.toList ∨ (p.1 = q.1 ∧ p.2.cps.toList < q.2.cps.toList) := by
  unfold lexT
  by_cases e : p.1 = q.1
  · rw [if_pos e, decide_eq_true_eq]
    constructor
    · intro h; exact .inr ⟨e, h⟩
    · rintro (h | h)
      · rw [e] at h; exact absurd h (List.lt_irrefl _)
      · exact h.2
  · rw [if_neg e, decide_eq_true_eq]
    constructor
    · intro h; exact .inl h
    · rintro (h | h)
      · exact h
      · exact absurd h.1 e
theorem swo_T {α : Type} (k : α → Str × Str) : Swo fun v u => lexT (k v) (k u) := by
  refine ⟨fun x y h => ?_, fun x y z h1 h2 => ?_⟩
  · rcases lexT_yes.mp h with a | ⟨a, b⟩
    · exact lexT_no.mpr (.inl a)
    · exact lexT_no.mpr (.inr ⟨a.symm, List.lt_asymm b⟩)
  · refine lexT_no.mpr ?_
    rcases lexT_no.mp h1 with a | ⟨a, b⟩ <;> rcases lexT_no.mp h2 with c | ⟨c, d⟩
    · exact .inl (List.lt_trans a c)
    · rw [← c] at a; exact .inl a
    · rw [a] at c; exact .inl c
    · refine .inr ⟨c.trans a, fun hz => ?_⟩
      by_cases e : (k y).2.cps.toList < (k x).2.cps.toList
      · exact b e
      · by_cases g : (k z).2 = (k y).2
        · rw [g] at hz; exact b hz
        · by_cases i : (k y).2.cps.toList < (k z).2.cps.toList
          · exact b (List.lt_trans i hz)
          · exact g (tri d i)
section
variable {prog : Program} {w : World} {A : Around} {E : Value → Shared → Prop} {s : Shared}
theorem tt_cmp {vs : List Value} {k : Value → Str × Str} (hp : ∀ v ∈ vs, IsTT s.heap v (k v).1 (k v).2) : Cmp prog w A s (tuples' true) (fun p => p.1 ∈ vs) (lt2 fun v u => lexT (k v) (k u)) := by
  intro p q hm hm'
  have h1 := hp _ hm
  have h2 := hp _ hm'
  show wpAny (model prog w) A (keyLt' (tuples' true) p.1 q.1) (fun r s' => s' = s ∧ r = lexT (k p.1) (k q.1)) (fun _ _ => False) s
  unfold lexT
  generalize (k p.1).1 = x at h1 ⊢
  generalize (k p.1).2 = y at h1 ⊢
  generalize (k q.1).1 = x' at h2 ⊢
  generalize (k q.1).2 = y' at h2 ⊢
  obtain ⟨a, o, t, u, n, e, ho, hc, hd⟩ := h1
  obtain ⟨a', o', t', u', n', e', ho', hc', hd'⟩ := h2
  rw [e, e']
  refine PySem.W.kat_lt ho hd ho' hd' ?_
  show PySem.W.KatLex prog w A true (decide (2 < 2)) _ [(.str x t, .str x' t'), (.str y u, .str y' u')] 0 s
  refine PySem.W.kat_cons (SeqAt.EqAt.str_str x t x' t' prog w _ _ ?_)
  refine PySem.W.kat_go (fun e1 => ?_) (fun e1 => ?_)
  · have ex : x = x' := by simpa using e1
    refine PySem.W.kat_yes (PySem.W.kat_cons (SeqAt.EqAt.str_str y u y' u' prog w _ _ ?_))
    refine PySem.W.kat_go (fun e2 => ?_) (fun e2 => ?_)
    · have ey : y = y' := by simpa using e2
      have e3 : (if x = x' then decide (y.cps.toList < y'.cps.toList) else decide (x.cps.toList < x'.cps.toList)) = false := by
        rw [if_pos ex, ey]
        exact decide_eq_false (List.lt_irrefl _)
      exact PySem.W.kat_yes (PySem.W.kat_nil ⟨rfl, e3.symm⟩)
    · have e3 : (if x = x' then decide (y.cps.toList < y'.cps.toList) else decide (x.cps.toList < x'.cps.toList)) = decide (y.cps.toList < y'.cps.toList) := if_pos ex
      refine PySem.W.kat_no (PySem.W.kat_one _ _ (PyProof.Rows.lt_str ?_))
      exact (show s = s ∧ decide (y.cps.toList < y'.cps.toList) = (if x = x' then decide (y.cps.toList < y'.cps.toList) else decide (x.cps.toList < x'.cps.toList)) from ⟨rfl, e3.symm⟩)
  · have ex : ¬ x = x' := by simpa using e1
    have e3 : (if x = x' then decide (y.cps.toList < y'.cps.toList) else decide (x.cps.toList < x'.cps.toList)) = decide (x.cps.toList < x'.cps.toList) := if_neg ex
    exact PySem.W.kat_no (oneLt_str ⟨rfl, e3.symm⟩)
theorem firsts_T {h : Heap} : ∀ {vs : List Value}, (∀ v ∈ vs, ∃ x y, IsTT h v x y) → ∃ fs : List Value, PySem.W.KatTups h vs fs ∧ fs.length = vs.length ∧ ∀ f ∈ fs, ∃ x t, f = Value.str x t
  | [], _ => ⟨[], PySem.W.KatTups.nil, rfl, fun _ hm => by simp at hm⟩
  | v :: vs, hp => by
    obtain ⟨fs, h1, h2, h3⟩ := firsts_T (vs := vs) fun v' hm => hp v' (List.mem_cons_of_mem _ hm)
    obtain ⟨x, y, a, o, t, u, n, e, ho, hc, hd⟩ := hp v (List.mem_cons_self ..)
    subst e
    refine ⟨.str x t :: fs, PySem.W.KatTups.cons ho hc hd rfl h1, by rw [List.length_cons, List.length_cons, h2], fun f hm => ?_⟩
    rcases List.mem_cons.mp hm with rfl | hm
    · exact ⟨x, t, rfl⟩
    · exact h3 f hm
theorem tt_sortable {a : Addr} {vs : List Value} {k : Value → Str × Str} (h0 : 0 < vs.length) (hp : ∀ v ∈ vs, IsTT s.heap v (k v).1 (k v).2) (ha : ∀ o, s.heap.get? a = some o → o.cls ≠ .type "tuple") : SortableO prog w A s a vs fun v u => lexT (k v) (k u) := by
  intro h' keep
  have hp' : ∀ v ∈ vs, IsTT h' v (k v).1 (k v).2 := fun v hm => (hp v hm).keeps fun b o e c => keep b o (fun z => by subst z; exact ha o e c) e
  obtain ⟨fs, h1, h2, h3⟩ := firsts_T fun v hm => ⟨_, _, hp' v hm⟩
  refine ⟨tuples' true, fun Q E hq => ?_, tt_cmp hp'⟩
  refine PySem.W.kat_kind (T := .type "str") h1 (by omega) (fun f hm => ?_) (by rfl) ?_
  · obtain ⟨x, t, rfl⟩ := h3 f hm
    exact PySem.W.Looks.now
  · have e : (Value.type "str" != Value.type "tuple") = true := by first | decide +kernel | rfl | decide
    rw [e]
    exact hq
theorem collect_tup {l : Addr} {vs : List Value} {Q : List Value → Shared → Prop} (hl : s.heap.IsTuple l vs.toArray)
    (h : Q vs { s with heap := (s.heap.push (seqObj "list" #[] 0)).update s.heap.objs.size (Obj.mapSeq (· ++ vs.toArray)) }) (hsz : vs.length ≤ sizeLine) :
    wpAny (model prog w) A (collect (.ref l)) Q E s := by
  obtain ⟨o, ho, hc, n, hd⟩ := id hl
  unfold collect
  refine wpAny_bind (wpAny_runValue (codeAny_builtin entry_proto_collect' ?_))
  show wpAny _ _ (do again (.builtin "list.__iadd__" ⟨[← newList [], .ref l], []⟩)) _ _ s
  refine wpAny_bind (wpAny_newList (wpAny_pure ⟨Code.quiet_builtin _ (by decide +kernel), codeAny_builtin entry_list_iadd' ?_⟩))
  show wpAny _ _ (Builtin.List.listExtendWith (.ref s.heap.objs.size) (.ref l) (.ref s.heap.objs.size)) _ _ { s with heap := s.heap.push (seqObj "list" #[] 0) }
  unfold Builtin.List.listExtendWith
  have ho' : (s.heap.push (seqObj "list" #[] 0)).get? l = some o := Heap.get?_push_of_some _ ho
  refine wpAny_bind (wpAny_typeOf (T := "tuple") ⟨o, ho', hc⟩ ?_)
  have ht : (Value.type "tuple" == Value.type "tuple") = true := by rfl
  rw [if_pos (by rw [ht]; simp)]
  refine wpAny_bind (listItems_at ho' hd ?_)
  refine wpAny_bind (listItems_at (xs := #[]) (n := 0) (Heap.get?_push_size _ rfl) rfl ?_)
  rw [if_neg (by simp)]
  refine wpAny_bind (listUpdate_at (xs := #[]) (n := 0) (Heap.get?_push_size _ rfl) rfl ?_ (Nat.zero_le _) (by show (#[] ++ vs.toArray).size ≤ sizeLine + 1; simp only [Array.size_append, List.size_toArray, List.length_nil]; omega))
  refine wpAny_pure ?_
  show wpAny (model prog w) A (do
      let o ← load s.heap.objs.size
      match o.data with
      | .seq xs _ => pure xs.toList
      | _ => unsupported "internal:collect") Q E { s with heap := (s.heap.push (seqObj "list" #[] 0)).update s.heap.objs.size (Obj.mapSeq (· ++ vs.toArray)) }
  refine wpAny_bind (wpAny_load (get?_update_seq (Heap.get?_push_size _ rfl) _) ?_)
  show wpAny _ _ (pure ((#[] : Array Value) ++ vs.toArray).toList) Q E _
  rw [show ((#[] : Array Value) ++ vs.toArray).toList = vs by simp]
  exact wpAny_pure h
theorem sorted_col {x : Value} {vs : List Value} {ltv : Value → Value → Bool} {Q : Value → Shared → Prop} (O : Swo ltv)
    (hcol : ∀ (A : Around) (E : Value → Shared → Prop) (Q : List Value → Shared → Prop), Q vs { s with heap := (s.heap.push (seqObj "list" #[] 0)).update s.heap.objs.size (Obj.mapSeq (· ++ vs.toArray)) } → wpAny (model prog w) A (collect x) Q E s) (hz : vs.length ≤ sizeLine)
    (hS : 2 ≤ vs.length → ∀ (h₁ : Heap) (a : Addr), h₁.get? a = some (seqObj "list" vs.toArray 0) → (∀ b o, s.heap.get? b = some o → b ≠ a ∧ h₁.get? b = some o) → SortableO prog w A.in1.in1 { s with heap := h₁ } a vs ltv)
    (h : ∀ out : List Value, Srtd ltv out → Stb ltv out vs → Q (.ref (s.heap.objs.size + 1)) { s with heap := sortedAll s.heap vs out.toArray }) :
    wpAny (model prog w) A (call (.builtin "sorted") [x]) Q E s := by
  refine Calls.call_function_entry kind_sorted plain_sorted entry_sorted (args_sorted1 _) ?_
  unfold Builtin.«sorted»
  refine wpAny_bind (m := checkCount "sorted" 1 1 _) (wpAny_pure ?_)
  refine wpAny_bind (hcol _ _ _ ?_)
  refine wpAny_bind (wpAny_newList ?_ hz)
  have hsz : ((s.heap.push (seqObj "list" #[] 0)).update s.heap.objs.size (Obj.mapSeq (· ++ vs.toArray))).objs.size = s.heap.objs.size + 1 := by
    rw [Heap.size_update, size_push']
  have hoL : (((s.heap.push (seqObj "list" #[] 0)).update s.heap.objs.size (Obj.mapSeq (· ++ vs.toArray))).push (seqObj "list" vs.toArray 0)).get? (s.heap.objs.size + 1) = some (seqObj "list" vs.toArray 0) := by
    rw [← hsz]; exact Heap.get?_push_size _ rfl
  have keep : ∀ b o, s.heap.get? b = some o → b ≠ s.heap.objs.size + 1 ∧ (((s.heap.push (seqObj "list" #[] 0)).update s.heap.objs.size (Obj.mapSeq (· ++ vs.toArray))).push (seqObj "list" vs.toArray 0)).get? b = some o := fun b o q => by
    have hlt : b < s.heap.objs.size := Heap.lt_size q
    refine ⟨Nat.ne_of_lt (Nat.lt_succ_of_lt hlt), Heap.get?_push_of_some _ ?_⟩
    rw [Heap.get?_update_ne _ _ _ _ (Nat.ne_of_lt hlt)]
    exact Heap.get?_push_of_some _ q
  show wpAny _ _ _ _ _ { s with heap := ((s.heap.push (seqObj "list" #[] 0)).update s.heap.objs.size (Obj.mapSeq (· ++ vs.toArray))).push (seqObj "list" vs.toArray 0) }
  rw [hsz]
  refine wpAny_bind (wpAny_holding (wpAny_call_entry slot_list_sort ⟨_, hoL, rfl⟩ entry_list_sort (list_sort_ord O hoL hz (fun h2 => hS h2 _ _ hoL keep) fun out hs hb => ⟨_, rfl, ?_⟩) (args_list_sort _)))
  exact wpAny_pure ⟨_, rfl, h out hs hb⟩
end
end SrT
namespace Lx
open PySem PySem.Spec PyProof.Rows L2
def rSortedT (K : PySem.W.Frag) : List V → Hp → VK → Prop := fun vs H Q => ∃ (a : Addr) (ps : List Addr) (k : Addr → Str × Str), vs = [V.ref a] ∧ (SqL K H a (ps.map V.ref) ∨ SqT K H a (ps.map V.ref)) ∧ (∀ t ∈ ps, H t = some (.tup [.str (k t).1, .str (k t).2])) ∧
  ∀ (qs : List Addr) p, SrtO.Srtd (fun x y => SrT.lexT (k x) (k y)) qs → qs.Perm ps → H p = none → Q (.ref p) (upd H p (.lst (qs.map V.ref)))
section
variable {X : Cx}
theorem cr_sortedT : CallR X (.builtin "sorted") (rSortedT X.K) := by
  intro pins s σ H vs us Q I r h
  obtain ⟨a, ps, k, rfl, hs, hx, q⟩ := h
  obtain ⟨u, rfl, ru⟩ := vals1 r
  obtain rfl : u = Value.ref a := ru
  have com : ∀ its : List Value, Vals (ps.map V.ref) its → its.length ≤ sizeLine → (∀ (A : Around) (E : Value → Shared → Prop) (Q : List Value → Shared → Prop), Q its { s with heap := (s.heap.push (seqObj "list" #[] 0)).update s.heap.objs.size (Obj.mapSeq (· ++ its.toArray)) } → wpAny (model X.prog X.w) A (collect (.ref a)) Q E s) →
      wpAny (model X.prog X.w) X.A (call (.builtin "sorted") [Value.ref a]) (EP X pins σ Q) X.xe s := by
    intro its rv hz hcol
    have ei : its = ps.map Value.ref := by
      clear hcol hz hx q hs
      induction ps generalizing its with
      | nil => cases rv; rfl
      | cons x l ih =>
        cases rv with
        | cons h1 h2 =>
          rw [List.map_cons, ← ih _ h2]
          congr 1
    subst ei
    have hp : ∀ v ∈ ps.map Value.ref, SrT.IsTT s.heap v (match v with | .ref t => k t | _ => ("", "")).1 (match v with | .ref t => k t | _ => ("", "")).2 := by
      intro v hv
      obtain ⟨t, ht, rfl⟩ := List.mem_map.mp hv
      obtain ⟨_, its2, r2, o, ho, hc, n, hd⟩ := I.hok _ _ (hx t ht)
      obtain ⟨u1, u2, rfl, ri, rj⟩ := vals2 r2
      obtain ⟨t1, rfl⟩ := ri
      obtain ⟨t2, rfl⟩ := rj
      exact ⟨t, o, t1, t2, n, rfl, ho, hc, hd⟩
    refine SrT.sorted_col (SrT.swo_T fun v : Value => match v with | .ref t => k t | _ => ("", "")) hcol hz (fun h2 h₁ b hb kk => ?_) fun out h1 h2 => ?_
    · refine SrT.tt_sortable (s := { s with heap := h₁ }) (by omega) (fun v hm => (hp v hm).keeps fun b o e _ => (kk b o e).2) fun o e => ?_
      have e' : some o = some (seqObj "list" (ps.map Value.ref).toArray 0) := e.symm.trans hb
      cases e'
      intro c
      exact absurd (Value.type.inj c) (by decide)
    · obtain ⟨qs, rfl⟩ : ∃ qs : List Addr, out = qs.map Value.ref := by
        have hm : ∀ v ∈ out, ∃ t, v = Value.ref t := fun v hv => by
          obtain ⟨t, _, e⟩ := List.mem_map.mp (h2.perm.mem_iff.mp hv)
          exact ⟨t, e.symm⟩
        clear h1 h2
        induction out with
        | nil => exact ⟨[], rfl⟩
        | cons v r ih =>
          obtain ⟨t, rfl⟩ := hm v List.mem_cons_self
          obtain ⟨qs, rfl⟩ := ih fun v hv => hm v (List.mem_cons_of_mem _ hv)
          exact ⟨t :: qs, rfl⟩
      have perm : qs.Perm ps := by
        have h3 := h2.perm.map (fun v : Value => match v with | .ref t => t | _ => 0)
        rw [List.map_map, List.map_map] at h3
        have ef : ((fun v : Value => match v with | .ref t => t | _ => 0) ∘ Value.ref) = id := by funext t; rfl
        rw [ef, List.map_id, List.map_id] at h3
        exact h3
      have srt : SrtO.Srtd (fun x y => SrT.lexT (k x) (k y)) qs := List.pairwise_map.mp h1
      obtain ⟨n, hn⟩ := PyProof.Rows.sortedAll_at s.heap (ps.map Value.ref) (qs.map Value.ref).toArray
      have hd : s.heap.objs.size ≤ s.heap.objs.size + 1 := Nat.le_succ _
      have rq : Vals (qs.map V.ref) (qs.map Value.ref) := by
        clear h1 h2 perm srt hn
        induction qs with
        | nil => exact .nil
        | cons x l ih => exact .cons rfl ih
      refine ⟨.ref (s.heap.objs.size + 1), upd H (s.heap.objs.size + 1) (.lst (qs.map V.ref)), I.laid (t' := s.toks) (fun b o e => PyProof.Rows.sortedAll_old e) hd ⟨?_, _, n, rq, hn⟩, rfl, q qs _ srt perm (I.hok.fresh hd)⟩
      rw [List.length_map, perm.length_eq, ← List.length_map (f := Value.ref)]
      exact hz
  rcases hs with hs | hs
  · obtain ⟨its, rv, hl, hz⟩ := I.list hs
    exact com its rv (by rw [← rv.length]; exact hz) fun A E Q h => collect_list hl.isList h (by rw [← rv.length]; exact hz)
  · obtain ⟨its, rv, hl, hz⟩ := I.tuple hs
    exact com its rv (by rw [← rv.length]; exact hz) fun A E Q h => SrT.collect_tup (show s.heap.IsTuple a its.toArray from hl) h (by rw [← rv.length]; exact hz)
def iSeq (K : PySem.W.Frag) (tl : TE) : TI := fun σ H R => iList K tl σ H R ∨ iTup K tl σ H R
theorem pi_seq {tg l : Expr} {tl : TE} (hl : PE X l tl) : PI X tg l (iSeq X.K tl) := by
  refine ⟨fun pins s σ H R I h => ?_⟩
  rcases h with h | h
  · exact (pi_list hl).run pins s σ H R I h
  · exact (pi_tup hl).run pins s σ H R I h
theorem ty_list {K : PySem.W.Frag} {H : Hp} {a : Addr} {xs : List V} (h : SqL K H a xs) : TyX K H (.ref a) (.type "list") := by
  rcases h with (h | ⟨o, h⟩) | ⟨o, its, n, hk, hc, _⟩
  · exact .base (.lst h)
  · exact .base (.frz h)
  · exact .kList hk hc
theorem ty_tup {K : PySem.W.Frag} {H : Hp} {a : Addr} {xs : List V} (h : SqT K H a xs) : TyX K H (.ref a) (.type "tuple") := by
  rcases h with (h | ⟨o, h⟩) | ⟨o, its, n, hk, hc, _⟩
  · exact .base (.tup h)
  · exact .fTuple h
  · exact .kTuple hk hc
theorem same_tup {K : PySem.W.Frag} {H H' : Hp} {a : Addr} {xs : List V} (e : Same H H') (h : SqT K H a xs) : SqT K H' a xs := by
  rcases h with (h | ⟨o, h⟩) | h
  · exact .inl (.inl (e _ _ h))
  · exact .inl (.inr ⟨o, e _ _ h⟩)
  · exact .inr h
def Sq (K : PySem.W.Frag) (H : Hp) (a : Addr) (xs : List V) : Prop := SqL K H a xs ∨ SqT K H a xs
theorem Sq.same {K : PySem.W.Frag} {H H' : Hp} {a : Addr} {xs : List V} (h : Sq K H a xs) (e : Same H H') : Sq K H' a xs := h.elim (fun h => .inl (e.seq h)) (fun h => .inr (same_tup e h))
end
end Lx
set_option maxRecDepth 100000
set_option maxHeartbeats 4000000
namespace Lx
open PySem PySem.Spec PyProof.Rows L2
section
variable {X : Cx} {k j : Nat} {C : Addr} {sp : Sp}
theorem run_sub {CX : CXT} {f : Addr} {fd : FuncData} {ps : List Str} {A : Around} {pins : List (Addr × Obj)} {σ : L2.St} {H : Hp} {s : Shared} {Q : VK} {E : XK} {us : List Value} {vs : List V} (F : FnOk X.prog X.w X.K X.mg X.base CX k f fd ps sp) (sb : Sub X k A) (hb : Binds X.K fd ps [])
    (hx : Passes CX X E) (I : Inv X pins σ H s) (r : Vals vs us) (h : sp vs H Q E) : wpAny (model X.prog X.w) A (call (.ref f) us) (EP X pins σ Q) X.xe s := by
  have e0 : Env0 X.prog X.w X.K X.mg X.base A X.stack s H := by
    have e := I.env0
    exact ⟨by rw [sb.fr]; exact e.frames, e.mod, e.bs, e.bsz, e.funs, e.frf, e.hok, e.bare⟩
  have hl : (us ++ []).length = ps.length := by rw [List.append_nil, ← r.length]; exact F.len _ _ _ _ h
  refine wpAny_call (codeAny_mono (F.run A X.stack s H ⟨us, []⟩ us vs Q E sb.room e0 (by have := hb s us I.kIn hl; simpa using this) r h) fun r s' hq => ?_)
  cases r with
  | error e => exact hx pins σ H s e s' I hq
  | ok fl =>
    cases fl with
    | ret w => exact I.after hq
    | next => exact False.elim hq
    | brk => exact False.elim hq
    | cont => exact False.elim hq
theorem vals_nil {ds : List Value} (h : Vals [] ds) : ds = [] := by cases h; rfl
theorem sub_in2 {A : Around} (hr : Room j A) (hk : k + 2 ≤ j) (hf : A.frames = X.A.frames) : Sub X k A.in1.in1 := by
  have s : Sub X (k + 2) A := ⟨hr.mono hk, hf⟩
  exact s.in1.in1
def rStrO (C : Addr) (sp : Sp) : List V → Hp → VK → Prop := fun xs H Q => ∃ a dx fs, xs = [.ref a] ∧ H a = some (.ins C dx fs) ∧ sp [.ref a] H (fun v H' => ∃ z, v = .str z ∧ Q (.str z) H') C8.E0
theorem call_str_own (c : C8.Met X.prog X.w X.K X.mg X.base k C "__str__" sp []) (hr : Room j X.A) (hk : k + 2 ≤ j) : CallR X (.type "str") (rStrO C sp) := by
  intro pins s σ H xs us Q I rv h
  obtain ⟨a, dx, fs, rfl, ha, hsp⟩ := h
  obtain ⟨f, fd, ps, ds, _, me, F, b, d⟩ := c.ex
  obtain rfl := vals_nil d
  cases rv with
  | cons r rr =>
    cases rr
    cases r
    obtain ⟨mA, J, _⟩ := ins_get I.hok ha
    obtain ⟨od, J, _⟩ := J.look
    have sb : Sub X k X.A.in1.in1 := sub_in2 hr hk rfl
    refine PySem.W.kso_call sb.room.units0 I.kIn J me.at_ me.fn (wpAny_mono (run_sub (vs := [.ref a]) F sb b C8.pass0 I (.cons rfl .nil) hsp) (fun u s' q => ?_) fun _ _ x => x)
    obtain ⟨v, H', I', ru, z, ez, q⟩ := q
    subst ez
    obtain ⟨t, rfl⟩ := ru
    exact ⟨.str z, H', I', ⟨t, rfl⟩, q⟩
def rLenO (C : Addr) (sp : Sp) : List V → Hp → VK → Prop := fun xs H Q => ∃ a dx fs, xs = [.ref a] ∧ H a = some (.ins C dx fs) ∧ sp [.ref a] H (fun v H' => ∃ n : Int, v = .int n ∧ 0 ≤ n ∧ n < 2 ^ 63 ∧ Q (.int n) H') C8.E0
theorem call_len_own (c : C8.Met X.prog X.w X.K X.mg X.base k C "__len__" sp []) (hr : Room j X.A) (hk : k + 2 ≤ j) : CallR X (.builtin "len") (rLenO C sp) := by
  intro pins s σ H xs us Q I rv h
  obtain ⟨a, dx, fs, rfl, ha, hsp⟩ := h
  obtain ⟨f, fd, ps, ds, _, me, F, b, d⟩ := c.ex
  obtain rfl := vals_nil d
  cases rv with
  | cons r rr =>
    cases rr
    cases r
    obtain ⟨mA, J, _⟩ := ins_get I.hok ha
    obtain ⟨od, J, _⟩ := J.look
    have sb : Sub X k X.A.in1 := (show Sub X (k + 1) X.A from ⟨hr.mono (by omega), rfl⟩).in1
    obtain ⟨m, hF⟩ := I.fr
    refine PySem.W.len_K hF I.ok.mod.kin J me.at_ me.fn (wpAny_mono (run_sub (vs := [.ref a]) F sb b C8.pass0 I (.cons rfl .nil) hsp) (fun u s' q => ?_) fun _ _ x => x)
    obtain ⟨v, H', I', ru, z, ez, h0, h1, q⟩ := q
    subst ez
    obtain ⟨t, rfl⟩ := ru
    exact ⟨⟨h0, h1⟩, .int z, H', I'.tok _, ⟨_, rfl⟩, q⟩
def rEqO (C : Addr) (sp : Sp) : R2 := fun x y H Q => ∃ a b dx dy fs gs, x = .ref a ∧ y = .ref b ∧ H a = some (.ins C dx fs) ∧ H b = some (.ins C dy gs) ∧ sp [.ref a, .ref b] H (fun v H' => ∃ t : Bool, v = .bl t ∧ Q (.bl t) H') C8.E0
theorem op_eqOwn (c : C8.Met X.prog X.w X.K X.mg X.base k C "__eq__" sp []) (hr : Room j X.A) (hk : k ≤ j) : OpR X (compareOp .Eq) (rEqO C sp) := by
  intro pins s σ H x y v u Q I rx ry h
  obtain ⟨a, b, dx, dy, fs, gs, rfl, rfl, ha, hb, hsp⟩ := h
  obtain ⟨f, fd, ps, ds, _, me, F, bn, d⟩ := c.ex
  obtain rfl := vals_nil d
  cases rx
  cases ry
  obtain ⟨mA, J, _⟩ := ins_get I.hok ha
  obtain ⟨mB, J', _⟩ := ins_get I.hok hb
  obtain ⟨od, J, _⟩ := J.look
  obtain ⟨od', J', _⟩ := J'.look
  obtain ⟨m, hF⟩ := I.fr
  have sb : Sub X k X.A := ⟨hr.mono hk, rfl⟩
  show wpAny (model X.prog X.w) X.A (richCompare .Eq (.ref a) (.ref b)) (EP X pins σ Q) X.xe s
  refine PySem.W.cmp_K (op := .Eq) (tb := .ref C) sb.room.units0 hF I.ok.mod.kin J J'.type (by simp [PySem.W.notFirst]) me.at_ me.fn ?_
  refine wpAny_mono (run_sub (vs := [.ref a, .ref b]) F sb bn C8.pass0 I (.cons rfl (.cons rfl .nil)) hsp) (fun u s' q => ?_) fun _ _ x => x
  obtain ⟨v, H', I', ru, t, ez, q⟩ := q
  subst ez
  cases (show u = Value.bool t from ru)
  exact ⟨.bl t, H', I', rfl, q⟩
end
structure NeT (K : PySem.W.Frag) (C : Addr) : Prop where
  mro : PySem.W.mroIn K C (.type "object") = some true
  ne : PySem.W.findIn K (.ref C) "__ne__" = some (some (.builtin "object.__ne__"))
section
open PySem.W
variable {M : Model} {prog : Program} {w : World} {A : Around} {E : Value → Shared → Prop} {s : Shared} {K : PySem.W.Frag} {x C f : Addr} {ox : Obj} {od : Option Obj} {b tb : Value}
theorem ifBound_bltn {name : Str} {id : String} {args : List Value} {Q : Option Value → Shared → Prop} (X : K.In s.heap) (I : PySem.W.InstAt s.heap x ox C od) (hs : PySem.W.findIn K (.ref C) name = some (some (.builtin id)))
    (hb : ∀ self, bindSpecial (.builtin id) self = pure (.builtin id, [self])) (h : wpAny M A (call (.builtin id) (.ref x :: args)) (fun v => Q (some v)) E s) : wpAny M A (callSpecialIfBound? (.ref x) name args) Q E s := by
  simp only [callSpecialIfBound?, bindSpecialIfBound?]
  refine wpAny_holding (wpAny_bind (wpAny_bind (wpAny_bind (I.type.here ((PySem.W.looks_findIn X hs).here ?_)))))
  refine wpAny_bind (wpAny_askSetting (wpAny_ite ?_))
  have fin : wpAny M A (call (.builtin id) ([.ref x] ++ args) >>= fun v => pure (some v)) Q E s := wpAny_bind (wpAny_mono h (fun v s' h' => wpAny_pure h') fun _ _ h' => h')
  split
  · exact wpAny_bind (wpAny_of_eq (hb _) (wpAny_pure (by exact fin)))
  · exact wpAny_tryCatch (wpAny_bind (wpAny_of_eq (hb _) (wpAny_pure (by exact fin))))
theorem ne_tree {Q : Fin → Shared → Prop} (hu : A.units < cLine) (X : K.In s.heap) (I : PySem.W.InstAt s.heap x ox C od) (he : PySem.W.findIn K (.ref C) "__eq__" = some (some (.ref f))) (hf : PySem.W.isFn K (.ref f) = true)
    (h : wpAny M A (call (.ref f) [.ref x, b]) (fun v s' => ∃ t : Bool, v = .bool t ∧ Q (.done (.ret (.bool (!t)))) s') E s) : wpAny M A (Builtin.«object.__ne__» ⟨[.ref x, b], []⟩) Q E s := by
  unfold Builtin.«object.__ne__»
  refine wpAny_bind (m := slotArgs "__ne__" 1 _) (wpAny_pure ?_)
  refine wpAny_bind (m := cRoomFor _ _) (wpAny_cRoomFor hu ?_)
  refine wpAny_bind (m := callSpecialIfBound? (.ref x) (Str.ofString "__eq__") _) (ifBound_K X I he hf (wpAny_mono h (fun r s' hr => ?_) fun _ _ y => y))
  obtain ⟨t, rfl, q⟩ := hr
  exact wpAny_bind (wpAny_truthy_bool (wpAny_pure q))
theorem cmp_neK {Q : Value → Shared → Prop} (hu : A.units < cLine) (hu1 : A.in1.units < cLine) (X : K.In s.heap) (I : PySem.W.InstAt s.heap x ox C od) (hb : Looks (model prog w) s.heap (typeOf b) tb) (hn : PySem.W.notFirst K C tb = true) (N : NeT K C)
    (he : PySem.W.findIn K (.ref C) "__eq__" = some (some (.ref f))) (hf : PySem.W.isFn K (.ref f) = true)
    (h : wpAny (model prog w) A.in1 (call (.ref f) [.ref x, b]) (fun v s' => ∃ t : Bool, v = .bool t ∧ Q (.bool (!t)) s') E s) : wpAny (model prog w) A (richCompare .NotEq (.ref x) b) Q E s := by
  have one : wpAny (model prog w) A (tryCompare (.ref x) (cmpInfo .NotEq).2.1 b) (fun r s' => ∃ v, r = some v ∧ Q v s') E s := by
    unfold tryCompare
    refine wpAny_bind (ifBound_bltn X I N.ne F.cmp_object.ne.bind ?_)
    refine wpAny_call (codeAny_call_builtin F.cmp_object.ne.plain F.cmpEntry_ne (PySem.W.check_slot F.cmpKind_ne F.cmpSplit_ne (I.type.andThen (PySem.W.looks_mroIn X N.mro)) (F.cmpArgs_ne _ _) (ne_tree hu1 X I he hf (wpAny_mono h (fun v s' hv => ?_) fun _ _ e => e))))
    obtain ⟨t, rfl, q⟩ := hv
    exact ⟨t, rfl, wpAny_pure ⟨_, rfl, q⟩⟩
  unfold richCompare
  simp only [oneThing_ref]
  refine wpAny_holding (wpAny_bind (wpAny_cRoomFor hu ?_))
  refine wpAny_bind (I.type.here (wpAny_bind (hb.here ?_)))
  split
  · rename_i q
    have e : subIn K tb (.ref C) = some false := by
      rcases Bool.or_eq_true_iff.mp hn with e | e
      · rw [beq_iff_eq.mp e] at q; simp at q
      · exact beq_iff_eq.mp e
    refine wpAny_bind ((looks_subIn X e).here ?_)
    simp only [Bool.false_eq_true, if_false]
    refine wpAny_bind (wpAny_mono one (fun r s' z => ?_) fun _ _ e => e)
    obtain ⟨v, rfl, hq⟩ := z
    exact wpAny_pure hq
  · refine wpAny_bind (wpAny_pure ?_)
    simp only [Bool.false_eq_true, if_false]
    refine wpAny_bind (wpAny_mono one (fun r s' z => ?_) fun _ _ e => e)
    obtain ⟨v, rfl, hq⟩ := z
    exact wpAny_pure hq
end
section
variable {X : Cx} {k j i : Nat} {C : Addr} {sp : Sp} {x y : Str} {dvs : List V} {p pos : Pos} {e : Expr} {es : List Expr} {t : TA}
def rNeO (C : Addr) (sp : Sp) : R2 := fun x y H Q => ∃ a b dx dy fs gs, x = .ref a ∧ y = .ref b ∧ H a = some (.ins C dx fs) ∧ H b = some (.ins C dy gs) ∧ sp [.ref a, .ref b] H (fun v H' => ∃ t : Bool, v = .bl t ∧ Q (.bl (!t)) H') C8.E0
theorem op_neOwn (c : C8.Met X.prog X.w X.K X.mg X.base k C "__eq__" sp []) (N : NeT X.K C) (hr : Room j X.A) (hk : k + 1 ≤ j) : OpR X (compareOp .NotEq) (rNeO C sp) := by
  intro pins s σ H x y v u Q I rx ry h
  obtain ⟨a, b, dx, dy, fs, gs, rfl, rfl, ha, hb, hsp⟩ := h
  obtain ⟨f, fd, ps, ds, _, me, F, bn, d⟩ := c.ex
  obtain rfl := vals_nil d
  cases rx
  cases ry
  obtain ⟨mA, J, _⟩ := ins_get I.hok ha
  obtain ⟨mB, J', _⟩ := ins_get I.hok hb
  obtain ⟨od, J, _⟩ := J.look
  obtain ⟨od', J', _⟩ := J'.look
  have sb1 : Sub X (k + 1) X.A := ⟨hr.mono hk, rfl⟩
  have sb := sb1.in1
  show wpAny (model X.prog X.w) X.A (richCompare .NotEq (.ref a) (.ref b)) (EP X pins σ Q) X.xe s
  refine cmp_neK (tb := .ref C) sb1.room.units0 sb.room.units0 I.kIn J J'.type (by simp [PySem.W.notFirst]) N me.at_ me.fn ?_
  refine wpAny_mono (run_sub (vs := [.ref a, .ref b]) F sb bn C8.pass0 I (.cons rfl (.cons rfl .nil)) hsp) (fun u s' q => ?_) fun _ _ x => x
  obtain ⟨v, H', I', ru, t, ez, q⟩ := q
  subst ez
  cases (show u = Value.bool t from ru)
  exact ⟨t, rfl, .bl (!t), H', I', rfl, q⟩
def tMakeL (i : Nat) (C : Addr) (sp : Sp) (dvs : List V) (t : TA) : TE := fun σ H Q => σ[i]? = some (some (.ref C)) ∧ tMake C sp dvs C8.E0 t σ H Q
theorem pe_mkL (i : Nat) (c : C8.Mak X.prog X.w X.K X.mg X.base k y C sp dvs) (hr : Room j X.A) (hk : k + 1 ≤ j) (ha : PA X (e :: es) t) (hN : X.N[i]? = some x := by rfl) (hv : Vis X.env.scope x := by first | exact Or.inl rfl | exact Or.inr (Or.inl rfl) | exact Or.inr (Or.inr rfl))
    (hdb : (x == ("__debug__" : Str)) = false := by decide) (hcd : (x == ("__classdict__" : Str)) = false := by decide)
    (he : starEach (e :: es) X.env = (false, eval e X.env) :: starEach es X.env := by rfl) (hpl : (backTo pos (starEach es X.env)).any (·.1) = false := by rfl) : PE X (.Call (.Name x p) (e :: es) [] pos) (tMakeL i C sp dvs t) := by
  obtain ⟨f, fd, ps, ds, M, F, hm, b, d⟩ := c.ex
  refine ⟨fun pins s σ H Q I h => ?_⟩
  obtain ⟨hs, ht⟩ := h
  refine wpAny_Call_Name_kw (thn ((pe_var (pos := p) hN hv hdb hcd).run pins s σ H (fun v H1 => v = .ref C ∧ H1 = H) I ⟨.ref C, hs, rfl, rfl⟩) fun u s1 ⟨v, H1, I1, r1, q1⟩ => ?_)
  obtain ⟨rfl, rfl⟩ := q1
  cases r1
  refine PySem.W.callWith_K (h₀ := X.base) I.ok.mod.kin M.kp (thn (ha.run pos pins s1 σ _ _ I1 ht) fun us s2 ⟨vs, H2, I2, r, q⟩ => ⟨I2.kIn, ?_⟩) he hpl
  exact run_make M F (hr.mono hk) b d C8.pass0 I2 r q
theorem pe_mkL0 (i : Nat) (c : C8.Mak X.prog X.w X.K X.mg X.base k y C sp dvs) (hr : Room j X.A) (hk : k + 1 ≤ j) (hN : X.N[i]? = some x := by rfl) (hv : Vis X.env.scope x := by first | exact Or.inl rfl | exact Or.inr (Or.inl rfl) | exact Or.inr (Or.inr rfl))
    (hdb : (x == ("__debug__" : Str)) = false := by decide) (hcd : (x == ("__classdict__" : Str)) = false := by decide) : PE X (.Call (.Name x p) [] [] pos) (tMakeL i C sp dvs tNil) := by
  obtain ⟨f, fd, ps, ds, M, F, hm, b, d⟩ := c.ex
  refine ⟨fun pins s σ H Q I h => ?_⟩
  obtain ⟨hs, ht⟩ := h
  refine wpAny_Call_Name_kw (thn ((pe_var (pos := p) hN hv hdb hcd).run pins s σ H (fun v H1 => v = .ref C ∧ H1 = H) I ⟨.ref C, hs, rfl, rfl⟩) fun u s1 ⟨v, H1, I1, r1, q1⟩ => ?_)
  obtain ⟨rfl, rfl⟩ := q1
  cases r1
  exact PySem.W.callWith_K0 I1.kIn M.kp (run_make (us := []) M F (hr.mono hk) b d C8.pass0 I1 .nil ht)
structure CMt (P : Program) (w : World) (K : PySem.W.Frag) (mg : Str → Option Value) (base : Heap) (k : Nat) (x : Str) (C : Addr) (m : Str) (sp : Sp) : Prop where
  ex : ∃ (mc : Value) (p g : Addr) (fd : FuncData) (ps : List Str), mg x = some (.ref C) ∧ ClX.CRead K C mc ∧ ClX.CMet K C mc m p g ∧ FnOk P w K mg base C8.CX0 k g fd ps sp ∧ Binds K fd ps []
theorem pe_cm {m : Str} {apos : Pos} {pl : Sem Bool} (c : CMt X.prog X.w X.K X.mg X.base k x C m sp) (hr : Room j X.A) (hk : k ≤ j) (hg : Gl X x) (ha : PA X (e :: es) t) (hdb : (x == ("__debug__" : Str)) = false := by decide)
    (hst : starEach (e :: es) X.env = (false, eval e X.env) :: starEach es X.env := by rfl) (hpl : (backTo pos (starEach es X.env)).any (·.1) = false := by rfl)
    (ht : eval (.Call (.Attribute (.Name x p) m apos) (e :: es) [] pos) X.env = (do
      let ov ← eval (.Name x p) X.env
      standAt apos.atName
      let (f, first) ← holding [ov] (getMethod ov m pl)
      callWith pos f first (backTo pos (starEach (e :: es) X.env)) (backToKw pos (keywordEach [] X.env))) := by rfl) :
    PE X (.Call (.Attribute (.Name x p) m apos) (e :: es) [] pos) (ClX.tCMeth C sp C8.E0 (tC (.ref C)) t) := by
  obtain ⟨mc, q, g, fd, ps, hm, r, cm, F, b⟩ := c.ex
  exact ClX.pe_cmeth (pe_glob (v := .ref C) hg hm rfl hdb) r cm (F.raw b .nil |>.imp fun vs H Q E h => by rw [List.append_nil]; exact h) (hr.mono hk) C8.pass0 ha hst hpl ht
end
structure IsT (K : PySem.W.Frag) (C : Addr) : Prop where
  cl : Cls K C
  ha : PySem.W.findIn K (.ref C) "__class__" = some (some (.builtin "object.__class__"))
  hn : PySem.W.specialIn K (.builtin "object.__class__") "__get__" = some (some (.builtin "getset_descriptor.__get__"))
  ht : PySem.W.takesIn K (.builtin "object.__class__") = some true
  hm : PySem.W.mroIn K C (.type "object") = some true
theorem IsT.ty {K : PySem.W.Frag} {C a dx : Addr} {H : Hp} {fs : List (Str × V)} (I : IsT K C) (e : H a = some (.ins C dx fs)) : TyX K H (.ref a) (.ref C) := .base (.ins e I.cl I.ha I.hn I.ht I.hm)
theorem IsT.one {K : PySem.W.Frag} {C : Addr} (_ : IsT K C) : PySem.W.kitOne K (.ref C) (.ref C) = some true := by
  unfold PySem.W.kitOne
  rw [if_pos (beq_self_eq_true _)]
def tJn (ts : List TE) : TE := fun σ H Q => tJs ts Str.empty σ H fun out H1 => Q (.str out) H1
theorem pe_jn {X : Cx} {v1 v2 : Expr} {rest : List Expr} {ts : List TE} {pos : Pos} (h : PJ X (v1 :: v2 :: rest) ts) : PE X (.JoinedStr (v1 :: v2 :: rest) pos) (tJn ts) := pe_joined h
end Lx
set_option maxRecDepth 100000
set_option maxHeartbeats 4000000
namespace Lx
open PySem PySem.Spec PyProof.Rows L2
def rNeL (K : PySem.W.Frag) : R2 := fun x y H Q => ∃ a b xs, x = .ref a ∧ y = .ref b ∧ SqL K H a xs ∧ SqL K H b [] ∧ Q (.bl (!decide (xs = []))) H
theorem op_neL {X : Cx} {j : Nat} (hr : Room j X.A) : OpR X (compareOp .NotEq) (rNeL X.K) := by
  intro pins s σ H x y v u Q I rx ry hq
  obtain ⟨a, b, xs, rfl, rfl, ha, hb, q⟩ := hq
  cases rx
  cases ry
  obtain ⟨its, r, e, z⟩ := I.list ha
  obtain ⟨its2, r2, e2, z2⟩ := I.list hb
  have h0 : its2 = [] := by
    have := r2.length
    exact List.eq_nil_of_length_eq_zero this.symm
  subst h0
  show wpAny (model X.prog X.w) X.A (richCompare .NotEq (.ref a) (.ref b)) (EP X pins σ Q) X.xe s
  by_cases c : xs = []
  · subst c
    have h1 : its = [] := List.eq_nil_of_length_eq_zero r.length.symm
    subst h1
    refine SeqAt.RcNeAt.lists (e := fun _ => true) e.isList e2.isList rfl hr.units0 (fun j h1 _ => absurd h1 (Nat.not_lt_zero _)) _ _ _ _ ?_
    exact ⟨.bl _, H, I, rfl, q⟩
  · have hz : (its.toArray.size != ([] : List Value).toArray.size) = true := by
      rw [List.size_toArray, ← r.length]
      cases xs with
      | nil => exact absurd rfl c
      | cons _ _ => rfl
    refine SeqAt.RcNeAt.lists_lengths e.isList e2.isList hz hr.units0 _ _ _ _ ?_
    rw [decide_eq_false c] at q
    exact ⟨.bl _, H, I, rfl, q⟩
end Lx
set_option maxRecDepth 100000
set_option maxHeartbeats 4000000
namespace ExS
open PySem PySem.Spec PyProof.Rows L2 NdefX
def spXI (C : Addr) (fld : Str) : Sp := fun vs H Q _ => ∃ (a : Addr) (v : V), vs = [.ref a, v] ∧ H a = some (exo a C none) ∧
  ∀ dx, H dx = none → dx ≠ a → Q .non (upd (upd H dx (exd dx [(fld, v)])) a (exo a C (some dx)))
theorem call_mw {X : Cx} {pins : List (Addr × Obj)} {σ : L2.St} {H : Hp} {s : Shared} {a C u : Addr} {us : List Value} {Q : Value → Shared → Prop} {E : Value → Shared → Prop} {A : Around}
    (T : OexC X.K C) (I : Inv X pins σ H s) (e : H a = some (exo a C none)) (hu : s.heap.get? u = some (PySem.W.kxs_mw "ValueError.__init__" a)) (hl : us.length ≤ sizeLine) (h : ∀ s', Inv X pins σ H s' → Q .none s') :
    wpAny (model X.prog X.w) A (call (.ref u) us) Q E s := by
  obtain ⟨nm, q, N, bs, bm, sn, sub, ab, col, dd, k0, k1, k2, k3, k5, hC, hbm⟩ := T.cls
  obtain ⟨t1, ho⟩ := exo_at I.hok e
  obtain ⟨hp, g, d, t, os⟩ := s
  have fin : ∀ h' : Heap, (∀ b o, b ≠ a → hp.get? b = some o → h'.get? b = some o) → h'.get? a = some (PySem.W.excObj C hp.objs.size none .none) → Q .none ⟨h', g, d, t, os⟩ := fun h' k hx => by
    have J := I.write (t' := t) (x := a) (e := a) (o := exo a C none) (by rw [e]; exact True.intro) (.inl rfl) k ⟨_, hx⟩ (exo_ok hx)
    have eu : upd H a (exo a C none) = H := funext fun b => by
      by_cases hb : b = a
      · rw [hb, upd_same, e]
      · rw [upd_ne hb]
    rw [eu] at J
    exact h _ J
  refine wpAny_call (codeAny_of_tree ?_)
  show wpAny _ A.in1 (callAny (.ref u) ⟨us, []⟩) _ _ _
  simp only [callAny]
  refine wpAny_bind (wpAny_load hu ?_)
  simp only [PySem.W.kxs_mw, show (Value.type "method-wrapper" == Value.type "method" || Value.type "method-wrapper" == Value.type "builtin_function_or_method" || Value.type "method-wrapper" == Value.type "method-wrapper") = true by decide, if_true]
  refine PySem.W.KFB.if_so (by decide) ?_
  refine wpAny_bind (PySem.W.check_bound_init F.excBase_ValueError.toExcCallFacts (I.kIn _ _ hC) ho rfl ?_)
  refine wpAny_bind (wpAny_pure (wpAny_pure ?_))
  refine ⟨plainId_quiet F.excBase_ValueError.init.plain _, codeAny_builtin F.excBase_ValueError.initEntry ?_⟩
  exact PySem.W.exc_init_tree (cls := .ref C) (t0 := t1) (dv := none) (c2 := .none) (c3 := .none) (b4 := .bool false) ho hl fun h' k hx _ => fin h' k hx
def Body2 (self word fld text : Str) (body : List Stmt) : Prop := ∃ (p0 p1 p2 p3 p4 p5 p6 p7 p8 p9 p10 : Pos) (j : Nat), body = [.Expr (.Call (.Attribute (.Call (.Name "super" p0) [] [] p1) "__init__" p2) [.Constant (.str text) j p3, .Name word p4] [] p5) p6, .Assign [.Attribute (.Name self p7) fld p8] (.Name word p9) p10] ∧ (p2.endLine == p5.line) = true
theorem eval_sup {o : Expr} {name : Str} {apos pos : Pos} {e1 e2 : Expr} {env : Env} (hl : (apos.endLine == pos.line) = true) (h1 : starEach [e1, e2] env = [(false, eval e1 env), (false, eval e2 env)]) :
    eval (.Call (.Attribute o name apos) [e1, e2] [] pos) env = (do
      let ov ← attributeBase o name env (eval o env)
      standAt apos.atName
      let (f, first) ← holding [ov] (getMethod ov name (do return (← importBound o env).getD true))
      callWith pos f first (backTo pos (starEach [e1, e2] env)) []) := by
  have hp : methodCallPos true o env apos pos = pure pos := by unfold methodCallPos; rw [hl]; rfl
  show (do
    let ov ← attributeBase o name env (eval o env)
    standAt apos.atName
    methodCall o name apos pos env ov 2 (backTo pos (starEach [e1, e2] env)) []) = _
  rw [h1]
  have hm : ∀ ov, methodCall o name apos pos env ov 2 (backTo pos [(false, eval e1 env), (false, eval e2 env)]) [] = (do
      let (f, first) ← holding [ov] (getMethod ov name (do return (← importBound o env).getD true))
      callWith pos f first (backTo pos [(false, eval e1 env), (false, eval e2 env)]) []) := fun ov => by
    unfold methodCall
    have hf : methodCallForm 2 (backTo pos [(false, eval e1 env), (false, eval e2 env)]) [] = true := rfl
    rw [hf, hp]
    rfl
  simp only [hm]
structure ExF (P : Program) (K : PySem.W.Frag) (mg : Str → Option Value) (C : Addr) (fld : Str) (f cc cda : Addr) (file : Str) : Prop where
  T : OexC K C
  no : PySem.W.findIn K (.ref C) fld = some none
  cell : ∃ cl cld csl, K.lookup cc = some ⟨cl, cld, .cell (some (.ref C)), csl⟩
  code : ∃ ccl cdd vs ccs tf, K.lookup cda = some ⟨ccl, cdd, .fields vs, ccs⟩ ∧ vs[2]? = some (.str file tf)
  file : ((P.main.file : Str) == file) = true
  top : (P.main.scope.names.lookup ("super" : Str)).isSome = false
  sub : PySem.W.mroIn K C (.ref C) = some true
  sup : mg "super" = none
  opq : PySem.W.nsIn K cStatics "thirdparty.any" = some none
  ini : PySem.W.ks_superIn K C C "__init__" = some (some (.builtin "ValueError.__init__"))
  ve : PySem.W.subIn K (.ref C) (.type "ValueError") = some true
theorem fn_exc {P : Program} {w : World} {K : PySem.W.Frag} {mg : Str → Option Value} {base : Heap} {C f cc cda : Addr} {name qual self word fld text file : Str} {params : Arguments} {body : List Stmt} {scope : Scope} {dV kV doc pm ct oc : Value} {an od : Option Addr} {osl : Array (Option Value)} {ar : Arg} {k : Nat}
    (X : ExF P K mg C fld f cc cda file) (lk : K.lookup f = some ⟨oc, od, .func (PySem.W.fnX name qual params body scope [("__class__", cc)] dV kV doc pm an (.ref cda) ct), osl⟩) (hcd : PySem.W.codeIn K (.ref cda) qual = true)
    (S : NScope [self, word, "__class__"] [self, word] ["__class__"] scope) (hks : scope.names.lookup ("super" : Str) = some .globalImplicit) (hp : (params.posonlyargs ++ params.args).head? = some ar) (har : ar.arg = self) (hb2 : Body2 self word fld text body) (hd0 : (self == ("__debug__" : Str)) = false) (hd1 : (word == ("__debug__" : Str)) = false) (hc0 : (self == ("__classdict__" : Str)) = false) (hc1 : (word == ("__classdict__" : Str)) = false) :
    FnOk P w K mg base CX0 (k + 1) f (PySem.W.fnX name qual params body scope [("__class__", cc)] dV kV doc pm an (.ref cda) ct) [self, word] (spXI C fld) := by
  refine ⟨fun vs H Q E h => by obtain ⟨_, _, rfl, _⟩ := h; rfl, fun A outer s H args us vs Q E hr e0 hb r hsp => ?_⟩
  obtain ⟨a, v, rfl, ha, kk⟩ := hsp
  obtain ⟨u1, rfl, rv⟩ : ∃ u1, us = [.ref a, u1] ∧ RelV v u1 := by
    cases r with
    | @cons _ u0 _ ur ra rr =>
      obtain rfl : u0 = Value.ref a := ra
      cases rr with
      | @cons _ u1 _ ur2 rv rn =>
        cases rn
        exact ⟨u1, rfl, rv⟩
  have KX : K.In s.heap := e0.mod.kin.keeps fun b o e => (e0.bs b o e).1
  have lim : s.heap.NoLimit := e0.mod.nolimit.keeps fun b o e => (e0.bs b o e).1
  obtain ⟨cl, cld, csl, lcc⟩ := X.cell
  obtain ⟨ccl, cdd, cvs, ccs, tf, lcd, hvs⟩ := X.code
  refine codeAny_call_function hr.depth (KX _ _ lk) rfl S.co S.gen rfl (PySem.W.codeRec_of KX hcd) (hb _ _ _ _ ?_)
  refine wpAny_newFunctionEnv S.nocell (fun ⟨n, _⟩ hy => S.par n (List.of_mem_zip hy).1) (fun h₁ hns hsb => ⟨lim.fresh _ hsb, ?_⟩) S.kind
  show codeAny _ _ (.func body (PySem.W.envX qual scope s.heap.objs.size f (.ref cda) [("__class__", cc)])) _ _
  refine ks_codeAny_funcAt ?_
  have kp : ∀ b o, s.heap.get? b = some o → h₁.get? b = some o := fun b o e => hsb.extBut b o (Nat.ne_of_lt (Heap.lt_size e)) (Heap.get?_push_of_some _ e)
  have hcb := e0.bs _ _ (e0.mod.kin _ _ lcc)
  have C0 : CellsAt [("__class__", cc)] ["__class__"] [some (.ref C)] s.heap H := by
    have one : ∀ y c, ([("__class__", cc)] : List (Str × Addr)).lookup y = some c → y = "__class__" ∧ c = cc := fun y c e => by
      rw [List.lookup_cons] at e
      split at e
      · rename_i z
        exact ⟨eq_of_beq z, (Option.some.inj e).symm⟩
      · cases e
    refine ⟨rfl, fun y c e => ?_, fun x y c e1 e2 => (one x c e1).1.trans (one y c e2).1.symm, fun i y e => ?_⟩
    · rw [(one y c e).2]
      exact ⟨hcb.2, _, _, hcb.1, rfl⟩
    · match i, e with
      | 0, e =>
        rw [← Option.some.inj e]
        exact ⟨cc, rfl, fun v hv => ⟨.ref C, by cases hv; exact rfl, _, hcb.1, rfl⟩⟩
  have I : Inv (ncx CX0 P w K mg base [self, word, "__class__"] ⟨name, qual, params, body, scope, [("__class__", cc)], cda⟩ f A outer s H E) [] (startF [self, word, "__class__"] [.ref a, v] [some (.ref C)]) H { s with heap := h₁, toks := s.toks + ([self, word].zip [Value.ref a, u1]).length } :=
    inv_startN (F := ⟨name, qual, params, body, scope, [("__class__", cc)], cda⟩) S hr.hd e0 rfl r C0 hns kp
  have KX1 : K.In h₁ := KX.keeps kp
  obtain ⟨p0, p1, p2, p3, p4, p5, p6, p7, p8, p9, p10, j, rfl, hline⟩ := hb2
  have hkc : scope.names.lookup ("__class__" : Str) = some .free := S.frk _ (List.mem_singleton.mpr rfl)
  have hself : scope.names.lookup self = some .local := S.par _ List.mem_cons_self
  have hword : scope.names.lookup word = some .local := S.par _ (List.mem_cons_of_mem _ List.mem_cons_self)
  obtain ⟨nm, q, N, bs, bm, sn, sub, ab, col, dd, k0, k1, k2, k3, k5, hC, hbm⟩ := X.T.cls
  have hcl : PySem.W.clsIn K C = some { name := nm, bases := bs, mro := .ref C :: bm, ns := N, qualname := q, hasDict := true, slotNames := sn, subclasses := sub, abstract := ab, collection := col, hasDel := false } := by unfold PySem.W.clsIn; rw [hC] <;> rfl
  obtain ⟨t1, hoa⟩ := exo_at I.hok ha
  obtain ⟨mb, b1, b2⟩ := I.mod.blt
  have boot : bootBuiltins "super" = some (.type "super") := by first | boot_by_name | rfl | kernel_rfl
  have hne : a ≠ C := fun z => by
    have := KX1 _ _ hC
    rw [← z, hoa] at this
    cases this
  refine ks_wpAt_execs_cons (ks_wpAt_Expr_any (ks_wpAt_MethodCall ?_ (eval_sup hline rfl)) I.quiet rfl)
  refine ks_wpAt_super_base (f := f) (cc := cda) hks hkc (by decide) rfl (KX1 _ _ lk) rfl hp rfl (KX1 _ _ lcd) rfl hvs X.file X.top ?_
  refine PySem.W.ks_loadName_global I.ok.kind hks (Calls.loadGlobal_builtin (I.mod.glob.keeps I.bk) X.sup (b1.keeps I.bk) ((b2 _ (by decide)).trans boot) ⟨rfl, ?_⟩)
  refine wpAny_loadName_free I.ok.kind hkc rfl ⟨_, kp _ _ hcb.1, rfl⟩ ?_
  rw [har]
  have ndp : [self, word].Nodup := (List.nodup_append.mp (show ([self, word] ++ [("__class__" : Str)]).Nodup from S.nd)).1
  refine wpAny_loadName_local I.ok.kind hself hns (zip_look (i := 0) ndp rfl rfl) ?_
  refine ks_wpAny_isType_cls (KX1 _ _ hC) rfl ⟨rfl, ?_⟩
  refine ks_wpAny_call_super (KX1 _ _ hC) rfl hoa rfl (fun c z => by cases z) (PySem.W.looks_mroIn KX1 X.sub) (fun h2 e2 kq => ?_)
  have I2 := I.kept (h' := h2) (t' := s.toks + ([self, word].zip [Value.ref a, u1]).length) kq
  have KX2 : K.In h2 := KX1.keeps kq
  have hoa2 := kq _ _ hoa
  have hal : PySem.W.alongIn K "__init__" (((Value.ref C :: bm).dropWhile (· != .ref C)).drop 1) = some (some (.builtin "ValueError.__init__")) := by
    have := X.ini
    unfold PySem.W.ks_superIn at this
    rw [hcl] at this
    exact this
  have IA : PySem.W.InstAt h2 a (PySem.W.excObj C t1 none .none) C none := ⟨hoa2, rfl, rfl, trivial⟩
  refine PySem.W.kxs_getMethod PySem.W.kxs_ValueError (l₀ := .ref C :: bm) e2 (PySem.W.looks_opaque KX2 X.opq) ?_ rfl KX2 hal (IA.type.andThen (PySem.W.looks_subIn KX2 X.ve)) hne (by decide) ?_
  · exact fun A Q E s k q => wpAny_bind ((PySem.W.looks_clsIn KX2 hcl) A _ E s k (wpAny_pure q))
  have kp3 : ∀ b o, h2.get? b = some o → (h2.push (PySem.W.kxs_mw "ValueError.__init__" a)).get? b = some o := fun b o e => Heap.get?_push_of_some _ e
  have I3 := I2.kept (h' := h2.push (PySem.W.kxs_mw "ValueError.__init__" a)) (t' := s.toks + ([self, word].zip [Value.ref a, u1]).length + 1) kp3
  have hu3 : (h2.push (PySem.W.kxs_mw "ValueError.__init__" a)).get? h2.objs.size = some (PySem.W.kxs_mw "ValueError.__init__" a) := Heap.get?_push_at rfl rfl
  have I4 := I3.pins_of (pins' := [(h2.objs.size, PySem.W.kxs_mw "ValueError.__init__" a)]) fun p hp => by
    rw [List.mem_singleton.mp hp]
    exact ⟨hu3, I2.hok.fresh (Nat.le_refl _), (Nat.ne_of_lt I2.lt).symm, I2.nofs (Nat.le_refl _), fun v z => by cases z⟩
  have pw : PE (ncx CX0 P w K mg base [self, word, "__class__"] ⟨name, qual, params, [.Expr (.Call (.Attribute (.Call (.Name "super" p0) [] [] p1) "__init__" p2) [.Constant (.str text) j p3, .Name word p4] [] p5) p6, .Assign [.Attribute (.Name self p7) fld p8] (.Name word p9) p10], scope, [("__class__", cc)], cda⟩ f A outer s H E) (.Name word p4) (tVar 1) := pe_var rfl (.inl hword) hd1 hc1
  have pa := pa_cons (pe_str (x := text) (j := j) (pos := p3)) (pa_cons pw pa_nil)
  refine PySem.W.kxs_callWith (i := "ValueError.__init__") (x := a) rfl (PySem.Calls.evalArgs_plain (thn (pa.run p5 _ _ _ _ (fun vs H1 => vs = [.str text, v] ∧ H1 = H) I4 ⟨v, rfl, rfl, rfl⟩) fun ws s5 h5 => ?_))
  obtain ⟨vs5, H5, I5, r5, rfl, rfl⟩ := h5
  have hu5 := (I5.pin _ (List.mem_append_right _ (List.mem_singleton.mpr rfl))).1
  have l5 : ws.length ≤ sizeLine := by
    have := Paired.length r5
    rw [← this]
    show 2 ≤ sizeLine
    decide
  refine ⟨hu5, ?_⟩
  refine call_mw X.T (I5.pins_of (pins' := []) fun p hp => absurd hp (by exact List.not_mem_nil)) ha hu5 l5 fun s6 I6 => ?_
  have pself : PE (ncx CX0 P w K mg base [self, word, "__class__"] ⟨name, qual, params, [.Expr (.Call (.Attribute (.Call (.Name "super" p0) [] [] p1) "__init__" p2) [.Constant (.str text) j p3, .Name word p4] [] p5) p6, .Assign [.Attribute (.Name self p7) fld p8] (.Name word p9) p10], scope, [("__class__", cc)], cda⟩ f A outer s H5 E) (.Name self p7) (tVar 0) := pe_var rfl (.inl hself) hd0 hc0
  have pword : PE (ncx CX0 P w K mg base [self, word, "__class__"] ⟨name, qual, params, [.Expr (.Call (.Attribute (.Call (.Name "super" p0) [] [] p1) "__init__" p2) [.Constant (.str text) j p3, .Name word p4] [] p5) p6, .Assign [.Attribute (.Name self p7) fld p8] (.Name word p9) p10], scope, [("__class__", cc)], cda⟩ f A outer s H5 E) (.Name word p9) (tVar 1) := pe_var rfl (.inl hword) hd1 hc1
  have st := pss_one (ps_ost (f := fld) (p' := p8) (pos := p10) pself pword)
  refine wpAt_of_wpAny (wpAny_mono (st.run [] s6 _ H5 { nx := fun _ H' => Q .non H', rt := Q } I6 ⟨v, rfl, .ref a, rfl, a, C, rfl, X.T, X.no, .inl ⟨ha, fun dx n ne => kk dx n ne⟩⟩) (fun fl s7 hs => ?_) fun e s' hs => hs)
  cases fl with
  | ret u =>
    obtain ⟨v7, σ7, H7, J, r7, q7⟩ := hs
    exact ⟨v7, H7, J.os, J.bare, J.base, J.hok, r7, q7⟩
  | next =>
    obtain ⟨σ7, H7, J, q7⟩ := hs
    exact ⟨.non, H7, J.os, J.bare, J.base, J.hok, rfl, q7⟩
  | brk =>
    obtain ⟨_, _, _, q7⟩ := hs
    exact False.elim q7
  | cont =>
    obtain ⟨_, _, _, q7⟩ := hs
    exact False.elim q7
end ExS
set_option maxRecDepth 100000
set_option maxHeartbeats 4000000
namespace ExS
open PySem PySem.Spec PyProof.Rows L2
structure XMk (P : Program) (w : World) (K : PySem.W.Frag) (mg : Str → Option Value) (base : Heap) (k : Nat) (x : Str) (C : Addr) (fld : Str) : Prop where
  ex : ∃ (fI : Addr) (fd : FuncData) (ps : List Str), OexC K C ∧ PySem.W.findIn K (.ref C) "__init__" = some (some (.ref fI)) ∧ PySem.W.typeIn K (.ref fI) = some (.type "function") ∧ FnOk P w K mg base L2.CX0 k fI fd ps (spXI C fld) ∧ Binds K fd ps [] ∧ mg x = some (.ref C)
section
variable {X : Cx} {x fld : Str} {C : Addr} {k j : Nat} {p pos : Pos} {e : Expr} {es : List Expr} {ta : TA}
theorem pmk_x (c : XMk X.prog X.w X.K X.mg X.base k x C fld) (hr : Room j X.A) (hk : k + 1 ≤ j) (hg : Gl X x) (ha : PA X (e :: es) ta)
    (hdb : (x == ("__debug__" : Str)) = false := by decide) (he : starEach (e :: es) X.env = (false, eval e X.env) :: starEach es X.env := by rfl) (hpl : (backTo pos (starEach es X.env)).any (·.1) = false := by rfl) :
    PMk X (.Call (.Name x p) (e :: es) [] pos) (tMkO C (spXI C fld) [] ta) := by
  obtain ⟨fI, fd, ps, T, iC, tI, F, b, hm⟩ := c.ex
  exact pmk_oex T iC tI F (hr.mono hk) b .nil L2.pass0 hg hm ha hdb he hpl
end
theorem exo_exd {a C d : Addr} {o : Option Addr} {fs : List (Str × V)} {H : Hp} (h1 : H a = some (exo a C o)) (h2 : H d = none) : d ≠ a := fun z => by
  rw [z, h1] at h2
  cases h2
theorem rd_x {C : Addr} {fld : Str} {H1 : Hp} {v : V} {Q : XK} (k : ∀ d H', Same H1 H' → H1 d = none → H' d = some (.xd [(fld, v)]) → Q (.ref C) (some d) H') :
    [v].length ≤ 1000 ∧ ∀ a, H1 a = none → spXI C fld (.ref a :: ([v] ++ [])) (upd H1 a (exo a C none)) (fun w H2 => w = .non ∧ ∃ (d : Addr) (fs : List (Str × V)), H2 a = some (exo a C (some d)) ∧ H2 d = some (exd d fs) ∧ H1 d = none ∧ Q (.ref C) (some d) (upd (del H2 a) d (.xd fs))) (fun _ _ _ => False) := by
  refine ⟨by show 1 ≤ 1000; decide, fun a na => ⟨a, v, rfl, upd_same, fun dx nd ne => ⟨rfl, dx, [(fld, v)], upd_same, by rw [upd_ne ne, upd_same], ?_, ?_⟩⟩⟩
  · rw [upd_ne ne] at nd
    exact nd
  · rw [upd_ne ne] at nd
    refine k dx _ (fun b o e => ?_) nd upd_same
    have b1 : b ≠ a := ne_of_none e na
    have b2 : b ≠ dx := ne_of_none e nd
    rw [upd_ne b2, del_ne b1, upd_ne b1, upd_ne b2, upd_ne b1]
    exact e
theorem takes0 {X : Cx} : L2.Takes X (fun _ _ _ _ => False) := fun _ _ ⟨_, _, _, _, _, _, _, _, _, _, _, _, _, _, _, _, w⟩ => w.elim
structure MakX (P : Program) (w : World) (K : PySem.W.Frag) (mg : Str → Option Value) (base : Heap) (k : Nat) (x : Str) (C : Addr) (sp : Sp) (dvs : List V) : Prop where
  ex : ∃ (f : Addr) (fd : FuncData) (ps : List Str) (ds : List Value), Mk K C f ∧ FnOk P w K mg base (L2.CX P w) k f fd ps sp ∧ mg x = some (.ref C) ∧ Binds K fd ps ds ∧ Vals dvs ds
def tMakeS (C : Addr) (sp : Sp) (dvs : List V) (E : L2.St → XK) (t : TA) : TE := fun σ H Q => t σ H fun vs H1 => ∀ x dx, H1 x = none → H1 dx = none → dx ≠ x →
  sp (.ref x :: (vs ++ dvs)) (upd (upd H1 dx (.own x)) x (.ins C dx [])) (fun v H2 => v = .non ∧ Q (.ref x) H2) (E σ)
section
variable {X : Cx} {x : Str} {C : Addr} {k j : Nat} {p pos : Pos} {e : Expr} {es : List Expr} {t : TA} {sp : Sp} {dvs : List V} {W : WX}
theorem pe_mkT (c : MakX X.prog X.w X.K X.mg X.base k x C sp dvs) (hr : Room j X.A) (hk : k + 1 ≤ j) (tk : Takes X W) (hg : Gl X x) (ha : PA X (e :: es) t)
    (hdb : (x == ("__debug__" : Str)) = false := by decide) (he : starEach (e :: es) X.env = (false, eval e X.env) :: starEach es X.env := by rfl) (hpl : (backTo pos (starEach es X.env)).any (·.1) = false := by rfl) :
    PE X (.Call (.Name x p) (e :: es) [] pos) (tMakeS C sp dvs (WE W) t) := by
  obtain ⟨f, fd, ps, ds, M, F, hm, b, d⟩ := c.ex
  refine ⟨fun pins s σ H Q I h => wpAny_Call_Name_kw (ld_glob I hg hm ?_ hdb)⟩
  refine PySem.W.callWith_K (h₀ := X.base) I.ok.mod.kin M.kp (thn (ha.run pos pins s σ H _ I h) fun us s1 ⟨vs, H1, I1, r, q⟩ => ⟨I1.kIn, ?_⟩) he hpl
  have q1 := q (s1.heap.objs.size + 1) s1.heap.objs.size (I1.hok.fresh (Nat.le_succ _)) (I1.hok.fresh (Nat.le_refl _)) (Nat.ne_of_lt (Nat.lt_succ_self _))
  have J := Inv.made (C := C) I1
  have rr : Vals (V.ref (s1.heap.objs.size + 1) :: (vs ++ dvs)) (Value.ref (s1.heap.objs.size + 1) :: (us ++ ds)) := .cons rfl (r.append d)
  have len : (Value.ref (s1.heap.objs.size + 1) :: us ++ ds).length = ps.length := (rr.length).symm.trans (F.len _ _ _ _ q1)
  have go := F.run (X.A.under (.builtin "type.__call__" ⟨.ref C :: us, []⟩)) X.stack _ _ ⟨Value.ref (s1.heap.objs.size + 1) :: us, []⟩ _ _ _ _ ((hr.mono hk).make C us []) (J.env0.make C us []) (b _ (Value.ref (s1.heap.objs.size + 1) :: us) J.kIn len) rr q1
  refine wpAny_call (make_map (f := f) I1.kIn M.makes M.init (beq_iff_eq.mp M.fn) (codeAny_mono go fun res s2 hres => ?_))
  match res, hres with
  | .error er, hres => exact passAt tk σ pins _ _ er s2 J hres
  | .ok (.ret u), hres =>
    obtain ⟨v, H2, J2, rv, ev, q2⟩ := J.after hres
    subst ev
    exact ⟨rv, V.ref (s1.heap.objs.size + 1), H2, J2, rfl, q2⟩
  | .ok .next, hres => exact False.elim hres
  | .ok .brk, hres => exact False.elim hres
  | .ok .cont, hres => exact False.elim hres
end
section
variable {P : Program} {w : World} {K : PySem.W.Frag} {mg : Str → Option Value} {base : Heap}
theorem fnR {x qual : Str} {st : Stmt} {f : Addr} {fd : FuncData} {N ps : List Str} {k : Nat} {sp : Sp} (F : C8.Fun K x qual st f fd) (S : FnScope N ps (C8.fnScope st)) (len : ∀ vs H Q E, sp vs H Q E → vs.length = ps.length)
    (hbody : ∀ (cdv : Value) (A : Around) (outer : List Env) (s : Shared) (H : Hp) (vs : List V) (Q : VK) (E : XK), Room k (A.deeper (envOfC qual (C8.fnScope st) s.heap.objs.size f cdv)) → sp vs H Q E →
      ∃ t, PSs (cxOf (L2.CX P w) P w K mg base N qual (C8.fnScope st) f cdv A outer s H E) (C8.fnBody st) t ∧ t { nx := fun _ H' => Q .non H', rt := Q } (start N vs) H) : FnOk P w K mg base (L2.CX P w) (k + 1) f fd ps sp := by
  obtain ⟨oc, od, dV, kV, doc, pm, an, cdv, ct, osl, rfl, lk, hcd⟩ := F.ex
  exact fn_of lk hcd S len fun A outer s H vs Q E hr hsp => hbody cdv A outer s H vs Q E hr hsp
end
end ExS
set_option maxRecDepth 100000
set_option maxHeartbeats 4000000
namespace PySem.W
open PySem PySem.Spec PySem.Calls PyProof.Rows
section
variable {prog : Program} {w : World} {A : Around} {E : Value → Shared → Prop} {s : Shared} {K : Frag} {x D : Addr} {ox : Obj} {od : Option Obj}
theorem findObj_dataD {C : Addr} {name : Str} {a g : Value} (hc : (clsIn K C).isSome = true) (ha : findIn K (.ref C) name = some (some a)) (hg : specialIn K a "__get__" = some (some g)) (ht : takesIn K a = some true) : findObj K C od name = some (.bind g a) := by
  obtain ⟨cd, hc⟩ := Option.isSome_iff_exists.mp hc
  unfold findObj
  rw [hc, Option.bind_some, ha, Option.bind_some]
  simp [hg, ht]
theorem class_of_err {Q : Option Value → Shared → Prop} (T : L2.ExcC K D) (X : K.In s.heap) (I : InstAt s.heap x ox D od) (h : Q (some (.ref D)) { s with toks := s.toks + 1 }) : wpAny (model prog w) A (getAttr? (.ref x) "__class__") Q E s := by
  have hf : findObj K D od "__class__" = some (.bind (.builtin "getset_descriptor.__get__") (.builtin "object.__class__")) := findObj_dataD (by obtain ⟨cd, hc, _⟩ := any_some T.hd; rw [hc]; rfl) T.ha T.hn T.ht
  obtain ⟨hp, g, d, t, os⟩ := s
  have L0 := I.type (M := model prog w)
  have L1 := looks_findIn (M := model prog w) X T.hg
  have L2 := looks_findIn (M := model prog w) X T.hk
  have L3 := looks_find (M := model prog w) X I hf
  have sub : Looks (model prog w) hp (isInstance (.ref x) (.type "BaseException")) true := L0.andThen (looks_subIn X T.hs)
  have n2 : (Value.builtin "BaseException.__getattribute__" == Value.builtin "object.__getattribute__") = false := by decide +kernel
  have n1 : (onTheHeap (Value.ref D) && Value.builtin "BaseException.__getattribute__" == Value.builtin "object.__getattribute__") = false := by rw [n2]; rfl
  have n0 : (false && onTheHeap (Value.builtin "BaseException.__getattribute__")) = false := rfl
  unfold getAttr? getAttrBy? getAttrBy
  refine wpAny_bind (wpAny_mkText (wpAny_bind (wpAny_attempt (wpAny_holding (wpAny_bind (L0.at (wpAny_bind (L1.at ?_))))))))
  show wpAny _ _ (if (onTheHeap (Value.ref D) && Value.builtin "BaseException.__getattribute__" == Value.builtin "object.__getattribute__") = true then _ else _) _ _ _
  rw [n1, if_neg Bool.false_ne_true]
  unfold getAttrByItsOwn hookBefore
  refine wpAny_bind ?_
  rw [if_pos (show onTheHeap (Value.ref D) = true from rfl)]
  refine L2.at ?_
  refine wpAny_bind (wpAny_attempt (wpAny_holding ?_))
  unfold callGetattribute
  rw [n0, if_neg Bool.false_ne_true]
  unfold boundAndCalled
  rw [PySem.F.excAttr_ValueError.ga.bind (.ref x)]
  refine wpAny_bind (wpAny_pure ?_)
  show wpAny _ _ (call (.builtin "BaseException.__getattribute__") [.ref x, .str "__class__" t]) _ _ _
  refine wpAny_call (codeAny_call_builtin PySem.F.excAttr_ValueError.ga.plain PySem.F.entry_bexc_ga ?_)
  refine @check_slot (model prog w) _ _ ⟨hp, g, d, t + 1, os⟩ "BaseException.__getattribute__" "BaseException" "__getattribute__" (.ref x) [.str "__class__" t] [] _ (by decide +kernel) (by decide +kernel) sub (PySem.F.args_bexc_ga (.ref x) (.str "__class__" t)) ?_
  unfold Builtin.«object.__getattribute__»
  refine wpAny_bind (wpAny_of_eq (a := ((Value.ref x : Value), [Value.str "__class__" t])) (by first | rfl | (simp only [slotArgs]; rfl)) ?_)
  refine wpAny_bind (wpAny_pure (wpAny_bind (L0.at (wpAny_bind (L3.at ?_)))))
  show wpAny _ _ (holding [Value.builtin "object.__class__"] (call (.builtin "getset_descriptor.__get__") [.builtin "object.__class__", .ref x, .ref D]) >>= ret) _ _ _
  refine wpAny_bind (wpAny_holding (wpAny_call (class_get (s := ⟨hp, g, d, t + 1, os⟩) (ox := ox) (od := od) X I T.hm ?_)))
  refine wpAny_pure ?_
  show wpAny _ _ (handedOut (.ref D)) _ _ _
  rw [handedOut_of (v := .ref D) rfl]
  first
    | exact wpAny_pure (wpAny_pure h)
    | exact wpAny_pure h
    | exact wpAny_pure (wpAny_bind (wpAny_pure (wpAny_pure h)))
theorem kitx_err (T : L2.ExcC K D) : KitX K (.ref x) (.ref D) (fun h => InstAt h x ox D od) where
  ty := fun _ _ _ I => I.type
  it := fun _ _ X _ => by
    obtain ⟨cdD, hcD, _⟩ := any_some T.hd
    unfold clsIn at hcD
    split at hcD
    · rename_i c' d' cd' sl' ho
      intro A' Q' E' s' k q
      unfold isType loadHead
      exact wpAny_bind (wpAny_loadPart (k _ _ (X _ _ ho)) (wpAny_pure q))
    · cases hcD
  ne := fun h tp dd its n sl X htp => by
    obtain ⟨cdD, hcD, _⟩ := any_some T.hd
    refine Bool.eq_false_iff.mpr fun q => ?_
    have e : D = tp := Value.ref.inj (beq_iff_eq.mp q)
    subst e
    unfold clsIn at hcD
    split at hcD
    · rename_i c' d' cd' sl' ho
      have z := (X _ _ ho).symm.trans htp
      cases z
    · cases hcD
  ca := fun X I k => class_of_err T X I k
end
end PySem.W
namespace ExS
open PySem PySem.Spec PyProof.Rows L2
def rIsD (K : PySem.W.Frag) (a : Addr) (cls : Value) (d : Option Addr) : List V → Hp → VK → Prop := fun xs H Q => ∃ (D dd : Addr) (fs : List (Str × V)) (c : V) (cv : Value) (b : Bool), xs = [.ref a, c] ∧ cls = .ref D ∧ d = some dd ∧ H dd = some (.xd fs) ∧ ExcC K D ∧ ClsV c cv ∧ PySem.W.kitOne K (.ref D) cv = some b ∧ Q (.bl b) H
theorem call_isD {X : Cx} {a : Addr} {cls : Value} {d : Option Addr} {oe : Obj} {pn : List (Addr × Obj)} (hz : Zc cls d oe) (hf : ∃ vs, oe.data = .fields vs) : CallR (X.suite a ((a, oe) :: pn)) (.builtin "isinstance") (rIsD X.K a cls d) := by
  intro pins s σ H xs us Q I r h
  obtain ⟨D, dd, fs, c, cv, b, rfl, rfl, rfl, ea, T, hcv, e, q⟩ := h
  obtain ⟨u1, u2, rfl, rx, rt⟩ := vals2 r
  have ec := hcv.eq rt
  subst ec
  obtain rfl : u1 = Value.ref a := rx
  obtain ⟨ha, _⟩ := I.pin (a, oe) (List.mem_append.mpr (.inl List.mem_cons_self))
  obtain ⟨vs, hd⟩ := hf
  have hx : ObjOk X.prog X.w H s.heap dd (.xd fs) := I.hok dd _ ea
  obtain ⟨mA, hns, hr⟩ := hx
  obtain ⟨od, ho, hl⟩ := lookIn_ns hns
  have J : PySem.W.InstAt s.heap a oe D (some od) := ⟨ha, hz.1, by unfold PySem.W.notCls; rw [hd] <;> rfl, by rw [hz.2]; exact ho⟩
  exact PySem.W.kia_one (PySem.W.kitx_err T) I.kIn J e (fun z => nomatch z) fun tk => ⟨.bl b, H, I.kept (t' := tk) fun _ _ z => z, rfl, q⟩
end ExS
set_option maxRecDepth 100000
set_option maxHeartbeats 4000000
namespace U
open PySem PySem.Spec PyProof.Rows
open L2 hiding Fun CX0 E0 pass0 Fun.binds
open C8 Lx SX StX
def TpX (H : Hp) (a : Addr) (xs : List V) : Prop := ∃ o : Obj, H a = some (.frz o (.tup xs)) ∧ o.dict = none
theorem TpX.same {H H' : Hp} {a : Addr} {xs : List V} (h : TpX H a xs) (s : Same H H') : TpX H' a xs := by
  obtain ⟨o, h1, h2⟩ := h
  exact ⟨o, s _ _ h1, h2⟩
theorem TpX.sq {K : PySem.W.Frag} {H : Hp} {a : Addr} {xs : List V} (h : TpX H a xs) : SqT K H a xs := by
  obtain ⟨o, h1, _⟩ := h
  exact .inl (.inr ⟨o, h1⟩)
theorem TpX.new {H : Hp} {a : Addr} {xs : List V} {o : Obj} (h : o.dict = none) : TpX (upd H a (.frz o (.tup xs))) a xs := ⟨o, upd_same, h⟩
section
variable {X : Cx} {es : List Expr} {t : TA} {pos : Pos}
def tTupF (t : TA) : TE := fun σ H Q => t σ H fun xs H1 => xs.length ≤ sizeLine ∧ ∀ (p : Addr) (o : Obj), H1 p = none → o.dict = none → Q (.ref p) (upd H1 p (.frz o (.tup xs)))
theorem pe_tupF {x1} (h : PA X es t) : PE X (.Tuple es x1 pos) (tTupF t) := by
  refine ⟨fun pins s σ H Q I hq => ?_⟩
  refine wpAny_Tuple_spliced (thn (h.run pos pins s σ H _ I hq) fun us s1 ⟨xs, H1, I1, r, z, q⟩ => ⟨by rw [← r.length]; exact z, ?_⟩)
  have hf : H1 s1.heap.objs.size = none := I1.hok.fresh (Nat.le_refl _)
  have hg : (s1.heap.push { cls := .type "tuple", data := .seq us.toArray }).get? s1.heap.objs.size = some { cls := .type "tuple", data := .seq us.toArray } := Heap.get?_push_size _ rfl
  refine ⟨.ref s1.heap.objs.size, upd H1 s1.heap.objs.size (.frz { cls := .type "tuple", data := .seq us.toArray } (.tup xs)), I1.laid (t' := s1.toks) (fun b u e => Heap.get?_push_of_some _ e) (Nat.le_refl _) ?_, rfl, q _ _ hf rfl⟩
  exact ⟨hg, z, us, r, ⟨_, hg, rfl, _, rfl⟩⟩
def rCatF (K : PySem.W.Frag) : R2 := fun x y H Q => ∃ a b xs ys, x = .ref a ∧ y = .ref b ∧ SqT K H a xs ∧ SqT K H b ys ∧ ys ≠ [] ∧ xs.length + ys.length ≤ sizeLine ∧
  (xs = [] → Q (.ref b) H) ∧ (xs ≠ [] → ∀ (p : Addr) (o : Obj), H p = none → o.dict = none → Q (.ref p) (upd H p (.frz o (.tup (xs ++ ys)))))
theorem op_catF : OpR X (binaryOp .Add) (rCatF X.K) := by
  intro pins s σ H x y v u Q I rx ry h
  obtain ⟨a, b, xs, ys, rfl, rfl, ha, hb, hy, hz, q0, q2⟩ := h
  cases rx
  cases ry
  obtain ⟨its, r1, p1, _⟩ := I.tuple ha
  obtain ⟨its2, r2, p2, _⟩ := I.tuple hb
  by_cases hx : xs = []
  · subst hx
    cases r1
    exact cat_tup0 p1 p2 ⟨.ref b, H, I, rfl, q0 rfl⟩
  · refine HT.cat_tup p1 p2 (fun z => hx (r1.nil_iff.mp z)) (fun z => absurd (r2.nil_iff.mp z) hy) (fun z => ?_) (by rw [← r1.length, ← r2.length]; exact hz)
    have hg : (s.heap.push { cls := .type "tuple", data := .seq (its ++ its2).toArray }).get? s.heap.objs.size = some { cls := .type "tuple", data := .seq (its ++ its2).toArray } := Heap.get?_push_size _ rfl
    refine ⟨.ref s.heap.objs.size, _, I.laid (t' := s.toks) (o := .frz { cls := .type "tuple", data := .seq (its ++ its2).toArray } (.tup (xs ++ ys))) (fun b ob q => Heap.get?_push_of_some _ q) (Nat.le_refl _) ?_, rfl, q2 hx _ _ (I.hok.fresh (Nat.le_refl _)) rfl⟩
    exact ⟨hg, by rw [List.length_append]; exact hz, _, r1.append r2, ⟨_, hg, rfl, _, rfl⟩⟩
theorem call_tupleF : CallR X (.type "tuple") (fun xs H Q => ∃ p ys, xs = [.ref p] ∧ SqL X.K H p ys ∧ ∀ (l : Addr) (o : Obj), H l = none → o.dict = none → Q (.ref l) (upd H l (.frz o (.tup ys)))) := by
  intro pins s σ H xs us Q I r h
  obtain ⟨p, ys, rfl, hq, q⟩ := h
  obtain ⟨u, rfl, rx⟩ := vals1 r
  cases rx
  obtain ⟨its, r', pl, hz⟩ := I.list hq
  have hlen := r'.length
  refine call_tuple_list pl.isList (fun h' kp => ?_) (by simp only [List.size_toArray] <;> omega)
  have I1 : Inv X pins σ H { s with heap := h' } := I.kept (t' := s.toks) kp
  have hg : (h'.push { cls := .type "tuple", data := .seq its.toArray }).get? h'.objs.size = some { cls := .type "tuple", data := .seq its.toArray } := Heap.get?_push_size _ rfl
  have I2 : Inv X pins σ (upd H h'.objs.size (.frz { cls := .type "tuple", data := .seq its.toArray } (.tup ys))) { s with heap := h'.push { cls := .type "tuple", data := .seq its.toArray } } :=
    I1.laid (t' := s.toks) (fun b o e => Heap.get?_push_of_some _ e) (Nat.le_refl _) (show ObjOk X.prog X.w _ _ _ (.frz _ (.tup ys)) from ⟨hg, hz, its, r', ⟨_, hg, rfl, _, rfl⟩⟩)
  exact ⟨.ref h'.objs.size, _, I2, rfl, q _ _ (I1.hok.fresh (Nat.le_refl _)) rfl⟩
theorem pairs_ofF {pins : List (Addr × Obj)} {σ : L2.St} {H : Hp} {s : Shared} (I : Inv X pins σ H s) : ∀ {ps : List Addr} {kvs : List (Key × V)}, Paired (fun p kv => SqT X.K H p [kV kv.1, kv.2]) ps kvs →
    ∃ (prs : List (Key × Value)) (pvs : List (Value × Value)), KV kvs prs ∧ prs.length = ps.length ∧ pvs.length = ps.length ∧ ∀ (j : Nat) (k v : Value), pvs[j]? = some (k, v) → ∃ (b : Addr) (key : Key), ps[j]? = some b ∧ IsTup s.heap b #[k, v] ∧ prs[j]? = some (key, v) ∧ keyIs key k = true
  | _, _, .nil => ⟨[], [], .nil, rfl, rfl, fun j k v e => by simp at e⟩
  | _, _, .cons (a := p) (b := kv) h t => by
    obtain ⟨prs, pvs, r, hl, hl2, hp⟩ := pairs_ofF I t
    obtain ⟨its, rv, ht, _⟩ := I.tuple h
    obtain ⟨u, y, ei, ru, ry⟩ := vals2 rv
    subst ei
    refine ⟨(kv.1, y) :: prs, (u, y) :: pvs, .cons ⟨rfl, ry⟩ r, by rw [List.length_cons, List.length_cons, hl], by rw [List.length_cons, List.length_cons, hl2], fun j k v e => ?_⟩
    cases j with
    | zero =>
      have e' : (u, y) = (k, v) := Option.some.inj e
      cases e'
      exact ⟨p, kv.1, rfl, ht, rfl, kV_is (P := X.prog) (w := X.w) ru⟩
    | succ j =>
      obtain ⟨b, key, e1, e2, e3, e4⟩ := hp j k v (by simpa using e)
      exact ⟨b, key, by simpa using e1, e2, by simpa using e3, e4⟩
def rDictF (K : PySem.W.Frag) : List V → Hp → VK → Prop := fun xs H Q => ∃ (a : Addr) (ps : List Addr) (kvs : List (Key × V)), xs = [.ref a] ∧ TpX H a (ps.map V.ref) ∧ Paired (fun p kv => SqT K H p [kV kv.1, kv.2]) ps kvs ∧
    ∀ p, H p = none → Q (.ref p) (upd H p (.dK (mergeK [] kvs)))
theorem call_dictF (hcalm : X.calm = true) : CallR X (.type "dict") (rDictF X.K) := by
  intro pins s σ H xs us Q I r q
  obtain ⟨a, ps, kvs, ex, ⟨o, hq, hd0⟩, hp, q⟩ := q
  subst ex
  obtain ⟨u, eu, rx⟩ := vals1 r
  subst eu
  cases rx
  obtain ⟨hg, hz, its, rv, o2, hg2, hc, n, hd⟩ := I.hok _ _ hq
  rw [hg] at hg2
  cases hg2
  have ei := refs_at rv
  subst ei
  rw [List.length_map] at hz
  obtain ⟨prs, pvs, rel, hl, hl2, hpr⟩ := pairs_ofF I hp
  have hit : PairItems s.heap (ps.map Value.ref).toArray (fun j => ps.getD j 0) pvs := ⟨by simp [hl2], fun j k v e => by
    obtain ⟨b, key, e1, e2, e3, e4⟩ := hpr j k v e
    have eb : ps.getD j 0 = b := by rw [List.getD_eq_getElem?_getD, e1]; rfl
    refine ⟨by simp [e1, eb], .inl ?_⟩
    show s.heap.IsTuple (ps.getD j 0) #[k, v]
    rw [eb]
    exact e2⟩
  refine PySem.call_dict_pairs (knd := mixKind X.prog X.w) (kvs := prs) (PairArg.tuple a (ps.map Value.ref).toArray (fun j => ps.getD j 0) pvs) (I.ok.hd hcalm) ⟨⟨o, n, hg, hc, hd0, hd⟩, hit⟩ ⟨by rw [hl, hl2], fun i key v e => ?_⟩ (by rw [hl2]; exact hz) fun h' tk hd' k => ?_
  · obtain ⟨b, kk, e1, e2, e3, e4⟩ := hpr i key v e
    exact ⟨kk, e3, e4⟩
  · have hm : (s.heap.objs.size == sysModules) = false := beq_eq_false_iff_ne.mpr (Nat.ne_of_gt I.big)
    have hlen : (mergeK [] kvs).length ≤ sizeLine := by
      refine Nat.le_trans (length_mergeK kvs []) ?_
      rw [List.length_nil, Nat.zero_add, rel.length, hl]
      exact hz
    exact ⟨.ref s.heap.objs.size, upd H s.heap.objs.size (.dK (mergeK [] kvs)), I.laid (t' := tk) (fun b o e => k b o (fun z => nomatch z) e) (Nat.le_refl _) (show ObjOk X.prog X.w _ _ _ (.dK (mergeK [] kvs)) from ⟨hlen, hm, merged [] prs, KV.merge rel .nil, hd'⟩), rfl, q _ (I.hok.fresh (Nat.le_refl _))⟩
end
end U
set_option maxRecDepth 100000
set_option maxHeartbeats 4000000
namespace U
open PySem PySem.Spec PyProof.Rows
open L2 hiding Fun CX0 E0 pass0 Fun.binds
open C8 Lx SX StX
section
variable {prog : Program} {w : World} {A : Around} {E : Value → Shared → Prop} {s : Shared}
theorem adjust_rev (n : Nat) : Builtin.Slice.sliceAdjust none none (-1) (n : Int) = ((n : Int) - 1, -1) := by
  unfold Builtin.Slice.sliceAdjust
  rfl
theorem places_rev (n : Nat) : Builtin.Slice.slicePlaces ((n : Int) - 1) (-1) (-1) = n := by
  unfold Builtin.Slice.slicePlaces
  have h1 : ¬ ((-1 : Int) > 0) := by omega
  simp only [h1, if_false]
  by_cases h : (n : Int) - 1 > -1
  · simp only [h, if_true]
    rw [show (- -1 : Int) = 1 by decide, Int.ediv_one]
    omega
  · have e : n = 0 := by omega
    subst e
    simp
theorem applied_rev {sl : Addr} {vs : Value} {n : Nat} {Q : Int × Int × Nat → Shared → Prop} (hs : s.heap.IsSliceOf sl .none .none vs) (ps : IsPart vs (some (-1))) (h : Q ((n : Int) - 1, -1, n) s) : wpAny (model prog w) A (Builtin.Slice.sliceApplied (.ref sl) (pure (n : Int))) Q E s := by
  obtain ⟨os, hos, hcs, hds⟩ := id hs
  unfold Builtin.Slice.sliceApplied Builtin.Slice.sliceFields
  refine wpAny_bind (wpAny_bind (wpAny_field hos hds (x := .none) rfl (wpAny_bind (wpAny_field hos hds (x := .none) rfl (wpAny_bind (wpAny_field hos hds (x := vs) rfl (wpAny_pure ?_)))))))
  refine wpAny_bind (HT.slicePart_ ps ?_)
  show wpAny _ _ (if ((-1 : Int) == 0) = true then _ else _) _ _ s
  rw [if_neg (by decide)]
  refine wpAny_bind (HT.slicePart_ .none (wpAny_bind (HT.slicePart_ .none (wpAny_bind (wpAny_pure ?_)))))
  show wpAny _ _ (match Builtin.Slice.sliceAdjust none none (-1) (n : Int) with | (lo, hi) => pure (lo, (-1 : Int), Builtin.Slice.slicePlaces lo hi (-1))) _ _ s
  rw [adjust_rev n]
  show wpAny _ _ (pure ((n : Int) - 1, (-1 : Int), Builtin.Slice.slicePlaces ((n : Int) - 1) (-1) (-1))) _ _ s
  rw [places_rev]
  exact wpAny_pure h
theorem fm_congr {α β : Type} {f g : α → Option β} : ∀ {l : List α}, (∀ x ∈ l, f x = g x) → l.filterMap f = l.filterMap g
  | [], _ => rfl
  | a :: r, h => by rw [List.filterMap_cons, List.filterMap_cons, h a List.mem_cons_self, fm_congr fun x hx => h x (List.mem_cons_of_mem _ hx)]
theorem pick_rev (xs : Array Value) : ((List.range xs.size).filterMap fun (m : Nat) => xs[(((xs.size : Int) - 1) + (m : Int) * (-1)).toNat]?).toArray = xs.toList.reverse.toArray := by
  have e : (List.range xs.size).filterMap (fun (m : Nat) => xs[(((xs.size : Int) - 1) + (m : Int) * (-1)).toNat]?) = ((List.range xs.size).map fun k => xs.size - 1 - k).filterMap (xs[·]?) := by
    rw [List.filterMap_map]
    apply fm_congr
    intro m hm
    have := List.mem_range.mp hm
    have e : (((xs.size : Int) - 1) + (m : Int) * (-1)).toNat = xs.size - 1 - m := by omega
    rw [e]
    rfl
  rw [e, PySem.W.krv_range, List.filterMap_reverse, PySem.W.krv_all]
theorem getItem_rev {t sl : Addr} {items : Array Value} {vs : Value} {Q : Value → Shared → Prop} (ht : IsTup s.heap t items) (hs : s.heap.IsSliceOf sl .none .none vs) (ps : IsPart vs (some (-1)))
    (h : Q (.ref s.heap.objs.size) { s with heap := s.heap.push { cls := .type "tuple", data := .seq items.toList.reverse.toArray } })
    (hsz : items.size ≤ sizeLine) : wpAny (model prog w) A (getItem (.ref t) (.ref sl)) Q E s := by
  have htake : sizeOk (.seq items.toList.reverse.toArray) := by
    show items.toList.reverse.toArray.size ≤ sizeLine
    rw [List.size_toArray, List.length_reverse, Array.length_toList]
    omega
  obtain ⟨os, hos, hcs, hds⟩ := id hs
  have hTs : s.TypeIs (.ref sl) "slice" := ⟨os, hos, hcs⟩
  unfold getItem
  try with_reducible refine wpAny_holding ?_
  first | refine wpAny_bind (wpAny_pure ?_) | skip
  refine wpAny_bind (wpAny_sequenceKey ht.typeIs (by decide) ?_)
  refine wpAny_bind (wpAny_callSpecial?_slot (name := Str.ofString "__getitem__") ht.typeIs PyProof.Rows.slot_tuple_getitem
    (wpAny_call_entry PyProof.Rows.slot_tuple_getitem ht.typeIs entry_tuple_getitem ?_ (args_tuple_getitem _ _)))
  show wpAny _ _ (Builtin.Tuple.tupleItemsOf (.ref t) >>= _) _ _ s
  refine wpAny_bind (tupleItemsOf_ ht ?_)
  refine wpAny_bind (wpAny_typeOf hTs ?_)
  rw [if_pos (by decide)]
  refine wpAny_bind (applied_rev hs ps ?_)
  have hno : ¬ ((((items.size : Int) - 1) == 0 && (-1 : Int) == 1 && items.size == items.size) = true) := by simp
  show wpAny _ _ (if (((items.size : Int) - 1) == 0 && (-1 : Int) == 1 && items.size == items.size) = true then _ else _) _ _ s
  rw [if_neg hno, pick_rev]
  first
    | exact wpAny_bind (m := Builtin.Tuple.tupleExact _) (wpAny_newObj_type (wpAny_pure ⟨_, rfl, wpAny_pure h⟩) htake)
    | exact wpAny_bind (m := Builtin.Tuple.tupleExact _) (wpAny_newObj_type (wpAny_bind (wpAny_pure (wpAny_pure ⟨_, rfl, wpAny_pure h⟩))) htake)
    | exact wpAny_bind (wpAny_bind (m := Builtin.Tuple.tupleExact _) (wpAny_newObj_type (wpAny_pure (wpAny_pure ⟨_, rfl, wpAny_pure h⟩)) htake))
    | exact wpAny_bind (wpAny_bind (m := Builtin.Tuple.tupleExact _) (wpAny_newObj_type (wpAny_pure ⟨_, rfl, wpAny_pure h⟩) htake))
end
section
variable {X : Cx}
def tRevT (K : PySem.W.Frag) (te : TE) : TE := fun σ H Q => te σ H fun x H1 => ∃ a xs, x = .ref a ∧ SqT K H1 a xs ∧ ∀ p, H1 p = none → Q (.ref p) (upd H1 p (.tup xs.reverse))
theorem pe_revT {e : PySem.Expr} {te : TE} {k : Nat} {p1 p2 p3 pos : Pos} (he : PE X e te) : PE X (.Subscript e (.Slice none none (some (.UnaryOp .USub (.Constant (.int 1) k p1) p2)) p3) pos) (tRevT X.K te) := by
  refine ⟨fun pins s σ H Q I h => ?_⟩
  refine Subscript_ (thn (he.run pins s σ H _ I h) fun v s1 ⟨x, H1, I1, r1, q1⟩ => ?_)
  obtain ⟨a, xs, ex, hx, q⟩ := q1
  subst ex
  cases r1
  have hst : PO X (some (.UnaryOp .USub (.Constant (.int 1) k p1) p2)) (tPart (tUn (rU fun i => .int (-i)) (tC (.int 1)))) := po_some (pe_un un_neg pe_int)
  refine wpAny_Slice (thn (po_none.run pins s1 σ H1 (fun o H2 => o = none ∧ H2 = H1) I1 ⟨rfl, rfl⟩) fun vl s2 ⟨l, H2, I2, pl, el, e2⟩ => ?_)
  subst el e2
  refine thn (po_none.run pins s2 σ H2 (fun o H3 => o = none ∧ H3 = H2) I2 ⟨rfl, rfl⟩) fun vu s3 ⟨u, H3, I3, pu, eu, e3⟩ => ?_
  subst eu e3
  refine thn (hst.run pins s3 σ H3 (fun o H4 => o = some (-1) ∧ H4 = H3) I3 ⟨1, rfl, -1, rfl, rfl, rfl⟩) fun vs s4 ⟨o, H4, I4, ps, eo, e4⟩ => ?_
  subst eo e4
  cases pl
  cases pu
  have I5 : Inv X pins σ H4 { s4 with heap := s4.heap.push { cls := .type "slice", data := .fields #[.none, .none, vs] } } := I4.kept (t' := s4.toks) fun b ob q => Heap.get?_push_of_some _ q
  obtain ⟨its, r, ht, hz⟩ := I5.tuple hx
  have hlen := r.length
  show wpAny (model X.prog X.w) X.A (subscriptTail e (.Slice none none (some (.UnaryOp .USub (.Constant (.int 1) k p1) p2)) p3) (.ref a) (.ref s4.heap.objs.size)) (EP X pins σ Q) X.xe { s4 with heap := s4.heap.push { cls := .type "slice", data := .fields #[.none, .none, vs] } }
  refine tail_any (ops := [.ref a, .ref s4.heap.objs.size]) ht.typeIs (PyProof.Rows.slot_tuple_getitem.lookup) ?_ (by with_unfolding_all rfl)
  refine getItem_rev ht (Heap.IsSliceOf.new _ .none .none vs) ps ?_ (by rw [List.size_toArray]; omega)
  refine ⟨.ref _, _, I5.laid (t' := s4.toks) (o := .tup xs.reverse) (fun b ob q => Heap.get?_push_of_some _ q) (Nat.le_refl _) ?_, rfl, q _ (I5.hok.fresh (Nat.le_refl _))⟩
  exact ⟨by rw [List.length_reverse]; exact hz, _, r.reverse, IsTup.new _ _⟩
end
end U
set_option maxRecDepth 100000
set_option maxHeartbeats 4000000
namespace U
open PySem PySem.Spec PyProof.Rows
open L2 hiding Fun CX0 E0 pass0 Fun.binds
open C8 Lx SX StX
section
variable {X : Cx}
def tRevF (K : PySem.W.Frag) (te : TE) : TE := fun σ H Q => te σ H fun x H1 => ∃ a xs, x = .ref a ∧ SqT K H1 a xs ∧ ∀ (p : Addr) (o : Obj), H1 p = none → o.dict = none → Q (.ref p) (upd H1 p (.frz o (.tup xs.reverse)))
theorem pe_revT0F {e : PySem.Expr} {te : TE} {k1 k2 : Nat} {p1 p2 p3 p4 pos : Pos} (he : PE X e te) : PE X (.Subscript e (.Slice none none (some (.BinOp (.Constant (.int 0) k1 p1) .Sub (.Constant (.int 1) k2 p2) p3)) p4) pos) (tRevF X.K te) := by
  refine ⟨fun pins s σ H Q I h => ?_⟩
  refine Subscript_ (thn (he.run pins s σ H _ I h) fun v s1 ⟨x, H1, I1, r1, q1⟩ => ?_)
  obtain ⟨a, xs, ex, hx, q⟩ := q1
  subst ex
  cases r1
  have hst := po_some (X := X) (pe_op op_sub (pe_int (i := 0) (j := k1) (pos := p1)) (pe_int (i := 1) (j := k2) (pos := p2)) (pos := p3))
  refine wpAny_Slice (thn (po_none.run pins s1 σ H1 (fun o H2 => o = none ∧ H2 = H1) I1 ⟨rfl, rfl⟩) fun vl s2 ⟨l, H2, I2, pl, el, e2⟩ => ?_)
  subst el e2
  refine thn (po_none.run pins s2 σ H2 (fun o H3 => o = none ∧ H3 = H2) I2 ⟨rfl, rfl⟩) fun vu s3 ⟨u, H3, I3, pu, eu, e3⟩ => ?_
  subst eu e3
  refine thn (hst.run pins s3 σ H3 (fun o H4 => o = some (-1) ∧ H4 = H3) I3 ⟨_, _, rfl, rfl, _, rfl, rfl, rfl⟩) fun vs s4 ⟨o, H4, I4, ps, eo, e4⟩ => ?_
  subst eo e4
  cases pl
  cases pu
  have I5 : Inv X pins σ H4 { s4 with heap := s4.heap.push { cls := .type "slice", data := .fields #[.none, .none, vs] } } := I4.kept (t' := s4.toks) fun b ob q => Heap.get?_push_of_some _ q
  obtain ⟨its, r, ht, hz⟩ := I5.tuple hx
  have hlen := r.length
  show wpAny (model X.prog X.w) X.A (subscriptTail e (.Slice none none (some (.BinOp (.Constant (.int 0) k1 p1) .Sub (.Constant (.int 1) k2 p2) p3)) p4) (.ref a) (.ref s4.heap.objs.size)) (EP X pins σ Q) X.xe { s4 with heap := s4.heap.push { cls := .type "slice", data := .fields #[.none, .none, vs] } }
  refine tail_any (ops := [.ref a, .ref s4.heap.objs.size]) ht.typeIs (PyProof.Rows.slot_tuple_getitem.lookup) ?_ (by with_unfolding_all rfl)
  refine getItem_rev ht (Heap.IsSliceOf.new _ .none .none vs) ps ?_ (by rw [List.size_toArray]; omega)
  have hg : ∀ h' : Heap, (h'.push { cls := .type "tuple", data := .seq its.reverse.toArray }).get? h'.objs.size = some { cls := .type "tuple", data := .seq its.reverse.toArray } := fun h' => Heap.get?_push_size _ rfl
  refine ⟨.ref _, _, I5.laid (t' := s4.toks) (o := .frz { cls := .type "tuple", data := .seq its.reverse.toArray } (.tup xs.reverse)) (fun b ob q => Heap.get?_push_of_some _ q) (Nat.le_refl _) ?_, rfl, q _ _ (I5.hok.fresh (Nat.le_refl _)) rfl⟩
  exact ⟨hg _, by rw [List.length_reverse]; exact hz, _, r.reverse, ⟨_, hg _, rfl, _, rfl⟩⟩
end
end U
set_option maxRecDepth 100000
set_option maxHeartbeats 4000000
namespace U
open PySem PySem.Spec PyProof.Rows
open L2 hiding Fun CX0 E0 pass0 Fun.binds
open C8 Lx SX StX
section
variable {X : Cx}
def rSlF (K : PySem.W.Frag) : V → Option Int → Option Int → Hp → VK → Prop := fun x lo hi H Q => ∃ a xs, x = .ref a ∧ SqT K H a xs ∧
  (HT.sIx xs.length 0 lo = 0 ∧ HT.sIx xs.length xs.length hi = xs.length → Q (.ref a) H) ∧ (¬ (HT.sIx xs.length 0 lo = 0 ∧ HT.sIx xs.length xs.length hi = xs.length) → ∀ (p : Addr) (o : Obj), H p = none → o.dict = none → Q (.ref p) (upd H p (.frz o (.tup (cutV xs lo hi)))))
theorem sl_tupF : SlR X (rSlF X.K) := by
  intro pins s σ H x v vl vu lo hi sl Q I rx hs pl pu h
  obtain ⟨a, xs, rfl, hx, q1, q2⟩ := h
  cases rx
  obtain ⟨its, r, ht, hz⟩ := I.tuple hx
  have hlen : its.toArray.size = xs.length := by rw [List.size_toArray]; exact r.length.symm
  refine ⟨"tuple", _, PyProof.Rows.slot_tuple_getitem.lookup, ht.typeIs, ?_⟩
  by_cases hw : HT.sIx xs.length 0 lo = 0 ∧ HT.sIx xs.length xs.length hi = xs.length
  · exact getItem_tuple_whole ht hs pl pu (by rw [hlen]; exact hw) ⟨.ref a, H, I, rfl, q1 hw⟩
  · refine HT.getItem_tuple_cut ht hs pl pu (by rw [hlen]; exact hw) ?_ (by rw [hlen]; exact hz)
    rw [hlen]
    have r2 := (r.drop (HT.sIx xs.length 0 lo)).take (HT.sIx xs.length xs.length hi - HT.sIx xs.length 0 lo)
    have hz2 := Nat.le_trans (cutV_length xs lo hi) hz
    have hg : ∀ (h' : Heap) (vs : List Value), (h'.push { cls := .type "tuple", data := .seq vs.toArray }).get? h'.objs.size = some { cls := .type "tuple", data := .seq vs.toArray } := fun h' vs => Heap.get?_push_size _ rfl
    refine ⟨.ref s.heap.objs.size, _, I.laid (t' := s.toks) (o := .frz { cls := .type "tuple", data := .seq ((its.drop (HT.sIx xs.length 0 lo)).take (HT.sIx xs.length xs.length hi - HT.sIx xs.length 0 lo)).toArray } (.tup (cutV xs lo hi))) (fun b ob q => Heap.get?_push_of_some _ q) (Nat.le_refl _) ?_, rfl, q2 hw _ _ (I.hok.fresh (Nat.le_refl _)) rfl⟩
    exact ⟨hg _ _, hz2, _, r2, ⟨_, hg _ _, rfl, _, rfl⟩⟩
def rCatFA (K : PySem.W.Frag) : R2 := fun x y H Q => ∃ a b xs ys, x = .ref a ∧ y = .ref b ∧ SqT K H a xs ∧ SqT K H b ys ∧ xs.length + ys.length ≤ sizeLine ∧
  (xs = [] → Q (.ref b) H) ∧ (xs ≠ [] → ys = [] → Q (.ref a) H) ∧ (xs ≠ [] → ys ≠ [] → ∀ (p : Addr) (o : Obj), H p = none → o.dict = none → Q (.ref p) (upd H p (.frz o (.tup (xs ++ ys)))))
theorem op_catFA : OpR X (binaryOp .Add) (rCatFA X.K) := by
  intro pins s σ H x y v u Q I rx ry h
  obtain ⟨a, b, xs, ys, rfl, rfl, ha, hb, hz, q0, q1, q2⟩ := h
  by_cases hy : ys = []
  · subst hy
    refine op_catA pins s σ H _ _ v u Q I rx ry ⟨a, b, xs, [], rfl, rfl, ha, hb, hz, q0, fun h _ => q1 h rfl, fun _ h => absurd rfl h⟩
  · exact op_catF pins s σ H _ _ v u Q I rx ry ⟨a, b, xs, ys, rfl, rfl, ha, hb, hy, hz, q0, fun h => q2 h hy⟩
end
end U
set_option maxRecDepth 100000
set_option maxHeartbeats 4000000
namespace U
open PySem PySem.Spec PyProof.Rows
open L2 hiding Fun CX0 E0 pass0 Fun.binds
open C8 Lx SX
def bt (b : Bool) : Nat := if b then 49 else 48
def W (l : List Bool) : Str := S (l.map bt)
theorem bt_inj : ∀ {a b : Bool}, bt a = bt b → a = b := by decide
theorem map_bt_inj : ∀ {a b : List Bool}, a.map bt = b.map bt → a = b
  | [], [], _ => rfl
  | [], _ :: _, h => by simp at h
  | _ :: _, [], h => by simp at h
  | x :: l, y :: m, h => by
    rw [List.map_cons, List.map_cons] at h
    injection h with h1 h2
    rw [bt_inj h1, map_bt_inj h2]
theorem W_inj {a b : List Bool} (h : W a = W b) : a = b := map_bt_inj (S_inj h)
theorem W_eq {a b : List Bool} : (W a = W b) ↔ a = b := ⟨W_inj, fun h => by rw [h]⟩
theorem W_len (a : List Bool) : (W a).length = a.length := by unfold W; rw [S_len, List.length_map]
theorem W_size (a : List Bool) : (W a).cps.size = a.length := by unfold W; simp
theorem W_cat (a b : List Bool) : W a ++ W b = W (a ++ b) := by unfold W; rw [S_cat, List.map_append]
theorem W_nil : ("" : Str) = W [] := by decide +kernel
theorem W_0 : ("0" : Str) = W [false] := by decide +kernel
theorem W_1 : ("1" : Str) = W [true] := by decide +kernel
theorem W_get {a : List Bool} {i : Nat} {c : Nat} (h : (W a).cps[i]? = some c) : ∃ b, a[i]? = some b ∧ c = bt b := by
  unfold W S at h
  rw [List.getElem?_toArray, List.getElem?_map] at h
  cases e : a[i]? with
  | none => rw [e] at h; cases h
  | some b => rw [e] at h; exact ⟨b, rfl, (Option.some.inj h).symm⟩
theorem W_bit (b : Bool) : (⟨#[bt b]⟩ : Str) = W [b] := rfl
theorem W_tl (a : List Bool) : (W a).cps.toList = a.map bt := rfl
theorem joinL_nil : ∀ ys : List (List Nat), TL.joinL [] ys = ys.flatten
  | [] => rfl
  | [p] => by simp [TL.joinL]
  | p :: q :: r => by
    show p ++ ([] ++ TL.joinL [] (q :: r)) = _
    rw [List.nil_append, joinL_nil (q :: r)]
    rfl
theorem join_W (ls : List (List Bool)) : Txt.join "" (ls.map W) = W ls.flatten := by
  have e : (ls.map W) = (ls.map (·.map bt)).map S := by rw [List.map_map]; rfl
  have e2 : ("" : Str) = S [] := by decide +kernel
  rw [e, e2, join_S, joinL_nil]
  unfold W
  rw [List.map_flatten]
theorem join_bits (l : List Bool) : Txt.join "" (l.map fun b => W [b]) = W l := by
  have e : (l.map fun b => W [b]) = (l.map fun b => [b]).map W := by rw [List.map_map]; rfl
  rw [e, join_W]
  congr 1
  induction l with
  | nil => rfl
  | cons b r ih => simp [ih]
theorem sum_lens : ∀ ls : List (List Bool), ((ls.map W).map (·.length)).sum = (ls.map (·.length)).sum
  | [] => rfl
  | l :: r => by
    rw [List.map_cons, List.map_cons, List.map_cons, List.sum_cons, List.sum_cons, W_len, sum_lens r]
theorem sl_len {n : Nat} (h : n ≤ 100000) : n ≤ sizeLine := Nat.le_trans h (by decide)
theorem sl_lt {n : Nat} (h : n < 100000) : n < sizeLine := Nat.lt_of_lt_of_le h (by decide)
def bitsV (l : List Bool) : List V := (l.map fun b => W [b]).map V.str
theorem lens_bits (l : List Bool) : ((l.map fun b => W [b]).map (·.length)).sum = l.length := by
  induction l with
  | nil => rfl
  | cons b r ih => rw [List.map_cons, List.map_cons, List.sum_cons, ih, W_len, List.length_cons]; simp only [List.length_cons, List.length_nil]; omega
theorem bitsV_len (l : List Bool) : (bitsV l).length = l.length := by unfold bitsV; rw [List.length_map, List.length_map]
theorem bitsV_snoc (l : List Bool) (b : Bool) : bitsV l ++ [V.str (W [b])] = bitsV (l ++ [b]) := by unfold bitsV; simp
theorem mem2 {v : V} (h : v ∈ ([.str "0", .str "1"] : List V)) : ∃ b : Bool, v = .str (W [b]) := by
  rcases List.mem_cons.mp h with rfl | h
  · exact ⟨false, by rw [W_0]⟩
  · rcases List.mem_cons.mp h with rfl | h
    · exact ⟨true, by rw [W_1]⟩
    · cases h
theorem empty_len : ("" : Str).length = 0 := by decide +kernel
theorem q_dec {c : Prop} [Decidable c] {Q : VK} {H : Hp} (hc : c) (h : Q (.bl true) H) : Q (.bl (decide c)) H := by rw [decide_eq_true hc]; exact h
theorem q_ndec {c : Prop} [Decidable c] {Q : VK} {H : Hp} (hc : ¬ c) (h : Q (.bl false) H) : Q (.bl (decide c)) H := by rw [decide_eq_false hc]; exact h
theorem iteDT {c A B : Prop} [Decidable c] (hc : c) (h : A) : if decide c = true then A else B := by rw [decide_eq_true hc]; exact iteT h
theorem iteDF {c A B : Prop} [Decidable c] (hc : ¬ c) (h : B) : if decide c = true then A else B := by rw [decide_eq_false hc]; exact iteF h
theorem iteNT {c A B : Prop} [Decidable c] (hc : ¬ c) (h : A) : if (!decide c) = true then A else B := by rw [decide_eq_false hc]; exact iteT h
theorem iteBT {b : Bool} {A B : Prop} (hc : b = true) (h : A) : if b = true then A else B := by rw [hc]; exact iteT h
theorem iteBF {b : Bool} {A B : Prop} (hc : b = false) (h : B) : if b = true then A else B := by rw [hc]; exact iteF h
def oW : Option (List Bool) → V
  | none => .non
  | some x => .str (W x)
theorem W_drop {a : List Bool} {i : Int} (h : 0 ≤ i) : Txt.slice (W a) (some i) none = W (a.drop i.toNat) := by
  unfold W; rw [slice_from h, List.map_drop]
theorem W_take {a : List Bool} {i : Int} (h : 0 ≤ i) : Txt.slice (W a) none (some i) = W (a.take i.toNat) := by
  unfold W; rw [slice_to h, List.map_take]
theorem repl_succ (l : List Bool) (n : Nat) : (List.replicate (n + 1) l).flatten = l ++ (List.replicate n l).flatten := by rw [List.replicate_succ]; rfl
theorem foldl_app : ∀ (n : Nat) (a b : Array Nat), ((List.replicate n a).foldl (· ++ ·) b).toList = b.toList ++ (List.replicate n a.toList).flatten
  | 0, a, b => by simp
  | n + 1, a, b => by
    rw [List.replicate_succ, List.foldl_cons, foldl_app n a (b ++ a), List.replicate_succ, List.flatten_cons, Array.toList_append, List.append_assoc]
theorem mul_W {l : List Bool} {n : Nat} (h : 1 ≤ n) : Txt.mul (W l) (n : Int) = W (List.replicate n l).flatten := by
  refine TL.ext_tl ?_
  unfold Txt.mul
  rw [if_neg (by omega)]
  by_cases c : (((n : Int) == 1) || (W l).length == 0) = true
  · rw [if_pos c]
    simp only [Bool.or_eq_true, beq_iff_eq] at c
    rcases c with c | c
    · have : n = 1 := by omega
      subst this
      simp
    · rw [W_len] at c
      have : l = [] := List.length_eq_zero_iff.mp c
      subst this
      rw [show (List.replicate n ([] : List Bool)).flatten = [] by simp]
  · rw [if_neg c]
    show ((List.replicate (n : Int).toNat (W l).cps).foldl (· ++ ·) #[]).toList = _
    rw [foldl_app, Int.toNat_natCast]
    show [] ++ (List.replicate n (l.map bt)).flatten = ((List.replicate n l).flatten).map bt
    rw [List.map_flatten, List.map_replicate, List.nil_append]
end U
set_option maxRecDepth 100000
set_option maxHeartbeats 4000000
namespace U
abbrev Stf := List Bool × Bool
def putM (ss : List Stf) (l : List Bool) : Option Bool := (ss.find? fun s => s.1.isSuffixOf l).map (·.2)
inductive Ins (ss : List Stf) : List Bool → List Bool → Prop
  | stop {l : List Bool} : putM ss l = none → Ins ss l []
  | more {l x : List Bool} {b : Bool} : putM ss l = some b → Ins ss (l ++ [b]) x → Ins ss l (b :: x)
inductive Reach (ss : List Stf) : List Bool → Prop
  | nil : Reach ss []
  | next {l x : List Bool} {b : Bool} : Reach ss l → Ins ss (l ++ [b]) x → Reach ss (l ++ [b] ++ x)
def OkR (ss : List Stf) : Prop := ∀ l, Reach ss l → ∀ b, ∃ x, Ins ss (l ++ [b]) x
def OkN (n : Nat) (ss : List Stf) : Prop := ∀ l, Reach ss l → ∀ b, ∃ x, Ins ss (l ++ [b]) x ∧ x.length ≤ n
abbrev OkS (ss : List Stf) : Prop := OkN 19 ss
theorem OkN.ok {n : Nat} {ss : List Stf} (h : OkN n ss) : OkR ss := fun l r b => by
  obtain ⟨x, hx, _⟩ := h l r b
  exact ⟨x, hx⟩
theorem OkN.mono {n m : Nat} {ss : List Stf} (h : OkN n ss) (hn : n ≤ m) : OkN m ss := fun l r b => by
  obtain ⟨x, hx, h1⟩ := h l r b
  exact ⟨x, hx, Nat.le_trans h1 hn⟩
def tl (n : Nat) (l : List Bool) : List Bool := l.drop (l.length - n)
theorem tl_len (n : Nat) (l : List Bool) : (tl n l).length = min n l.length := by unfold tl; rw [List.length_drop]; omega
theorem tl_le (n : Nat) (l : List Bool) : (tl n l).length ≤ n := by rw [tl_len]; omega
theorem tl_id {n : Nat} {l : List Bool} (h : l.length ≤ n) : tl n l = l := by
  unfold tl
  rw [show l.length - n = 0 by omega, List.drop_zero]
theorem tl_tl {a b : Nat} (h : a ≤ b) (l : List Bool) : tl a (tl b l) = tl a l := by
  unfold tl
  rw [List.drop_drop, List.length_drop]
  congr 1
  omega
theorem tl_of {a b : Nat} (h : a ≤ b) {l m : List Bool} (e : tl b l = tl b m) : tl a l = tl a m := by rw [← tl_tl h l, e, tl_tl h m]
theorem tl_snoc0 (n : Nat) (l : List Bool) (b : Bool) : tl (n + 1) (l ++ [b]) = tl n l ++ [b] := by
  unfold tl
  rw [List.length_append, List.length_cons, List.length_nil, List.drop_append]
  have e : l.length + (0 + 1) - (n + 1) = l.length - n := by omega
  rw [e, show l.length - n - l.length = 0 by omega]
  rfl
theorem tl_zero (l : List Bool) : tl 0 l = [] := by unfold tl; rw [List.drop_eq_nil_iff]; omega
theorem tl_snoc {n : Nat} {l m : List Bool} {b : Bool} (e : tl n l = tl n m) : tl n (l ++ [b]) = tl n (m ++ [b]) := by
  cases n with
  | zero => rw [tl_zero, tl_zero]
  | succ n => rw [tl_snoc0, tl_snoc0, tl_of (Nat.le_succ n) e]
theorem tl_app {n : Nat} {l m : List Bool} (e : tl n l = tl n m) : ∀ x : List Bool, tl n (l ++ x) = tl n (m ++ x)
  | [] => by rw [List.append_nil, List.append_nil]; exact e
  | b :: x => by
    have := tl_app (tl_snoc (b := b) e) x
    rw [List.append_assoc, List.append_assoc] at this
    exact this
theorem suf_iff {p l : List Bool} : p.isSuffixOf l = true ↔ p = tl p.length l := by
  rw [List.isSuffixOf_iff_suffix, List.suffix_iff_eq_drop]
  rfl
theorem suf_tl {L : Nat} {p l m : List Bool} (h : p.length ≤ L) (e : tl L l = tl L m) : p.isSuffixOf l = p.isSuffixOf m := by
  rw [Bool.eq_iff_iff, suf_iff, suf_iff, tl_of h e]
theorem put_tl {L : Nat} {l m : List Bool} (e : tl L l = tl L m) : ∀ {ss : List Stf}, (∀ s ∈ ss, s.1.length ≤ L) → putM ss l = putM ss m
  | [], _ => rfl
  | s :: r, h => by
    have ih := put_tl e (ss := r) fun s hs => h s (List.mem_cons_of_mem _ hs)
    have es := suf_tl (h s List.mem_cons_self) e
    unfold putM at ih ⊢
    rw [List.find?_cons, List.find?_cons, es]
    cases s.1.isSuffixOf m with
    | true => rfl
    | false => exact ih
theorem Ins.tl {ss : List Stf} {L : Nat} (hL : ∀ s ∈ ss, s.1.length ≤ L) {l x : List Bool} (h : Ins ss l x) : ∀ {m}, tl L l = tl L m → Ins ss m x := by
  induction h with
  | stop h => intro m e; exact .stop (by rw [← put_tl e hL]; exact h)
  | more h _ ih => intro m e; exact .more (by rw [← put_tl e hL]; exact h) (ih (tl_snoc e))
theorem Ins.det {ss : List Stf} {l x : List Bool} (h : Ins ss l x) : ∀ {y}, Ins ss l y → x = y := by
  induction h with
  | stop h =>
    intro y hy
    cases hy with
    | stop _ => rfl
    | more h2 _ => rw [h] at h2; cases h2
  | more h _ ih =>
    intro y hy
    cases hy with
    | stop h2 => rw [h] at h2; cases h2
    | more h2 hx =>
      rw [h] at h2
      cases h2
      rw [ih hx]
theorem Ins.end {ss : List Stf} {l x : List Bool} (h : Ins ss l x) : putM ss (l ++ x) = none := by
  induction h with
  | stop h => rw [List.append_nil]; exact h
  | more _ _ ih => rw [List.append_assoc] at ih; exact ih
theorem Ins.drop {ss : List Stf} {l x : List Bool} (h : Ins ss l x) : ∀ {i}, i ≤ x.length → Ins ss (l ++ x.take i) (x.drop i) := by
  induction h with
  | stop h => intro i hi; rw [List.take_nil, List.drop_nil, List.append_nil]; exact .stop h
  | more h hx ih =>
    intro i hi
    cases i with
    | zero => rw [List.take_zero, List.append_nil, List.drop_zero]; exact .more h hx
    | succ i =>
      have := ih (i := i) (by rw [List.length_cons] at hi; omega)
      rw [List.append_assoc] at this
      exact this
theorem Ins.at {ss : List Stf} {l x : List Bool} (h : Ins ss l x) {i : Nat} {b : Bool} (hb : x[i]? = some b) : putM ss (l ++ x.take i) = some b := by
  have hi := (List.getElem?_eq_some_iff.mp hb).1
  have h2 := h.drop (Nat.le_of_lt hi)
  rw [List.drop_eq_getElem_cons hi] at h2
  cases h2 with
  | more h3 _ => rw [h3, ← hb, List.getElem?_eq_getElem hi]
theorem Ins.apart {ss : List Stf} {L : Nat} (hL : ∀ s ∈ ss, s.1.length ≤ L) {l x : List Bool} (h : Ins ss l x) {i j : Nat} (hi : i ≤ x.length) (hj : j ≤ x.length) (e : U.tl L (l ++ x.take i) = U.tl L (l ++ x.take j)) : i = j := by
  have := congrArg List.length (((h.drop hi).tl hL e).det (h.drop hj))
  rw [List.length_drop, List.length_drop] at this
  omega
def allW : Nat → List (List Bool)
  | 0 => [[]]
  | n + 1 => [] :: ((allW n).map (false :: ·) ++ (allW n).map (true :: ·))
theorem allW_len : ∀ n, (allW n).length + 1 = 2 ^ (n + 1)
  | 0 => rfl
  | n + 1 => by
    have := allW_len n
    show ([] :: ((allW n).map (false :: ·) ++ (allW n).map (true :: ·))).length + 1 = _
    rw [List.length_cons, List.length_append, List.length_map, List.length_map, Nat.pow_succ]
    omega
theorem mem_allW : ∀ {n : Nat} {w : List Bool}, w.length ≤ n → w ∈ allW n
  | 0, [], _ => List.mem_cons_self
  | 0, _ :: _, h => by rw [List.length_cons] at h; omega
  | n + 1, [], _ => List.mem_cons_self
  | n + 1, b :: w, h => by
    have := mem_allW (n := n) (w := w) (by rw [List.length_cons] at h; omega)
    refine List.mem_cons_of_mem _ (List.mem_append.mpr ?_)
    cases b with
    | false => exact .inl (List.mem_map_of_mem this)
    | true => exact .inr (List.mem_map_of_mem this)
theorem nodup_le {α : Type} [DecidableEq α] : ∀ {l m : List α}, l.Nodup → (∀ x ∈ l, x ∈ m) → l.length ≤ m.length
  | [], _, _, _ => Nat.zero_le _
  | x :: r, m, hn, hs => by
    have hx := hs x List.mem_cons_self
    have hn' := List.nodup_cons.mp hn
    have h2 := nodup_le (l := r) (m := m.erase x) hn'.2 fun y hy => by
      have hne : y ≠ x := fun e => hn'.1 (e ▸ hy)
      exact (List.mem_erase_of_ne hne).mpr (hs y (List.mem_cons_of_mem _ hy))
    rw [List.length_erase_of_mem hx] at h2
    have := List.length_pos_of_mem hx
    rw [List.length_cons]
    omega
theorem words_le {ws : List (List Bool)} {n : Nat} (hn : ws.Nodup) (hl : ∀ w ∈ ws, w.length ≤ n) : ws.length + 1 ≤ 2 ^ (n + 1) := by
  have := nodup_le hn fun w hw => mem_allW (hl w hw)
  have := allW_len n
  omega
theorem Ins.len {ss : List Stf} {L : Nat} (hL : ∀ s ∈ ss, s.1.length ≤ L) {l x : List Bool} (h : Ins ss l x) : x.length + 1 ≤ 2 ^ (L + 1) := by
  have := words_le (ws := (List.range x.length).map fun i => U.tl L (l ++ x.take i)) (n := L) (by
    rw [List.nodup_iff_pairwise_ne, List.pairwise_map]
    refine List.Pairwise.imp_of_mem ?_ List.nodup_range
    intro a b ha hb hne e
    have ha' := List.mem_range.mp ha
    have hb' := List.mem_range.mp hb
    exact hne (h.apart hL (Nat.le_of_lt ha') (Nat.le_of_lt hb') e)) (fun w hw => by
      obtain ⟨i, _, rfl⟩ := List.mem_map.mp hw
      exact tl_le _ _)
  rw [List.length_map, List.length_range] at this
  exact this
def SufFree (ss : List Stf) : Prop := ss.Pairwise fun a b => ¬ a.1 <:+ b.1 ∧ ¬ b.1 <:+ a.1
theorem SufFree.ne {ss : List Stf} (h : SufFree ss) {a b : Stf} (ha : a ∈ ss) (hb : b ∈ ss) (n : a ≠ b) : ¬ a.1 <:+ b.1 := by
  unfold SufFree at h
  induction ss with
  | nil => cases ha
  | cons s r ih =>
    obtain ⟨h1, h2⟩ := List.pairwise_cons.mp h
    rcases List.mem_cons.mp ha with ea | ha'
    · rcases List.mem_cons.mp hb with eb | hb'
      · exact absurd (ea.trans eb.symm) n
      · rw [ea]; exact (h1 _ hb').1
    · rcases List.mem_cons.mp hb with eb | hb'
      · rw [eb]; exact (h1 _ ha').2
      · exact ih h2 ha' hb'
theorem put_iff {ss : List Stf} (h : SufFree ss) {l : List Bool} {b : Bool} : putM ss l = some b ↔ ∃ p, (p, b) ∈ ss ∧ p <:+ l := by
  unfold putM
  constructor
  · intro e
    obtain ⟨s, hs, rfl⟩ := Option.map_eq_some_iff.mp e
    exact ⟨s.1, List.mem_of_find?_eq_some hs, List.isSuffixOf_iff_suffix.mp (List.find?_some (p := fun s : Stf => s.1.isSuffixOf l) hs)⟩
  · rintro ⟨p, hm, hp⟩
    cases e : ss.find? fun s => s.1.isSuffixOf l with
    | none =>
      have := List.find?_eq_none.mp e _ hm
      exact absurd (List.isSuffixOf_iff_suffix.mpr hp) this
    | some s =>
      have hs := List.mem_of_find?_eq_some e
      have hq : s.1 <:+ l := List.isSuffixOf_iff_suffix.mp (List.find?_some (p := fun s : Stf => s.1.isSuffixOf l) e)
      by_cases n : s = (p, b)
      · rw [n]; rfl
      · rcases List.suffix_or_suffix_of_suffix hq hp with z | z
        · exact absurd z (h.ne hs hm n)
        · exact absurd z (h.ne hm hs (Ne.symm n))
theorem SufFree.perm {ss ts : List Stf} (h : SufFree ss) (p : ss.Perm ts) : SufFree ts := by
  unfold SufFree at h ⊢
  exact (List.Perm.pairwise_iff (fun ⟨a, b⟩ => ⟨b, a⟩) p).mp h
theorem put_perm {ss ts : List Stf} (h : SufFree ss) (p : ss.Perm ts) (l : List Bool) : putM ss l = putM ts l := by
  refine Option.ext fun b => ?_
  rw [put_iff h, put_iff (h.perm p)]
  constructor
  · rintro ⟨q, hm, hq⟩; exact ⟨q, p.mem_iff.mp hm, hq⟩
  · rintro ⟨q, hm, hq⟩; exact ⟨q, p.mem_iff.mpr hm, hq⟩
theorem Ins.congr {ss ts : List Stf} (h : ∀ l, putM ss l = putM ts l) {l x : List Bool} (i : Ins ss l x) : Ins ts l x := by
  induction i with
  | stop e => exact .stop (by rw [← h]; exact e)
  | more e _ ih => exact .more (by rw [← h]; exact e) ih
theorem Reach.congr {ss ts : List Stf} (h : ∀ l, putM ss l = putM ts l) {l : List Bool} (r : Reach ss l) : Reach ts l := by
  induction r with
  | nil => exact .nil
  | next _ i ih => exact .next ih (i.congr h)
theorem OkR.congr {ss ts : List Stf} (h : ∀ l, putM ss l = putM ts l) (o : OkR ss) : OkR ts := fun l r b => by
  obtain ⟨x, hx⟩ := o l (r.congr fun l => (h l).symm) b
  exact ⟨x, hx.congr h⟩
def stP (ss : List Stf) (l : List Bool) : List Bool := match putM ss l with
  | none => l
  | some b => l ++ [b]
def itP (ss : List Stf) : Nat → List Bool → List Bool
  | 0, l => l
  | n + 1, l => itP ss n (stP ss l)
theorem itP_succ (ss : List Stf) : ∀ (n : Nat) (l : List Bool), itP ss (n + 1) l = stP ss (itP ss n l)
  | 0, _ => rfl
  | n + 1, l => itP_succ ss n (stP ss l)
theorem itP_stop {ss : List Stf} {l : List Bool} (h : putM ss l = none) : ∀ n, itP ss n l = l
  | 0 => rfl
  | n + 1 => by
    show itP ss n (stP ss l) = l
    have e : stP ss l = l := by unfold stP; rw [h]
    rw [e, itP_stop h n]
theorem itP_add (ss : List Stf) : ∀ (i j : Nat) (l : List Bool), itP ss (i + j) l = itP ss j (itP ss i l)
  | 0, j, l => by rw [Nat.zero_add]; rfl
  | i + 1, j, l => by rw [show i + 1 + j = (i + j) + 1 by omega]; exact itP_add ss i j (stP ss l)
theorem itP_rest {ss : List Stf} {i n : Nat} {l : List Bool} (h : putM ss (itP ss i l) = none) (hi : i ≤ n) : itP ss n l = itP ss i l := by
  rw [show n = i + (n - i) by omega, itP_add, itP_stop h]
theorem itP_or (ss : List Stf) : ∀ (n : Nat) (l : List Bool), (itP ss n l).length = l.length + n ∨ ∃ x, Ins ss l x ∧ itP ss n l = l ++ x
  | 0, l => .inl rfl
  | n + 1, l => by
    cases e : putM ss l with
    | none => exact .inr ⟨[], .stop e, by rw [itP_stop e, List.append_nil]⟩
    | some b =>
      have es : stP ss l = l ++ [b] := by unfold stP; rw [e]
      show (itP ss n (stP ss l)).length = _ ∨ ∃ x, Ins ss l x ∧ itP ss n (stP ss l) = l ++ x
      rw [es]
      rcases itP_or ss n (l ++ [b]) with h | ⟨x, h1, h2⟩
      · left; rw [h, List.length_append, List.length_cons, List.length_nil]; omega
      · exact .inr ⟨b :: x, .more e h1, by rw [h2, List.append_assoc]; rfl⟩
theorem itP_le (ss : List Stf) : ∀ (n : Nat) (l : List Bool), l.length ≤ (itP ss n l).length ∧ (itP ss n l).length ≤ l.length + n
  | 0, l => ⟨Nat.le_refl _, Nat.le_refl _⟩
  | n + 1, l => by
    have h := itP_le ss n (stP ss l)
    have e : l.length ≤ (stP ss l).length ∧ (stP ss l).length ≤ l.length + 1 := by
      unfold stP
      cases putM ss l with
      | none => exact ⟨Nat.le_refl _, Nat.le_succ _⟩
      | some b => show l.length ≤ (l ++ [b]).length ∧ (l ++ [b]).length ≤ _; rw [List.length_append, List.length_cons, List.length_nil]; omega
    show l.length ≤ (itP ss n (stP ss l)).length ∧ (itP ss n (stP ss l)).length ≤ _
    omega
theorem okS_of {ss : List Stf} (kn : List (List Bool)) (hL : ∀ s ∈ ss, s.1.length ≤ 5) (h0 : [] ∈ kn) (hc : ∀ w ∈ kn, ∀ b, (itP ss 24 (w ++ [b])).length ≤ w.length + 20 ∧ tl 5 (itP ss 24 (w ++ [b])) ∈ kn) : OkS ss := by
  have hx : ∀ w ∈ kn, ∀ b, ∃ x, Ins ss (w ++ [b]) x ∧ tl 5 (w ++ [b] ++ x) ∈ kn ∧ x.length ≤ 19 := fun w hw b => by
    obtain ⟨h1, h2⟩ := hc w hw b
    rcases itP_or ss 24 (w ++ [b]) with h | ⟨x, hi, e⟩
    · rw [h, List.length_append, List.length_cons, List.length_nil] at h1; omega
    · rw [e] at h2 h1; exact ⟨x, hi, h2, by rw [List.length_append, List.length_append, List.length_cons, List.length_nil] at h1; omega⟩
  have hr : ∀ l, Reach ss l → ∃ w ∈ kn, tl 5 w = tl 5 l := fun l r => by
    induction r with
    | nil => exact ⟨[], h0, rfl⟩
    | @next l x b r i ih =>
      obtain ⟨w, hw, e⟩ := ih
      obtain ⟨y, hy, hm, _⟩ := hx w hw b
      have e2 := tl_snoc (b := b) e
      have ey := (hy.tl hL e2).det i
      subst ey
      exact ⟨_, hm, by rw [tl_tl (Nat.le_refl 5)]; exact tl_app e2 y⟩
  intro l r b
  obtain ⟨w, hw, e⟩ := hr l r
  obtain ⟨y, hy, _, h19⟩ := hx w hw b
  exact ⟨y, hy.tl hL (tl_snoc e), h19⟩
theorem okS_dec {ss : List Stf} (hL : (ss.all fun s => decide (s.1.length ≤ 5)) = true) (h : ((allW 5).all fun w => [false, true].all fun b => decide ((itP ss 24 (w ++ [b])).length ≤ w.length + 20)) = true) : OkS ss := by
  refine okS_of (allW 5) (fun s hs => of_decide_eq_true (List.all_eq_true.mp hL s hs)) (mem_allW (by decide)) fun w hw b => ⟨?_, mem_allW (tl_le _ _)⟩
  have := List.all_eq_true.mp (List.all_eq_true.mp h w hw) b (by cases b <;> decide)
  exact of_decide_eq_true this
theorem okS_11 : OkS [([true, true], false)] := okS_dec (by decide +kernel) (by decide +kernel)
theorem okS_001 : OkS [([false, false, true], true)] := okS_dec (by decide +kernel) (by decide +kernel)
theorem okS_1 : OkS [([true], false)] := okS_dec (by decide +kernel) (by decide +kernel)
theorem okS_00 : OkS [([false, false], true)] := okS_dec (by decide +kernel) (by decide +kernel)
theorem okS_nil : OkS [] := okS_dec (by decide +kernel) (by decide +kernel)
theorem okR_nil : OkR [] := okS_nil.ok
theorem OkN.congr {n : Nat} {ss ts : List Stf} (h : ∀ l, putM ss l = putM ts l) (o : OkN n ss) : OkN n ts := fun l r b => by
  obtain ⟨x, hx, hl⟩ := o l (r.congr fun l => (h l).symm) b
  exact ⟨x, hx.congr h, hl⟩
inductive Body (ss : List Stf) : List Bool → List Bool → Prop
  | nil : Body ss [] []
  | snoc {m l x : List Bool} {b : Bool} : Body ss m l → Ins ss (l ++ [b]) x → Body ss (m ++ [b]) (l ++ [b] ++ x)
theorem Body.reach {ss : List Stf} {m l : List Bool} (h : Body ss m l) : Reach ss l := by
  induction h with
  | nil => exact .nil
  | snoc _ i ih => exact .next ih i
theorem Body.congr {ss ts : List Stf} (h : ∀ l, putM ss l = putM ts l) {m l : List Bool} (b : Body ss m l) : Body ts m l := by
  induction b with
  | nil => exact .nil
  | snoc _ i ih => exact .snoc ih (i.congr h)
theorem body_steps {N : Nat} {ss : List Stf} (o : OkN N ss) (m : List Bool) : ∃ f : Nat → List Bool, f 0 = [] ∧ (∀ i b, m[i]? = some b → ∃ x, Ins ss (f i ++ [b]) x ∧ x.length ≤ N ∧ f (i + 1) = f i ++ [b] ++ x) ∧ (∀ i, i ≤ m.length → Body ss (m.take i) (f i) ∧ (f i).length ≤ (N + 1) * i) := by
  have step : ∀ (n : Nat) (hn : n ≤ m.length), ∃ f : Nat → List Bool, f 0 = [] ∧ (∀ i b, i < n → m[i]? = some b → ∃ x, Ins ss (f i ++ [b]) x ∧ x.length ≤ N ∧ f (i + 1) = f i ++ [b] ++ x) ∧ (∀ i, i ≤ n → Body ss (m.take i) (f i) ∧ (f i).length ≤ (N + 1) * i) := by
    intro n
    induction n with
    | zero => exact fun _ => ⟨fun _ => [], rfl, fun i b h => absurd h (Nat.not_lt_zero _), fun i h => by rw [Nat.le_zero.mp h, List.take_zero]; exact ⟨.nil, Nat.le_refl _⟩⟩
    | succ n ih =>
      intro hn
      obtain ⟨f, h0, h1, h2⟩ := ih (by omega)
      have hb : m[n]? = some m[n] := List.getElem?_eq_getElem (by omega)
      obtain ⟨hB, hl⟩ := h2 n (Nat.le_refl _)
      obtain ⟨x, hx, hx19⟩ := o (f n) hB.reach m[n]
      refine ⟨fun i => if i = n + 1 then f n ++ [m[n]] ++ x else f i, ?_, fun i b hi hb' => ?_, fun i hi => ?_⟩
      · show (if 0 = n + 1 then _ else f 0) = []
        rw [if_neg (by omega), h0]
      · show ∃ y, Ins ss ((if i = n + 1 then _ else f i) ++ [b]) y ∧ _ ∧ (if i + 1 = n + 1 then f n ++ [m[n]] ++ x else f (i + 1)) = (if i = n + 1 then f n ++ [m[n]] ++ x else f i) ++ [b] ++ y
        rw [if_neg (show ¬ i = n + 1 by omega)]
        by_cases e : i = n
        · subst e
          rw [hb] at hb'
          cases hb'
          rw [if_pos rfl]
          exact ⟨x, hx, hx19, rfl⟩
        · rw [if_neg (by omega)]
          exact h1 i b (by omega) hb'
      · show Body ss (m.take i) (if i = n + 1 then _ else f i) ∧ (if i = n + 1 then f n ++ [m[n]] ++ x else f i).length ≤ (N + 1) * i
        by_cases e : i = n + 1
        · subst e
          rw [if_pos rfl, List.take_add_one, hb]
          refine ⟨.snoc hB hx, ?_⟩
          rw [List.length_append, List.length_append, List.length_cons, List.length_nil, Nat.mul_add]
          omega
        · rw [if_neg e]
          exact h2 i (by omega)
  obtain ⟨f, h0, h1, h2⟩ := step m.length (Nat.le_refl _)
  exact ⟨f, h0, fun i b hb => h1 i b (List.getElem?_eq_some_iff.mp hb).1 hb, h2⟩
theorem Ins.itP {ss : List Stf} {l x : List Bool} (h : Ins ss l x) : ∀ n, itP ss n l = l ++ x.take n := by
  induction h with
  | stop h => intro n; rw [itP_stop h, List.take_nil, List.append_nil]
  | @more l x b h _ ih =>
    intro n
    cases n with
    | zero => rw [List.take_zero, List.append_nil]; rfl
    | succ n =>
      have es : stP ss l = l ++ [b] := by unfold stP; rw [h]
      show U.itP ss n (stP ss l) = _
      rw [es, ih n, List.append_assoc]
      rfl
theorem ins_of_itP {ss : List Stf} {l y : List Bool} {j : Nat} (h : itP ss j l = l ++ y) (hn : putM ss (l ++ y) = none) (hj : y.length = j) : Ins ss l y := by
  rcases itP_or ss (j + 1) l with c | ⟨x, hx, e⟩
  · rw [itP_succ, h] at c
    unfold stP at c
    rw [hn] at c
    have c' : (l ++ y).length = l.length + (j + 1) := c
    rw [List.length_append] at c'
    omega
  · rw [itP_succ, h] at e
    unfold stP at e
    rw [hn] at e
    have e' : l ++ y = l ++ x := e
    rw [List.append_cancel_left e']
    exact hx
def bodyF (ss : List Stf) (m : List Bool) : List Bool := m.foldl (fun l b => itP ss 40 (l ++ [b])) []
theorem Body.isF {ss : List Stf} (o : OkN 39 ss) {m l : List Bool} (h : Body ss m l) : l = bodyF ss m := by
  induction h with
  | nil => rfl
  | @snoc m l x b hb hi ih =>
    obtain ⟨y, hy, h39⟩ := o l hb.reach b
    have e := hi.det hy
    subst e
    unfold bodyF
    rw [List.foldl_append]
    show _ = itP ss 40 (bodyF ss m ++ [b])
    rw [← ih, hi.itP, List.take_of_length_le (by omega)]
theorem body_ex {ss : List Stf} (o : OkN 39 ss) (m : List Bool) : Body ss m (bodyF ss m) := by
  obtain ⟨f, _, _, h⟩ := body_steps o m
  have := (h m.length (Nat.le_refl _)).1
  rw [List.take_length] at this
  rw [← this.isF o]
  exact this
end U
set_option maxRecDepth 100000
set_option maxHeartbeats 4000000
namespace U
open PySem PySem.Spec PyProof.Rows L2
def top (i : Nat) : Stmt := PySem.Challenge.pw_unseenflips_k37_rate_papers_spoilt.main.body.getD i (.Pass ⟨0, 0, 0, 0⟩)
abbrev s_wall : Stmt := top 0
abbrev s_is_integer : Stmt := top 3
abbrev s_is_sequence : Stmt := top 4
abbrev s_is_word : Stmt := top 5
abbrev s_is_bit : Stmt := top 6
abbrev s_tail : Stmt := top 7
abbrev s_common : Stmt := top 8
abbrev s_lowest : Stmt := top 9
abbrev s_is_value : Stmt := top 10
abbrev s_move : Stmt := top 12
abbrev s_moves_of : Stmt := top 13
abbrev s_walks : Stmt := top 14
abbrev s_least_of : Stmt := top 15
abbrev s_rate : Stmt := top 16
abbrev s_is_at_most : Stmt := top 17
abbrev s_rate_paper : Stmt := top 18
abbrev s_is_entry : Stmt := top 19
abbrev s_is_kept : Stmt := top 20
abbrev s_rate_paper_holds : Stmt := top 21
abbrev s_InvalidRule_init : Stmt := inClass (top 24) 0
abbrev s_InvalidText_init : Stmt := inClass (top 25) 0
abbrev s_is_stuff : Stmt := top 27
abbrev s_are_stuffs : Stmt := top 28
abbrev s_stuff_in : Stmt := top 29
abbrev s_Rule_init : Stmt := inClass (top 30) 0
abbrev s_Rule_read : Stmt := inClass (top 30) 1
abbrev s_Rule_longest : Stmt := inClass (top 30) 2
abbrev s_Rule_swapped : Stmt := inClass (top 30) 3
abbrev s_Rule_put : Stmt := inClass (top 30) 4
abbrev s_Rule_put_in : Stmt := inClass (top 30) 5
abbrev s_Rule_is_endless : Stmt := inClass (top 30) 6
abbrev s_Rule_len : Stmt := inClass (top 30) 7
abbrev s_Rule_iter : Stmt := inClass (top 30) 8
abbrev s_Rule_eq : Stmt := inClass (top 30) 9
abbrev s_Rule_str : Stmt := inClass (top 30) 10
abbrev s_l_seed : Stmt := top 32
abbrev s_l_choose : Stmt := top 33
abbrev s_l_one_of : Stmt := top 34
abbrev s_l_word : Stmt := top 35
abbrev s_l_put : Stmt := top 36
abbrev s_l_is_rule : Stmt := top 37
abbrev s_l_rule : Stmt := top 38
abbrev s_l_made : Stmt := top 39
abbrev s_l_is_paper : Stmt := top 40
abbrev s_l_is_entry : Stmt := top 41
abbrev s_l_common : Stmt := top 42
abbrev s_l_bent : Stmt := top 43
abbrev s_law : Stmt := top 44
structure Tx (mg : Str → Option Value) : Prop where
  b_len : mg "len" = none
  b_abs : mg "abs" = none
  b_int : mg "int" = none
  b_range : mg "range" = none
  b_max : mg "max" = none
  b_min : mg "min" = none
  b_enumerate : mg "enumerate" = none
  b_zip : mg "zip" = none
  b_dict : mg "dict" = none
  b_list : mg "list" = none
  b_tuple : mg "tuple" = none
  b_isinstance : mg "isinstance" = none
  b_bool : mg "bool" = none
  b_str : mg "str" = none
  b_all : mg "all" = none
  b_any : mg "any" = none
  b_sum : mg "sum" = none
  b_sorted : mg "sorted" = none
  b_repr : mg "repr" = none
end U
set_option maxRecDepth 100000
set_option maxHeartbeats 4000000
namespace U
open PySem PySem.Spec PyProof.Rows
open L2 hiding Fun CX0 E0 pass0 Fun.binds
open C8 Lx
local macro_rules | `(tactic| walk_at "g") => `(tactic| repeat (first | (refine ⟨_, rfl, ?_⟩) | (refine ⟨_, _, rfl, rfl, ?_⟩) | (refine ⟨rfl, ?_⟩) | (refine .inl ⟨_, rfl, ?_⟩)))
def Box (H : Hp) (b : Addr) : Prop := ∃ x y : Int, H b = some (.lst [.int x, .int y])
def Up (b : Addr) (H H' : Hp) : Prop := (∀ c o, H c = some o → c ≠ b → H' c = some o) ∧ Box H' b
theorem Box.same {b : Addr} {H H' : Hp} (h : Box H b) (y : Same H H') : Box H' b := by obtain ⟨i, j, e⟩ := h; exact ⟨i, j, y _ _ e⟩
theorem Up.refl {b : Addr} {H : Hp} (h : Box H b) : Up b H H := ⟨fun _ _ e _ => e, h⟩
theorem Up.trans {b : Addr} {H H1 H2 : Hp} (x : Up b H H1) (y : Up b H1 H2) : Up b H H2 := ⟨fun c o e n => y.1 c o (x.1 c o e n) n, y.2⟩
theorem Up.same {b : Addr} {H H1 H2 : Hp} (x : Up b H H1) (y : Same H1 H2) : Up b H H2 := ⟨fun c o e n => y c o (x.1 c o e n), x.2.same y⟩
theorem Up.of_same {b : Addr} {H H2 : Hp} (h : Box H b) (y : Same H H2) : Up b H H2 := (Up.refl h).same y
theorem same_upd {H : Hp} {p : Addr} {o : HO} (h : H p = none) : Same H (upd H p o) := fun b x e => by
  rw [upd_ne (ne_of_none e h)]
  exact e
theorem same_mut' {H H1 : Hp} {p : Addr} {o : HO} (s : Same H H1) (n : H p = none) : Same H (upd H1 p o) := fun c u e => by
  rw [upd_ne (ne_of_none e n)]
  exact s _ _ e
theorem Box.ne {H : Hp} {b p : Addr} (h : Box H b) (n : H p = none) : p ≠ b := by
  obtain ⟨i, j, e⟩ := h
  intro z
  rw [z, e] at n
  cases n
theorem Box.neT {H : Hp} {b p : Addr} {xs : List V} (h : Box H b) (n : H p = some (.tup xs)) : p ≠ b := by
  obtain ⟨i, j, e⟩ := h
  intro z
  rw [z, e] at n
  cases n
theorem Up.mut {b : Addr} {H H1 : Hp} {p : Addr} {o : HO} (x : Up b H H1) (h : H p = none) (n : p ≠ b) : Up b H (upd H1 p o) :=
  ⟨fun c u e nc => by rw [upd_ne (ne_of_none e h)]; exact x.1 c u e nc, by obtain ⟨i, j, e⟩ := x.2; exact ⟨i, j, by rw [upd_ne (Ne.symm n)]; exact e⟩⟩
theorem Up.free {b : Addr} {H H1 : Hp} {p : Addr} (x : Up b H H1) (h : H1 p = none) : H p = none := by
  cases e : H p with
  | none => rfl
  | some o =>
    by_cases n : p = b
    · obtain ⟨i, j, e2⟩ := x.2
      rw [n, e2] at h
      cases h
    · rw [x.1 p o e n] at h
      cases h
def NL (H H' : Hp) : Prop := ∀ c o, H c = some o → (∀ xs, o ≠ .lst xs) → H' c = some o
theorem NL.refl (H : Hp) : NL H H := fun _ _ e _ => e
theorem NL.trans {H H1 H2 : Hp} (a : NL H H1) (b : NL H1 H2) : NL H H2 := fun c o e n => b c o (a c o e n) n
theorem NL.of {H H' : Hp} (s : Same H H') : NL H H' := fun c o e _ => s c o e
theorem Up.nl {b : Addr} {H H' : Hp} (hb : Box H b) (u : Up b H H') : NL H H' := fun c o e n => u.1 c o e fun z => by
  obtain ⟨i, j, hb⟩ := hb
  rw [z, hb] at e
  exact n _ (Option.some.inj e).symm
theorem nl_upd {H : Hp} {q : Addr} {xs : List V} {o : HO} (h : H q = some (.lst xs)) : NL H (upd H q o) := fun c u e n => by
  have nq : c ≠ q := fun z => by
    rw [z, h] at e
    exact n _ (Option.some.inj e).symm
  rw [upd_ne nq]
  exact e
theorem NL.tup {H H' : Hp} {a : Addr} {xs : List V} (n : NL H H') (h : H a = some (.tup xs)) : H' a = some (.tup xs) := n _ _ h fun _ z => by cases z
theorem NL.ins {H H' : Hp} {a C dx : Addr} {fs : List (Str × V)} (n : NL H H') (h : H a = some (.ins C dx fs)) : H' a = some (.ins C dx fs) := n _ _ h fun _ z => by cases z
def spSeed (K : PySem.W.Frag) : Sp := fun vs H Q _ => ∃ (a : Addr) (ns : List Int) (k : Nat), vs = [.ref a, .int k] ∧ SqL K H a (ns.map V.int) ∧
  ∀ p H', H p = none → Same H H' → Box H' p → Q (.ref p) H'
def spChoose : Sp := fun vs H Q _ => ∃ (b : Addr) (m : Int), vs = [.ref b, .int m] ∧ Box H b ∧ 0 < m ∧ m < 1073741824 ∧
  ∀ (d : Int) H', 0 ≤ d → d < m → Up b H H' → Q (.int d) H'
def spOneOf : Sp := fun vs H Q _ => ∃ (b l : Addr) (xs : List V), vs = [.ref b, .ref l] ∧ Box H b ∧ H l = some (.lst xs) ∧ l ≠ b ∧ 0 < xs.length ∧ xs.length < 1000 ∧
  ∀ (v : V) H', v ∈ xs → Up b H H' → Q v H'
theorem cell_at {ns : List Int} {k : Int} (h0 : 0 ≤ k) (h1 : k < ns.length) : ∃ z, atI (ns.map V.int) k = some (V.int z) := by
  obtain ⟨j, rfl⟩ := Int.eq_ofNat_of_zero_le h0
  have h2 : j < ns.length := by omega
  exact ⟨ns[j], atI_nat (by simp [h2])⟩
section
variable {P : Program} {w : World} {K : PySem.W.Frag} {mg : Str → Option Value} {base : Heap}
theorem sc_l_choose : FnScope ["_law_box", "_law_many", "_law_digit", "_law_raw"] ["_law_box", "_law_many"] (fnScope s_l_choose) := fnScope_by (by decide +kernel)
theorem cal_l_choose {f : Addr} {fd : FuncData} (F : Def K mg "_law_choose" s_l_choose f fd) (b : Binds K fd ["_law_box", "_law_many"] []) (T : Tx mg) : Cal P w K mg base 1 "_law_choose" spChoose [] := by
  refine cal0 F b .nil sc_l_choose (fun vs H Q E h => ?_) (fun cdv A outer s H vs Q E hr h => ?_)
  · obtain ⟨_, _, rfl, _⟩ := h; rfl
  · obtain ⟨bx, m, rfl, ⟨x, y, hb⟩, m0, m1, k⟩ := h
    refine ⟨_, (pss_cons (ps_if (pt_cmpR op_gt (pe_ix ix_list (pv 0) pe_int (fun _ _ => rfl)) pe_int (nomark _)) (pss_cons (ps_set (i := 2) sc_l_choose.nd rfl (.inl rfl) (pe_op op_mod (pe_callTy call_int1 (by rfl) T.b_int (by decide +kernel) (pa_cons (pe_ix ix_list (pv 0) pe_int (fun _ _ => rfl)) pa_nil)) (pv 1)))
    (pss_cons (ps_asg (pe_op op_fdiv (pe_ix ix_list (pv 0) pe_int (fun _ _ => rfl)) (pv 1)) (pg_sub (pv 0) pe_int set_list))
    (pss_one (ps_ret (pv 2))))) pss_nil)
    (pss_cons (ps_set (i := 3) sc_l_choose.nd rfl (.inl rfl) (pe_op op_mod (pe_callTy call_int1 (by rfl) T.b_int (by decide +kernel) (pa_cons (pe_op op_add (pe_op op_mul (pe_ix ix_list (pv 0) pe_int (fun _ _ => rfl)) pe_int) pe_int) pa_nil)) pe_int))
    (pss_cons (ps_asg (pe_op op_add (pe_op op_mod (pe_callTy call_int1 (by rfl) T.b_int (by decide +kernel) (pa_cons (pe_op op_add (pe_op op_mul (pv 3) pe_int) pe_int) pa_nil)) pe_int) pe_int) (pg_sub (pv 0) pe_int set_list))
    (pss_one (ps_ret (pe_op op_mod (pe_callTy call_int1 (by rfl) T.b_int (by decide +kernel) (pa_cons (pe_op op_fdiv (pe_op op_add (pe_op op_mul (pv 3) pe_int) (pe_ix ix_list (pv 0) pe_int (fun _ _ => rfl))) pe_int) pa_nil)) (pv 1))))))), ?_⟩
    have up : ∀ x' y' : Int, Up bx H (upd H bx (.lst [.int x', .int y'])) := fun x' y' => ⟨fun c o e n => by rw [upd_ne n]; exact e, _, _, upd_same⟩
    refine ⟨_, rfl, bx, _, _, _, rfl, rfl, SqL.of hb, atI_nat (j := 0) rfl, _, _, rfl, rfl, _, rfl, ?_⟩
    refine ite2 (fun h1 => ?_) (fun h1 => ?_)
    · refine ⟨_, rfl, bx, _, _, _, rfl, rfl, SqL.of hb, atI_nat (j := 0) rfl, .inl ⟨_, rfl, _, rfl, _, _, rfl, rfl, m0, ?_⟩⟩
      refine ⟨_, rfl, bx, _, _, _, rfl, rfl, SqL.of hb, atI_nat (j := 0) rfl, _, rfl, _, _, rfl, rfl, ⟨m0, m1⟩, _, rfl, bx, _, _, 0, rfl, rfl, hb, rfl, ?_⟩
      exact ⟨_, rfl, k _ _ (Int.emod_nonneg _ (by omega)) (Int.emod_lt_of_pos _ m0) (up _ _)⟩
    · refine ⟨_, rfl, bx, _, _, _, rfl, rfl, SqL.of hb, atI_nat (j := 1) rfl, _, _, rfl, rfl, .inr ⟨by decide, by decide⟩, _, _, rfl, rfl, .inl ⟨_, rfl, _, _, rfl, rfl, (by show (0 : Int) < 2147483563; decide), ?_⟩⟩
      refine ⟨_, rfl, _, _, rfl, rfl, .inr ⟨by decide, by decide⟩, _, _, rfl, rfl, .inl ⟨_, rfl, _, _, rfl, rfl, (by show (0 : Int) < 2147483629; decide), _, _, rfl, rfl, _, rfl, bx, _, _, 1, rfl, rfl, hb, rfl, ?_⟩⟩
      refine ⟨_, rfl, _, _, rfl, rfl, .inr ⟨by decide, by decide⟩, _, rfl, bx, _, _, _, rfl, rfl, SqL.of upd_same, atI_nat (j := 1) rfl, _, _, rfl, rfl, _, _, rfl, rfl, ⟨by decide, by decide⟩, .inl ⟨_, rfl, _, rfl, _, _, rfl, rfl, m0, ?_⟩⟩
      exact k _ _ (Int.emod_nonneg _ (by omega)) (Int.emod_lt_of_pos _ m0) (up _ _)
theorem sc_l_seed : FnScope ["_law_script", "_law_k", "_law_cell"] ["_law_script", "_law_k"] (fnScope s_l_seed) := fnScope_by (by decide +kernel)
theorem cal_l_seed {f : Addr} {fd : FuncData} (F : Def K mg "_law_seed" s_l_seed f fd) (b : Binds K fd ["_law_script", "_law_k"] []) (T : Tx mg) : Cal P w K mg base 1 "_law_seed" (spSeed K) [] := by
  refine cal0 F b .nil sc_l_seed (fun vs H Q E h => ?_) (fun cdv A outer s H vs Q E hr h => ?_)
  · obtain ⟨_, _, _, rfl, _⟩ := h; rfl
  · obtain ⟨a, ns, n, rfl, hS, k⟩ := h
    refine ⟨_, (pss_cons (ps_set (i := 2) sc_l_seed.nd rfl (.inl rfl) (pe_op op_add (pe_op op_mul pe_int (pv 1)) pe_int))
    (pss_cons (ps_if (pt_cmpR op_lt (pv 1) (pe_callB call_len_seq (by rfl) T.b_len (by decide +kernel) (pa_cons (pv 0) pa_nil)) (nomark _)) (pss_one (ps_set (i := 2) sc_l_seed.nd rfl (.inl rfl) (pe_callB call_abs (by rfl) T.b_abs (by decide +kernel) (pa_cons (pe_ix ix_list (pv 0) (pv 1) (fun _ _ => rfl)) pa_nil)))) (pss_one (ps_if (pt_cmpR op_gt (pe_callB call_len_seq (by rfl) T.b_len (by decide +kernel) (pa_cons (pv 0) pa_nil)) pe_int (nomark _)) (pss_one (ps_set (i := 2) sc_l_seed.nd rfl (.inl rfl) (pe_op op_add (pv 2) (pe_op op_mul (pe_op op_mod (pe_callTy call_int1 (by rfl) T.b_int (by decide +kernel) (pa_cons (pe_callB call_abs (by rfl) T.b_abs (by decide +kernel) (pa_cons (pe_ix ix_list (pv 0) (pe_op op_mod (pe_callTy call_int1 (by rfl) T.b_int (by decide +kernel) (pa_cons (pv 1) pa_nil)) (pe_callB call_len_seq (by rfl) T.b_len (by decide +kernel) (pa_cons (pv 0) pa_nil))) (fun _ _ => rfl)) pa_nil)) pa_nil)) pe_int) pe_int)))) pss_nil)))
    (pss_one (ps_ret (pe_lst (pa_cons (pe_ifExp (pt_cmpR op_ge (pv 2) (pe_op op_pow pe_int pe_int) (nomark _)) (pv 2) pe_int) (pa_cons (pe_op op_add (pe_op op_mod (pe_callTy call_int1 (by rfl) T.b_int (by decide +kernel) (pa_cons (pe_op op_add (pe_op op_mul (pe_op op_mod (pe_callTy call_int1 (by rfl) T.b_int (by decide +kernel) (pa_cons (pv 2) pa_nil)) pe_int) pe_int) (pe_op op_mul pe_int (pv 1))) pa_nil)) pe_int) pe_int) pa_nil))))))), ?_⟩
    have fin : ∀ z : Int, tRet (tLst (tCons (tIf (tTest (tOp (rI0 fun i j => V.bl (decide (j ≤ i))) (tVar 2) (tOp (rI CPow fun i j => V.int (i ^ j.toNat)) (tC (V.int 10)) (tC (V.int 18))))) (tVar 2) (tC (V.int 0))) (tCons (tOp (rI0 fun i j => V.int (i + j)) (tOp (rI (fun _ j => 0 < j) fun i j => V.int (i % j)) (tCB (fun xs H Q => (∃ i, xs = [V.int i] ∧ Q (V.int i) H) ∨ ∃ k, xs = [V.bl k] ∧ Q (V.int (if k = true then 1 else 0)) H) (tCons (tOp (rI0 fun i j => V.int (i + j)) (tOp (rI CMul fun i j => V.int (i * j)) (tOp (rI (fun _ j => 0 < j) fun i j => V.int (i % j)) (tCB (fun xs H Q => (∃ i, xs = [V.int i] ∧ Q (V.int i) H) ∨ ∃ k, xs = [V.bl k] ∧ Q (V.int (if k = true then 1 else 0)) H) (tCons (tVar 2) tNil)) (tC (V.int 2147483629))) (tC (V.int 48271))) (tOp (rI CMul fun i j => V.int (i * j)) (tC (V.int 39019)) (tVar 1))) tNil)) (tC (V.int 2147483629))) (tC (V.int 1))) tNil))) { nx := fun _ H' => Q .non H', rt := Q } [some (.ref a), some (.int n), some (.int z)] H := by
      intro z
      refine ⟨_, rfl, _, _, rfl, rfl, ⟨by decide, by decide, by decide⟩, _, _, rfl, rfl, _, rfl, ?_⟩
      refine ite2 (fun h1 => ?_) (fun h1 => ?_)
      all_goals
        first
          | refine ⟨_, rfl, _, rfl, .inl ⟨_, rfl, _, _, rfl, rfl, (by show (0 : Int) < 2147483629; decide), _, _, rfl, rfl, .inr ⟨by decide, by decide⟩, _, rfl, _, _, rfl, rfl, .inl ⟨by decide, by decide⟩, _, _, rfl, rfl, .inl ⟨_, rfl, _, _, rfl, rfl, (by show (0 : Int) < 2147483629; decide), _, _, rfl, rfl, ?_⟩⟩⟩
          | refine ⟨_, rfl, .inl ⟨_, rfl, _, _, rfl, rfl, (by show (0 : Int) < 2147483629; decide), _, _, rfl, rfl, .inr ⟨by decide, by decide⟩, _, rfl, _, _, rfl, rfl, .inl ⟨by decide, by decide⟩, _, _, rfl, rfl, .inl ⟨_, rfl, _, _, rfl, rfl, (by show (0 : Int) < 2147483629; decide), _, _, rfl, rfl, ?_⟩⟩⟩
        exact ⟨by show 2 ≤ sizeLine; decide, fun p hp => k p _ hp (same_upd hp) ⟨_, _, upd_same⟩⟩
    refine ⟨_, rfl, _, _, rfl, rfl, .inl ⟨by decide, by decide⟩, _, _, rfl, rfl, ?_⟩
    refine ⟨_, rfl, _, rfl, a, _, rfl, .inl hS, _, _, rfl, rfl, _, rfl, ?_⟩
    refine ite2 (fun h1 => ?_) (fun h1 => ?_)
    · have h2 : (n : Int) < ((ns.map V.int).length : Int) := of_decide_eq_true h1
      rw [List.length_map] at h2
      obtain ⟨z, hz⟩ := cell_at (ns := ns) (by omega : (0 : Int) ≤ n) h2
      refine ⟨_, rfl, _, rfl, a, _, _, _, rfl, rfl, hS, hz, _, rfl, ?_⟩
      exact fin _
    · refine ⟨_, rfl, a, _, rfl, .inl hS, _, _, rfl, rfl, _, rfl, ?_⟩
      refine ite2 (fun h3 => ?_) (fun h3 => ?_)
      · have h4 : (0 : Int) < ((ns.map V.int).length : Int) := of_decide_eq_true h3
        have h5 := h4
        rw [List.length_map] at h5
        obtain ⟨z, hz⟩ := cell_at (ns := ns) (k := (n : Int) % ((ns.map V.int).length : Int)) (Int.emod_nonneg _ (by omega)) (by have := Int.emod_lt_of_pos (n : Int) h4; rw [List.length_map] at this ⊢; exact this)
        refine ⟨_, rfl, _, rfl, _, rfl, .inl ⟨_, rfl, _, rfl, a, _, rfl, .inl hS, _, _, rfl, rfl, h4, a, _, _, _, rfl, rfl, hS, hz, _, rfl, .inl ⟨_, rfl, _, _, rfl, rfl, (by show (0 : Int) < 2147483629; decide), _, _, rfl, rfl, .inr ⟨by decide, by decide⟩, _, _, rfl, rfl, ?_⟩⟩⟩
        exact fin _
      · exact fin _
theorem sc_l_one_of : FnScope ["_law_box", "_law_some"] ["_law_box", "_law_some"] (fnScope s_l_one_of) := fnScope_by (by decide +kernel)
theorem cal_l_one_of {f : Addr} {fd : FuncData} (F : Def K mg "_law_one_of" s_l_one_of f fd) (b : Binds K fd ["_law_box", "_law_some"] []) (T : Tx mg) (c_l_choose : Cal P w K mg base 1 "_law_choose" spChoose []) : Cal P w K mg base 2 "_law_one_of" spOneOf [] := by
  refine cal0 F b .nil sc_l_one_of (fun vs H Q E h => ?_) (fun cdv A outer s H vs Q E hr h => ?_)
  · obtain ⟨_, _, _, rfl, _⟩ := h; rfl
  · obtain ⟨bx, l, xs, rfl, hb, hl, nl, x0, x1, k⟩ := h
    refine ⟨_, (pss_one (ps_ret (pe_ix ix_list (pv 1) (pe_c c_l_choose hr (by decide) rfl (pa_cons (pv 0) (pa_cons (pe_callB call_len_seq (by rfl) T.b_len (by decide +kernel) (pa_cons (pv 1) pa_nil)) pa_nil))) (fun _ _ => rfl)))), ?_⟩
    refine ⟨_, rfl, _, rfl, _, rfl, l, _, rfl, .inl (SqL.of hl), bx, _, rfl, hb, by omega, by omega, fun d H' d0 d1 u => ?_⟩
    obtain ⟨j, rfl⟩ := Int.eq_ofNat_of_zero_le d0
    have hj : j < xs.length := by omega
    have g : xs[j]? = some xs[j] := by simp [hj]
    exact ⟨l, xs, _, xs[j], rfl, rfl, SqL.of (u.1 l _ hl nl), atI_nat g, k _ _ (List.getElem_mem hj) u⟩
end
end U
set_option maxRecDepth 100000
set_option maxHeartbeats 4000000
namespace U
open PySem PySem.Spec PyProof.Rows
open L2 hiding Fun CX0 E0 pass0 Fun.binds
open C8 Lx SX
def isW (z : Str) : Bool := z.cps.toList.all fun c => decide (c ∈ ("01" : Str).cps.toList)
theorem isW_W (l : List Bool) : isW (W l) = true := by
  unfold isW
  rw [W_tl, List.all_map, List.all_eq_true]
  intro b _
  cases b <;> decide +kernel
def spIsWord (K : PySem.W.Frag) : Sp := fun vs H Q _ => ∃ x, vs = [x] ∧ ((∃ z : Str, x = .str z ∧ z.length ≤ 100000 ∧ ∀ H', Same H H' → Q (.bl (isW z)) H') ∨
  (∃ t, TyX K H x t ∧ PySem.W.kitOne K t (.type "str") = some false ∧ Q (.bl false) H))
theorem spIsWord.word {K : PySem.W.Frag} {H : Hp} {Q : VK} {E : XK} {l : List Bool} (hl : l.length ≤ 100000) (k : ∀ H', Same H H' → Q (.bl true) H') : spIsWord K [.str (W l)] H Q E :=
  ⟨_, rfl, .inl ⟨_, rfl, by rw [W_len]; exact hl, fun H' s => by rw [isW_W]; exact k H' s⟩⟩
section
variable {P : Program} {w : World} {K : PySem.W.Frag} {mg : Str → Option Value} {base : Heap}
theorem sc_is_word : FnScope ["value", "sign"] ["value"] (fnScope s_is_word) := fnScope_by (by decide +kernel)
theorem cal_is_word {f : Addr} {fd : FuncData} {tB : Tok} (F : Def K mg "is_word" s_is_word f fd) (b : Binds K fd ["value"] []) (T : Tx mg) (g_BITS : mg "BITS" = some (.str "01" tB)) : Cal P w K mg base 1 "is_word" (spIsWord K) [] := by
  refine cal0 F b .nil sc_is_word (fun vs H Q E h => ?_) (fun cdv A outer s H vs Q E hr h => ?_)
  · obtain ⟨_, rfl, _⟩ := h; rfl
  · obtain ⟨_, rfl, h⟩ := h
    refine ⟨_, (pss_one (ps_ret (pe_and (pe_callB call_isi (by rfl) T.b_isinstance (by decide +kernel) (pa_cons (pv 0) (pa_cons (pe_bltn (v := .ty "str") (u := .type "str") (by rfl) T.b_str (by decide +kernel) rfl) pa_nil))) (pe_one (pe_callB (cr_all rfl) (by rfl) T.b_all (by decide +kernel) (pa_cons (pe_lc (own := [("sign", 1)]) (g := gName 1) (by rfl) sc_is_word.nd (pi_str (pv 0)) (blkOk_by (own := [("sign", 1)]) (N := ["value", "sign"]) (sc := fnScope s_is_word) (by decide +kernel)) (fun _ _ _ _ _ => (pg_name (i := 1) sc_is_word.nd rfl (.inl rfl))) (fun _ _ _ _ _ => pts_nil) (fun _ _ _ _ _ => (pe_cmpR op_in_sign (pv 1) (pe_glob (v := .str "01") (by rfl) g_BITS ⟨_, rfl⟩) (by with_unfolding_all rfl)))) pa_nil)))))), ?_⟩
    rcases h with ⟨z, rfl, hz, k⟩ | ⟨t, ht, hk, k⟩
    · refine ⟨_, rfl, _, _, _, _, true, rfl, .ty _, .base (.str z), kit_ty (by decide +kernel), _, rfl, ?_⟩
      refine ⟨_, rfl, z, rfl, fun D nD => ?_⟩
      refine lc_it walk_str (fun i H2 => Same H H2 ∧ H2 D = some (.lst (((z.cps.toList.take i).map fun c => decide (c ∈ ("01" : Str).cps.toList)).map V.bl))) ⟨same_upd nD, upd_same⟩ (fun _ _ _ _ => trivial) ?_ ?_
      · rintro i x H2 H3 hi ⟨s2, hD⟩ ⟨rfl, c, hc, rfl⟩
        refine ⟨rfl, ?_⟩
        refine ⟨_, rfl, c, _, rfl, rfl, _, hD, ?_, ?_, ?_⟩
        · rw [List.length_map, List.length_map, List.length_take]
          have e : z.length = z.cps.toList.length := TL.len_tl z
          exact sl_lt (by have : z.cps.size = z.cps.toList.length := by simp
                          omega)
        · intro c' o e
          rw [upd_ne (ne_of_none e nD)]
          exact s2 _ _ e
        · have hc' : z.cps.toList[i]? = some c := by rw [Array.getElem?_toList]; exact hc
          rw [upd_same, List.take_add_one, hc']
          simp
      · rintro H2 ⟨s2, hD⟩
        have e : z.cps.toList.take z.cps.size = z.cps.toList := List.take_of_length_le (by simp)
        rw [e] at hD
        refine ⟨D, _, rfl, SqL.of hD, ?_⟩
        have e2 : (List.map (fun c => decide (c ∈ ("01" : Str).cps.toList)) z.cps.toList).all id = isW z := by
          unfold isW
          rw [List.all_map]
          rfl
        rw [e2]
        exact k H2 s2
    · exact ⟨_, rfl, _, _, _, _, false, rfl, .ty _, ht, hk, _, rfl, k⟩
end
end U
set_option maxRecDepth 100000
set_option maxHeartbeats 4000000
namespace U
open PySem PySem.Spec PyProof.Rows
open L2 hiding Fun CX0 E0 pass0 Fun.binds
open C8 Lx SX
def AnyS (K : PySem.W.Frag) (H : Hp) (x : V) : Prop := (∃ z : Str, x = .str z ∧ z.length ≤ 10000 ∧ PyData.strOk z = true) ∨ ((∀ z, x ≠ .str z) ∧ ∃ t, PySem.W.kitOne K t (.type "str") = some false ∧ ∀ H', Same H H' → TyX K H' x t)
theorem AnyS.same {K : PySem.W.Frag} {H H' : Hp} {x : V} (h : AnyS K H x) (s : Same H H') : AnyS K H' x := by
  rcases h with h | ⟨h1, t, h2, h3⟩
  · exact .inl h
  · exact .inr ⟨h1, t, h2, fun H2 s2 => h3 H2 (s.trans s2)⟩
def AnyU (K : PySem.W.Frag) (b : Addr) (H : Hp) (x : V) : Prop := ∀ H', Up b H H' → AnyS K H' x
theorem AnyU.up {K : PySem.W.Frag} {b : Addr} {H H' : Hp} {x : V} (h : AnyU K b H x) (u : Up b H H') : AnyU K b H' x := fun H2 u2 => h H2 (u.trans u2)
theorem AnyU.now {K : PySem.W.Frag} {b : Addr} {H : Hp} {x : V} (h : AnyU K b H x) (hb : Box H b) : AnyS K H x := h H (Up.refl hb)
theorem anyS_str {K : PySem.W.Frag} {H : Hp} {z : Str} (h : z.length ≤ 10000) (o : PyData.strOk z = true) : AnyS K H (.str z) := .inl ⟨z, rfl, h, o⟩
theorem anyS_non {K : PySem.W.Frag} {H : Hp} : AnyS K H .non := .inr ⟨(fun _ z => by cases z), _, kit_ty (by decide +kernel), fun _ _ => .base .non⟩
theorem anyS_bl {K : PySem.W.Frag} {H : Hp} (x : Bool) : AnyS K H (.bl x) := .inr ⟨(fun _ z => by cases z), _, kit_ty (by decide +kernel), fun _ _ => .base (.bl x)⟩
theorem anyS_int {K : PySem.W.Frag} {H : Hp} (i : Int) : AnyS K H (.int i) := .inr ⟨(fun _ z => by cases z), _, kit_ty (by decide +kernel), fun _ _ => .base (.int i)⟩
theorem anyS_lst {K : PySem.W.Frag} {H : Hp} {a : Addr} {xs : List V} (e : H a = some (.lst xs)) : AnyS K H (.ref a) := .inr ⟨(fun _ z => by cases z), _, kit_ty (by decide +kernel), fun _ s => .base (.lst (s _ _ e))⟩
theorem anyS_tup {K : PySem.W.Frag} {H : Hp} {a : Addr} {xs : List V} (e : H a = some (.tup xs)) : AnyS K H (.ref a) := .inr ⟨(fun _ z => by cases z), _, kit_ty (by decide +kernel), fun _ s => .base (.tup (s _ _ e))⟩
theorem anyU_str {K : PySem.W.Frag} {b : Addr} {H : Hp} {z : Str} (h : z.length ≤ 10000) (o : PyData.strOk z = true) : AnyU K b H (.str z) := fun _ _ => anyS_str h o
theorem anyU_lst {K : PySem.W.Frag} {b : Addr} {H : Hp} {a : Addr} {xs : List V} (e : H a = some (.lst xs)) (n : a ≠ b) : AnyU K b H (.ref a) := fun _ u => anyS_lst (u.1 _ _ e n)
theorem anyU_tup {K : PySem.W.Frag} {b : Addr} {H : Hp} {a : Addr} {xs : List V} (hb : Box H b) (e : H a = some (.tup xs)) : AnyU K b H (.ref a) := fun _ u => anyS_tup (u.1 _ _ e (hb.neT e))
def wordB : V → Bool
  | .str z => isW z
  | _ => false
theorem AnyS.no {K : PySem.W.Frag} {H : Hp} {x : V} (h : ∀ z, x ≠ .str z) : wordB x = false := by
  unfold wordB
  split
  · exact absurd rfl (h _)
  · rfl
theorem spIsWord.any {K : PySem.W.Frag} {H : Hp} {Q : VK} {E : XK} {x : V} (h : AnyS K H x) (k : ∀ H', Same H H' → Q (.bl (wordB x)) H') : spIsWord K [x] H Q E := by
  rcases h with ⟨z, rfl, hz, _⟩ | ⟨h1, t, h2, h3⟩
  · exact ⟨_, rfl, .inl ⟨z, rfl, by omega, k⟩⟩
  · refine ⟨_, rfl, .inr ⟨t, h3 H (Same.refl H), h2, ?_⟩⟩
    have := k H (Same.refl H)
    rw [AnyS.no (K := K) (H := H) h1] at this
    exact this
def unW (z : Str) : List Bool := z.cps.toList.map fun c => decide (c = 49)
theorem isW_un {z : Str} (h : isW z = true) : z = W (unW z) := by
  refine TL.ext_tl ?_
  have e : TL.tl (W (unW z)) = (unW z).map bt := W_tl _
  rw [e]
  unfold unW
  rw [List.map_map]
  unfold isW at h
  rw [List.all_eq_true] at h
  have e2 : TL.tl z = z.cps.toList := rfl
  rw [e2]
  have key : ∀ l : List Nat, (∀ c ∈ l, decide (c ∈ ("01" : Str).cps.toList) = true) → l = l.map (bt ∘ fun c => decide (c = 49)) := fun l => by
    induction l with
    | nil => intro _; rfl
    | cons c r ih =>
      intro hl
      rw [List.map_cons, ← ih fun u hu => hl u (List.mem_cons_of_mem _ hu)]
      have hc := of_decide_eq_true (hl c List.mem_cons_self)
      have e0 : ("01" : Str).cps.toList = [48, 49] := by decide +kernel
      rw [e0] at hc
      congr 1
      rcases List.mem_cons.mp hc with rfl | hc
      · rfl
      · rw [List.mem_singleton.mp hc]; rfl
  exact key _ h
theorem wordB_W {l : List Bool} : wordB (.str (W l)) = true := isW_W l
theorem wordB_some {x : V} (h : wordB x = true) : ∃ l, x = .str (W l) := by
  unfold wordB at h
  split at h
  · rename_i z
    exact ⟨unW z, by rw [← isW_un h]⟩
  · cases h
end U
set_option maxRecDepth 100000
set_option maxHeartbeats 4000000
namespace Lx
open PySem PySem.Spec PyProof.Rows L2
theorem Sq.of_same {K : PySem.W.Frag} {H H' : Hp} {a : Addr} {xs : List V} (h : Sq K H a xs) (e : Same H H') : Sq K H' a xs := h.same e
theorem iSeq_var {K : PySem.W.Frag} {i : Nat} {σ : L2.St} {H : Hp} {R : It → Hp → Prop} {a : Addr} {xs : List V} (hv : σ[i]? = some (some (.ref a))) (hS : Sq K H a xs)
    (h : ∀ (J : It) (G : Hp → Prop), (∀ H', Same H H' → G H') → Walk J xs.length G (YAt xs) → R J H) : iSeq K (tVar i) σ H R := by
  rcases hS with hS | hS
  · exact .inl ⟨_, hv, a, rfl, ⟨xs, hS⟩, h _ _ (fun H' s => s.seq hS) walk_list⟩
  · exact .inr ⟨_, hv, a, rfl, ⟨xs, hS⟩, h _ _ (fun H' s => same_tup s hS) walk_tup⟩
theorem iEnumQ_var {K : PySem.W.Frag} {i : Nat} {σ : L2.St} {H : Hp} {R : It → Hp → Prop} {a : Addr} {xs : List V} (hv : σ[i]? = some (some (.ref a))) (hS : Sq K H a xs)
    (h : ∀ (J : It) (G : Hp → Prop), (∀ H', Same H H' → G H') → Walk J xs.length G (YPair (fun i => some (.int (i : Nat))) (fun i => xs[i]?)) → R J H) : iEnumQ K (tCons (tVar i) tNil) σ H R := by
  rcases hS with hS | hS
  · exact .inl ⟨_, hv, a, xs, rfl, hS, h _ _ (fun H' s => s.seq hS) walk_enum⟩
  · exact .inr ⟨_, hv, a, xs, rfl, hS, h _ _ (fun H' s => same_tup s hS) walk_enumT⟩
theorem cut_whole {xs : List V} {lo hi : Option Int} (h1 : HT.sIx xs.length 0 lo = 0) (h2 : HT.sIx xs.length xs.length hi = xs.length) : cutV xs lo hi = xs := by
  unfold cutV
  rw [h1, h2, List.drop_zero, Nat.sub_zero, List.take_length]
theorem slQ_of {K : PySem.W.Frag} {H : Hp} {Q : VK} {a : Addr} {xs : List V} {lo hi : Option Int} (hS : Sq K H a xs) (h : ∀ p H', Same H H' → Sq K H' p (cutV xs lo hi) → Q (.ref p) H') : rSlL K (.ref a) lo hi H Q ∨ rSlA K (.ref a) lo hi H Q := by
  rcases hS with hS | hS
  · exact .inl ⟨a, xs, rfl, hS, fun p hp => h p _ (fun b x e => by rw [upd_ne (ne_of_none e hp)]; exact e) (.inl (SqL.of upd_same))⟩
  · refine .inr ⟨a, xs, rfl, hS, fun c => h a H (Same.refl H) ?_, fun _ p hp => h p _ (fun b x e => by rw [upd_ne (ne_of_none e hp)]; exact e) (.inr (SqT.of upd_same))⟩
    rw [cut_whole c.1 c.2]
    exact .inr hS
theorem Sq.star {K : PySem.W.Frag} {H : Hp} {a : Addr} {xs : List V} (h : Sq K H a xs) : SqT K H a xs ∨ SqL K H a xs := h.elim .inr .inl
end Lx
namespace U
open PySem PySem.Spec PyProof.Rows
open L2 hiding Fun CX0 E0 pass0 Fun.binds
open C8 Lx SX StX
theorem W_ends (l p : List Bool) : Txt.endswith (W l) (W p) = p.isSuffixOf l := by
  unfold Txt.endswith
  rw [PySem.StrLaws.subAt_eq, W_len, W_len, W_tl, W_tl, ← List.map_drop, ← List.map_take, Bool.eq_iff_iff, List.isSuffixOf_iff_suffix, Bool.and_eq_true, decide_eq_true_eq, beq_iff_eq]
  constructor
  · rintro ⟨h1, h2⟩
    have h3 := map_bt_inj h2
    rw [List.take_of_length_le (by rw [List.length_drop]; omega)] at h3
    rw [← h3]
    exact List.drop_suffix _ _
  · intro h
    have hl := h.length_le
    refine ⟨by omega, ?_⟩
    rw [List.take_of_length_le (by rw [List.length_drop]; omega), ← List.suffix_iff_eq_drop.mp h]
theorem W_tail (l : List Bool) (n : Nat) : Txt.slice (W l) (some (if (((W l).length : Nat) : Int) - (n : Int) > 0 then (((W l).length : Nat) : Int) - (n : Int) else 0)) none = W (tl n l) := by
  rw [W_drop (by split <;> omega)]
  congr 1
  unfold tl
  rw [W_len]
  congr 1
  split <;> omega
def StV (H : Hp) (kb : Addr → Stf) (ps : List Addr) : Prop := ∀ t ∈ ps, H t = some (.tup [.str (W (kb t).1), .str (W [(kb t).2])])
theorem StV.same {H H' : Hp} {kb : Addr → Stf} {ps : List Addr} (h : StV H kb ps) (e : Same H H') : StV H' kb ps := fun t ht => e _ _ (h t ht)
theorem StV.nl {H H' : Hp} {kb : Addr → Stf} {ps : List Addr} (h : StV H kb ps) (e : NL H H') : StV H' kb ps := fun t ht => e.tup (h t ht)
theorem StV.perm {H : Hp} {kb : Addr → Stf} {ps qs : List Addr} (h : StV H kb ps) (p : qs.Perm ps) : StV H kb qs := fun t ht => h t (p.mem_iff.mp ht)
def ruF (f : List Bool) (t : Addr) : List (Str × V) := putF "stuffs" (.ref t) (putF "flag" (.str (W f)) [])
theorem fs_ne : ¬ (("flag" : Str) = "stuffs") := by decide +kernel
theorem ruF_flag (f : List Bool) (t : Addr) : (ruF f t).lookup ("flag" : Str) = some (.str (W f)) := by
  unfold ruF
  rw [lookup_putF, if_neg fs_ne, lookup_putF, if_pos rfl]
theorem ruF_stuffs (f : List Bool) (t : Addr) : (ruF f t).lookup ("stuffs" : Str) = some (.ref t) := by
  unfold ruF
  rw [lookup_putF, if_pos rfl]
theorem ruF_no (f : List Bool) (t : Addr) {m : Str} (h1 : ¬ m = "stuffs") (h2 : ¬ m = "flag") : (ruF f t).lookup m = none := by
  unfold ruF
  rw [lookup_putF, if_neg h1, lookup_putF, if_neg h2]
  all_goals rfl
def RuAt (C : Addr) (H : Hp) (a : Addr) (f : List Bool) (ss : List Stf) : Prop :=
  ∃ dx t ps kb, H a = some (.ins C dx (ruF f t)) ∧ H t = some (.tup (ps.map V.ref)) ∧ StV H kb ps ∧ ss = ps.map kb
theorem RuAt.same {C : Addr} {H H' : Hp} {a : Addr} {f : List Bool} {ss : List Stf} (h : RuAt C H a f ss) (e : Same H H') : RuAt C H' a f ss := by
  obtain ⟨dx, t, ps, kb, h1, h2, h3, h4⟩ := h
  exact ⟨dx, t, ps, kb, e _ _ h1, e _ _ h2, h3.same e, h4⟩
theorem RuAt.nl {C : Addr} {H H' : Hp} {a : Addr} {f : List Bool} {ss : List Stf} (h : RuAt C H a f ss) (e : NL H H') : RuAt C H' a f ss := by
  obtain ⟨dx, t, ps, kb, h1, h2, h3, h4⟩ := h
  exact ⟨dx, t, ps, kb, e.ins h1, e.tup h2, h3.nl e, h4⟩
def longM (ss : List Stf) : Nat := ss.foldr (fun s m => max s.1.length m) 0
theorem longM_le : ∀ {ss : List Stf} {s : Stf}, s ∈ ss → s.1.length ≤ longM ss
  | x :: r, s, h => by
    show s.1.length ≤ max x.1.length (longM r)
    rcases List.mem_cons.mp h with e | h
    · rw [e]; omega
    · have := longM_le h; omega
theorem longM_max : ∀ {ss : List Stf} {n : Nat}, (∀ s ∈ ss, s.1.length ≤ n) → longM ss ≤ n
  | [], _, _ => Nat.zero_le _
  | x :: r, n, h => by
    have := longM_max (ss := r) fun s hs => h s (List.mem_cons_of_mem _ hs)
    have := h x List.mem_cons_self
    show max x.1.length (longM r) ≤ n
    omega
theorem longM_perm {ss ts : List Stf} (p : ss.Perm ts) : longM ss = longM ts :=
  Nat.le_antisymm (longM_max fun s hs => longM_le (p.mem_iff.mp hs)) (longM_max fun s hs => longM_le (p.mem_iff.mpr hs))
theorem longM_is {ss : List Stf} {m : Int} (hm : m ∈ (0 : Int) :: ss.map fun s => (s.1.length : Int)) (hx : ∀ y ∈ (0 : Int) :: ss.map fun s => (s.1.length : Int), y ≤ m) : m = (longM ss : Nat) := by
  have h0 := hx 0 List.mem_cons_self
  have h1 : longM ss ≤ m.toNat := longM_max fun s hs => by
    have := hx _ (List.mem_cons_of_mem _ (List.mem_map_of_mem (f := fun s : Stf => (s.1.length : Int)) hs))
    omega
  rcases List.mem_cons.mp hm with e | h
  · omega
  · obtain ⟨s, hs, rfl⟩ := List.mem_map.mp h
    have := longM_le hs
    omega
def oB : Option Bool → V
  | none => .non
  | some b => .str (W [b])
theorem oB_non (o : Option Bool) : decide (oB o = .non) = o.isNone := by
  cases o with
  | none => exact decide_eq_true rfl
  | some b => exact decide_eq_false (fun z => by cases z)
structure RuT (K : PySem.W.Frag) (C : Addr) : Prop where
  cl : Cls K C
  nF : NoAttr K C "flag"
  nS : NoAttr K C "stuffs"
def spIsSeq (K : PySem.W.Frag) : Sp := fun vs H Q _ => ∃ a xs, vs = [.ref a] ∧ Sq K H a xs ∧ ∀ H', Same H H' → Q (.bl true) H'
def spIsBit : Sp := fun vs H Q _ => ∃ b, vs = [.str (W [b])] ∧ ∀ H', Same H H' → Q (.bl true) H'
def spIsStuff : Sp := fun vs H Q _ => ∃ (t : Addr) (p : List Bool) (b : Bool), vs = [.ref t] ∧ H t = some (.tup [.str (W p), .str (W [b])]) ∧ p ≠ [] ∧ p.length ≤ 1000 ∧ ∀ H', Same H H' → Q (.bl true) H'
def spTail : Sp := fun vs H Q _ => ∃ (l : List Bool) (n : Nat), vs = [.str (W l), .int n] ∧ l.length ≤ 100000 ∧ Q (.str (W (tl n l))) H
def spLongest (C : Addr) : Sp := fun vs H Q _ => ∃ (a : Addr) (f : List Bool) (ss : List Stf), vs = [.ref a] ∧ RuAt C H a f ss ∧ ss.length ≤ 1000 ∧ (∀ s ∈ ss, s.1.length ≤ 1000) ∧ ∀ H', Same H H' → Q (.int (longM ss : Nat)) H'
def spPut (C : Addr) : Sp := fun vs H Q _ => ∃ (a : Addr) (f : List Bool) (ss : List Stf) (l : List Bool), vs = [.ref a, .str (W l)] ∧ RuAt C H a f ss ∧ ∀ H', Same H H' → Q (oB (putM ss l)) H'
section
variable {P : Program} {w : World} {K : PySem.W.Frag} {mg : Str → Option Value} {base : Heap}
theorem sc_is_sequence : FnScope ["value"] ["value"] (fnScope s_is_sequence) := fnScope_by (by decide +kernel)
theorem cal_is_sequence {f : Addr} {fd : FuncData} (F : Def K mg "is_sequence" s_is_sequence f fd) (b : Binds K fd ["value"] []) (T : Tx mg) : Cal P w K mg base 1 "is_sequence" (spIsSeq K) [] := by
  refine cal0 F b .nil sc_is_sequence (fun vs H Q E h => ?_) (fun cdv A outer s H vs Q E hr h => ?_)
  · obtain ⟨_, _, rfl, _⟩ := h; rfl
  · obtain ⟨a, xs, rfl, hS, k⟩ := h
    refine ⟨_, (pss_one (ps_ret (pe_callB call_isiT (by rfl) T.b_isinstance (by decide +kernel) (pa_cons (pv 0) (pa_cons (pe_tup (pa_cons (pe_bltn (v := .ty "list") (u := .type "list") (by rfl) T.b_list (by decide +kernel) rfl) (pa_cons (pe_bltn (v := .ty "tuple") (u := .type "tuple") (by rfl) T.b_tuple (by decide +kernel) rfl) pa_nil))) pa_nil))))), ?_⟩
    refine ⟨_, rfl, by show 2 ≤ sizeLine; decide, fun tp htp => ?_⟩
    have hS' := hS.same (same_upd (o := .tup [.ty "list", .ty "tuple"]) htp)
    rcases hS' with hS' | hS'
    · exact ⟨_, tp, _, _, _, true, rfl, upd_same, .cons (.ty _) (.cons (.ty _) .nil), ty_list hS', by first | exact kit_any (by decide +kernel) | rfl | decide +kernel, k _ (same_upd htp)⟩
    · exact ⟨_, tp, _, _, _, true, rfl, upd_same, .cons (.ty _) (.cons (.ty _) .nil), ty_tup hS', by first | exact kit_any (by decide +kernel) | rfl | decide +kernel, k _ (same_upd htp)⟩
theorem sc_is_bit : FnScope ["value"] ["value"] (fnScope s_is_bit) := fnScope_by (by decide +kernel)
theorem cal_is_bit {f : Addr} {fd : FuncData} (F : Def K mg "is_bit" s_is_bit f fd) (b : Binds K fd ["value"] []) (T : Tx mg) (c_is_word : Cal P w K mg base 1 "is_word" (spIsWord K) []) : Cal P w K mg base 2 "is_bit" spIsBit [] := by
  refine cal0 F b .nil sc_is_bit (fun vs H Q E h => ?_) (fun cdv A outer s H vs Q E hr h => ?_)
  · obtain ⟨_, rfl, _⟩ := h; rfl
  · obtain ⟨x, rfl, k⟩ := h
    refine ⟨_, (pss_one (ps_ret (pe_and (pe_c c_is_word hr (by decide) rfl (pa_cons (pv 0) pa_nil)) (pe_one (pe_cmpR op_eq (pe_callB call_len_str (by rfl) T.b_len (by decide +kernel) (pa_cons (pv 0) pa_nil)) pe_int (nomark _)))))), ?_⟩
    have l1 : (W [x]).length = 1 := W_len _
    refine ⟨_, rfl, _, rfl, .inl ⟨_, rfl, by rw [l1]; decide, fun H1 s1 => ⟨_, rfl, iteBT (isW_W _) ?_⟩⟩⟩
    refine ⟨_, rfl, _, rfl, by rw [l1]; decide, ?_⟩
    rw [l1]
    exact ⟨rfl, q_dec (Q := Q) rfl (k H1 s1)⟩
theorem sc_is_stuff : FnScope ["value"] ["value"] (fnScope s_is_stuff) := fnScope_by (by decide +kernel)
theorem cal_is_stuff {f : Addr} {fd : FuncData} (F : Def K mg "is_stuff" s_is_stuff f fd) (b : Binds K fd ["value"] []) (T : Tx mg) (c_is_word : Cal P w K mg base 1 "is_word" (spIsWord K) []) (c_is_bit : Cal P w K mg base 2 "is_bit" spIsBit []) : Cal P w K mg base 3 "is_stuff" spIsStuff [] := by
  refine cal0 F b .nil sc_is_stuff (fun vs H Q E h => ?_) (fun cdv A outer s H vs Q E hr h => ?_)
  · obtain ⟨_, _, _, rfl, _⟩ := h; rfl
  · obtain ⟨t, p, x, rfl, ht, hp, hl, k⟩ := h
    refine ⟨_, (pss_cons (ps_if (PW.pt (pw_or (pt_not (pt_val (pe_callB call_isi (by rfl) T.b_isinstance (by decide +kernel) (pa_cons (pv 0) (pa_cons (pe_bltn (v := .ty "tuple") (u := .type "tuple") (by rfl) T.b_tuple (by decide +kernel) rfl) pa_nil))))) (pw_or1 (pt_cmpR op_ne (pe_callB call_len_seq (by rfl) T.b_len (by decide +kernel) (pa_cons (pv 0) pa_nil)) pe_int (nomark _))))) (pss_one (ps_ret pe_bl)) pss_nil)
    (pss_one (ps_ret (pe_and (pe_c c_is_word hr (by decide) rfl (pa_cons (pe_ix ix_tup (pv 0) pe_int (fun _ _ => rfl)) pa_nil)) (pe_and (pe_cmpR op_gt (pe_callB call_len_str (by rfl) T.b_len (by decide +kernel) (pa_cons (pe_ix ix_tup (pv 0) pe_int (fun _ _ => rfl)) pa_nil)) pe_int (nomark _)) (pe_one (pe_c c_is_bit hr (by decide) rfl (pa_cons (pe_ix ix_tup (pv 0) pe_int (fun _ _ => rfl)) pa_nil)))))))), ?_⟩
    have lp : (W p).length ≤ sizeLine := by rw [W_len]; exact sl_len (by omega)
    refine ⟨_, rfl, _, _, _, _, true, rfl, .ty _, .base (.tup ht), kit_ty (by decide +kernel), _, rfl, ?_⟩
    refine ⟨_, rfl, t, _, rfl, .inr (SqT.of ht), rfl, _, rfl, iteNS rfl ?_⟩
    refine ⟨_, rfl, t, _, 0, _, rfl, rfl, SqT.of ht, rfl, _, rfl, .inl ⟨_, rfl, by rw [W_len]; omega, fun H1 s1 => ⟨_, rfl, iteBT (isW_W _) ?_⟩⟩⟩
    have ht1 := s1 _ _ ht
    refine ⟨_, rfl, t, _, 0, _, rfl, rfl, SqT.of ht1, rfl, _, rfl, lp, ?_⟩
    refine ⟨_, _, rfl, rfl, _, rfl, iteDT ?_ ?_⟩
    · rw [W_len]
      have : p.length ≠ 0 := fun z => hp (List.length_eq_zero_iff.mp z)
      omega
    · refine ⟨_, rfl, t, _, 1, _, rfl, rfl, SqT.of ht1, rfl, x, rfl, fun H2 s2 => k H2 (s1.trans s2)⟩
theorem sc_tail : FnScope ["line", "size"] ["line", "size"] (fnScope s_tail) := fnScope_by (by decide +kernel)
theorem cal_tail {f : Addr} {fd : FuncData} (F : Def K mg "tail" s_tail f fd) (b : Binds K fd ["line", "size"] []) (T : Tx mg) : Cal P w K mg base 1 "tail" spTail [] := by
  refine cal0 F b .nil sc_tail (fun vs H Q E h => ?_) (fun cdv A outer s H vs Q E hr h => ?_)
  · obtain ⟨_, _, rfl, _⟩ := h; rfl
  · obtain ⟨l, n, rfl, hl, k⟩ := h
    refine ⟨_, (pss_one (ps_ret (pe_slice sl_txt (pv 0) (po_some (pe_callB (call_max2 rfl) (by rfl) T.b_max (by decide +kernel) (pa_cons pe_int (pa_cons (pe_op op_sub (pe_callB call_len_str (by rfl) T.b_len (by decide +kernel) (pa_cons (pv 0) pa_nil)) (pv 1)) pa_nil)))) po_none))), ?_⟩
    have lw : (W l).length ≤ sizeLine := by rw [W_len]; exact sl_len (by omega)
    refine ⟨_, rfl, _, rfl, _, rfl, lw, _, rfl, _, _, rfl, rfl, _, _, rfl, _, rfl, _, rfl, lw, ?_⟩
    rw [W_tail]
    exact k
theorem sc_Rule_longest : FnScope ["self", "pattern", "bit"] ["self"] (fnScope s_Rule_longest) := fnScope_by (by decide +kernel)
theorem ok_longest {f C : Addr} {fd : FuncData} (F : C8.Fun K "longest" "Rule.longest" s_Rule_longest f fd) (T : Tx mg) (RT : RuT K C) : FnOk P w K mg base CX0 1 f fd ["self"] (spLongest C) := by
  refine fn0 F sc_Rule_longest (fun vs H Q E h => ?_) (fun cdv A outer s H vs Q E hr h => ?_)
  · obtain ⟨_, _, _, rfl, _⟩ := h; rfl
  · obtain ⟨a, fl, ss, rfl, ⟨dx, t, ps, kb, ha, ht, hs, rfl⟩, hn, hl, k⟩ := h
    refine ⟨_, (pss_one (ps_ret (pe_callB (cr_max rfl) (by rfl) T.b_max (by decide +kernel) (pa_cons (pe_lst (pa_cons pe_int (pa_star (pe_lc (own := [("pattern", 1), ("bit", 2)]) (g := gTup K 2 (gCons (gName 1) (gCons (gName 2) gNil))) (by rfl) sc_Rule_longest.nd (pi_tup (pe_fld (pv 0) rfl)) (blkOk_by (own := [("pattern", 1), ("bit", 2)]) (N := ["self", "pattern", "bit"]) (sc := fnScope s_Rule_longest) (by decide +kernel)) (fun _ _ _ _ _ => (pg_tup rfl (pgs_cons (pg_name (i := 1) sc_Rule_longest.nd rfl (.inl rfl)) (pgs_cons (pg_name (i := 2) sc_Rule_longest.nd rfl (.inl rfl)) pgs_nil)))) (fun _ _ _ _ _ => pts_nil) (fun _ _ _ _ _ => (pe_callB call_len_str (by rfl) T.b_len (by decide +kernel) (pa_cons (pv 1) pa_nil)))) pa_nil))) pa_nil)))), ?_⟩
    refine ⟨_, rfl, a, C, dx, _, _, rfl, ha, RT.cl, RT.nS, ruF_stuffs _ _, t, rfl, ⟨_, SqT.of ht⟩, fun D nD => ?_⟩
    refine lc_it (walk_tup (xs := ps.map V.ref)) (fun i H2 => Same H H2 ∧ H2 D = some (.lst ((((ps.take i).map kb).map fun s => (s.1.length : Int)).map V.int))) ⟨same_upd nD, upd_same⟩ (fun i H2 _ h2 => SqT.of (h2.1 _ _ ht)) ?_ ?_
    · rintro i x H2 H3 hi ⟨s2, hD⟩ ⟨rfl, hx⟩
      rw [List.getElem?_map] at hx
      obtain ⟨q, hq, rfl⟩ := Option.map_eq_some_iff.mp hx
      have hqm : q ∈ ps := List.mem_of_getElem? hq
      have lq : (kb q).1.length ≤ 1000 := hl _ (List.mem_map_of_mem hqm)
      refine ⟨q, _, rfl, SqT.of (s2 _ _ (hs q hqm)), rfl, ?_⟩
      refine ⟨_, _, rfl, _, _, rfl, rfl, rfl, ?_⟩
      refine ⟨_, rfl, _, rfl, by rw [W_len]; exact sl_len (by omega), _, hD, ?_, ?_, ?_⟩
      · rw [List.length_map] at hi
        rw [List.length_map, List.length_map, List.length_map, List.length_take]
        rw [List.length_map] at hn
        exact sl_lt (by omega)
      · intro c' o e
        rw [upd_ne (ne_of_none e nD)]
        exact s2 _ _ e
      · rw [upd_same, List.take_add_one, hq, W_len]
        simp
    · rintro H2 ⟨s2, hD⟩
      rw [List.length_map, List.take_length] at hD
      refine ⟨D, _, rfl, .inr (SqL.of hD), ?_⟩
      have hn' : ps.length ≤ 1000 := by rw [List.length_map] at hn; exact hn
      refine ⟨?_, fun p hp => ?_⟩
      · simp only [List.length_cons, List.length_append, List.length_map, List.length_nil]
        exact sl_len (by omega)
      · refine ⟨p, (0 : Int) :: (ps.map kb).map fun s => (s.1.length : Int), rfl, ?_, by rw [List.length_cons]; omega, fun m hm hx => ?_⟩
        · refine SqL.of (upd_same.trans ?_)
          simp
        · rw [longM_is hm hx]
          exact k _ (s2.trans (same_upd hp))
theorem sc_Rule_put : FnScope ["self", "line", "pattern", "bit"] ["self", "line"] (fnScope s_Rule_put) := fnScope_by (by decide +kernel)
theorem met_put {f C : Addr} {fd : FuncData} (F : C8.Fun K "put" "Rule.put" s_Rule_put f fd) (me : Meth K C "put" f) (b : Binds K fd ["self", "line"] []) (T : Tx mg) (RT : RuT K C) : Met P w K mg base 1 C "put" (spPut C) [] := by
  refine met0 RT.cl me F b sc_Rule_put (fun vs H Q E h => ?_) (fun cdv A outer s H vs Q E hr h => ?_)
  · obtain ⟨_, _, _, _, rfl, _⟩ := h; rfl
  · obtain ⟨a, fl, ss, l, rfl, ⟨dx, t, ps, kb, ha, ht, hs, rfl⟩, k⟩ := h
    refine ⟨_, (pss_cons (ps_for PassesOwn.never rfl (pi_tup (pe_fld (pv 0) rfl)) (pg_tup rfl (pgs_cons (pg_name (i := 2) sc_Rule_put.nd rfl (.inl rfl)) (pgs_cons (pg_name (i := 3) sc_Rule_put.nd rfl (.inl rfl)) pgs_nil)))
    (pss_one (ps_if (pt_val (pe_m1 PySem.F.slot_str_endswith PySem.F.type_str_endswith mt_endswith (pv 1) (pv 2))) (pss_one (ps_ret (pv 3))) pss_nil)))
    (pss_one (ps_ret pe_non))), ?_⟩
    refine ⟨_, rfl, a, C, dx, _, _, rfl, ha, RT.cl, RT.nS, ruF_stuffs _ _, t, rfl, ⟨_, SqT.of ht⟩, ?_⟩
    refine for_it (walk_tup (xs := ps.map V.ref)) (fun i σ H2 => ∃ v2 v3 : Option V, σ = [some (.ref a), some (.str (W l)), v2, v3] ∧ H2 = H ∧ ∀ j q, j < i → ps[j]? = some q → (kb q).1.isSuffixOf l = false) ⟨none, none, rfl, rfl, fun j q hj => absurd hj (Nat.not_lt_zero _)⟩ (fun i σ H2 _ h2 => by obtain ⟨_, _, _, rfl, _⟩ := h2; exact SqT.of ht) ?_ ?_
    · rintro i x σ H2 H3 hi ⟨v2, v3, rfl, rfl, hno⟩ ⟨rfl, hx⟩
      rw [List.getElem?_map] at hx
      obtain ⟨q, hq, rfl⟩ := Option.map_eq_some_iff.mp hx
      have hqm : q ∈ ps := List.mem_of_getElem? hq
      refine ⟨q, _, rfl, SqT.of (hs q hqm), rfl, ?_⟩
      refine ⟨_, _, rfl, _, _, rfl, rfl, ?_⟩
      refine ⟨_, rfl, ⟨_, rfl⟩, _, rfl, _, _, rfl, rfl, _, rfl, ?_⟩
      rw [W_ends]
      cases e : (kb q).1.isSuffixOf l with
      | true =>
        refine ⟨_, rfl, ?_⟩
        have ep : putM (ps.map kb) l = some (kb q).2 := by
          have hf : (ps.map kb).find? (fun s => s.1.isSuffixOf l) = some (kb q) := by
            rw [List.find?_eq_some_iff_getElem]
            have hi' := (List.getElem?_eq_some_iff.mp hq)
            obtain ⟨hi1, hi2⟩ := hi'
            refine ⟨e, i, by rw [List.length_map]; exact hi1, by rw [List.getElem_map, hi2], fun j hj => ?_⟩
            rw [List.getElem_map]
            have := hno j ps[j] hj (List.getElem?_eq_getElem _)
            rw [this]
            rfl
          unfold putM
          rw [hf]
          rfl
        have := k _ (Same.refl _)
        rw [ep] at this
        exact this
      | false =>
        refine ⟨_, _, rfl, rfl, fun j q' hj hq' => ?_⟩
        by_cases ej : j = i
        · subst ej
          rw [hq] at hq'
          cases hq'
          exact e
        · exact hno j q' (by omega) hq'
    · rintro σ H2 ⟨v2, v3, rfl, rfl, hno⟩
      have ep : putM (ps.map kb) l = none := by
        have hf : (ps.map kb).find? (fun s => s.1.isSuffixOf l) = none := by
          rw [List.find?_eq_none]
          intro s hs'
          obtain ⟨q, hq, rfl⟩ := List.mem_map.mp hs'
          obtain ⟨j, hj⟩ := List.getElem?_of_mem hq
          have := hno j q (by rw [List.length_map]; exact (List.getElem?_eq_some_iff.mp hj).1) hj
          rw [this]
          decide
        unfold putM
        rw [hf]
        rfl
      have := k _ (Same.refl _)
      rw [ep] at this
      exact this
end
end U
set_option maxRecDepth 100000
set_option maxHeartbeats 4000000
namespace U
open PySem PySem.Spec PyProof.Rows
open L2 hiding Fun CX0 E0 pass0 Fun.binds
open C8 Lx SX StX
theorem sf_at {ps : List Addr} {kb : Addr → Stf} {i : Nat} {q : Addr} (h : SufFree (ps.map kb)) (hq : ps[i]? = some q) : ∀ q' ∈ ps.take i ++ ps.drop (i + 1), ¬ (kb q').1 <:+ (kb q).1 := by
  obtain ⟨hi, rfl⟩ := List.getElem?_eq_some_iff.mp hq
  have e : ps = ps.take i ++ ps[i] :: ps.drop (i + 1) := by rw [← List.drop_eq_getElem_cons hi, List.take_append_drop]
  unfold SufFree at h
  rw [List.pairwise_map] at h
  generalize ps.take i = A at e ⊢
  generalize ps.drop (i + 1) = B at e ⊢
  generalize ps[i] = q at e ⊢
  rw [e, List.pairwise_append, List.pairwise_cons] at h
  obtain ⟨_, ⟨h2, _⟩, h3⟩ := h
  intro q' hq'
  rcases List.mem_append.mp hq' with m | m
  · exact (h3 q' m q List.mem_cons_self).1
  · exact (h2 q' m).2
theorem cut_to {xs : List V} {i : Nat} (h : i < xs.length) : cutV xs none (some (i : Int)) = xs.take i := by
  unfold cutV
  rw [HT.sIx_none, HT.sIx_nat, List.drop_zero, Nat.sub_zero, Nat.min_eq_left (Nat.le_of_lt h)]
theorem cut_from {xs : List V} {i : Nat} (h : i < xs.length) : cutV xs (some ((i : Int) + 1)) none = xs.drop (i + 1) := by
  unfold cutV
  rw [HT.sIx_none, show ((i : Int) + 1) = ((i + 1 : Nat) : Int) by omega, HT.sIx_nat, Nat.min_eq_left (by omega), List.take_of_length_le (by rw [List.length_drop]; omega)]
structure StOk (ss : List Stf) : Prop where
  few : ss.length ≤ 1000
  pos : ∀ s ∈ ss, s.1 ≠ []
  long : longM ss ≤ 9
  free : SufFree ss
theorem StOk.l9 {ss : List Stf} (h : StOk ss) : ∀ s ∈ ss, s.1.length ≤ 9 := fun s hs => Nat.le_trans (longM_le hs) h.long
theorem StOk.perm {ss ts : List Stf} (h : StOk ss) (p : ss.Perm ts) : StOk ts := ⟨by rw [← p.length_eq]; exact h.few, fun s hs => h.pos s (p.mem_iff.mpr hs), by rw [← longM_perm p]; exact h.long, h.free.perm p⟩
def spAre (K : PySem.W.Frag) : Sp := fun vs H Q _ => ∃ (a : Addr) (ps : List Addr) (kb : Addr → Stf), vs = [.ref a] ∧ Sq K H a (ps.map V.ref) ∧ StV H kb ps ∧ StOk (ps.map kb) ∧ ∀ H', Same H H' → Q (.bl true) H'
def spPutIn (C : Addr) : Sp := fun vs H Q _ => ∃ (a : Addr) (f : List Bool) (ss : List Stf) (l x : List Bool), vs = [.ref a, .str (W l)] ∧ RuAt C H a f ss ∧ ss.length ≤ 1000 ∧ longM ss ≤ 9 ∧ l.length ≤ 50000 ∧ Ins ss l x ∧ ∀ H', Same H H' → Q (.str (W x)) H'
def spEndless (C : Addr) : Sp := fun vs H Q _ => ∃ (a : Addr) (f : List Bool) (ss : List Stf), vs = [.ref a] ∧ RuAt C H a f ss ∧ ss.length ≤ 1000 ∧ longM ss ≤ 9 ∧ OkR ss ∧ ∀ H', Same H H' → Q (.bl false) H'
def kst (ws : List (List Bool)) : List (Key × V) := ws.map fun w => (Sum.inr (W w), V.bl true)
theorem val_in {ws : List (List Bool)} {w : List Bool} (h : w ∈ ws) : valV (kst ws) (Sum.inr (W w)) = some (.bl true) := by
  unfold valV kst
  induction ws with
  | nil => cases h
  | cons x r ih =>
    rw [List.map_cons, List.find?_cons]
    by_cases e : x = w
    · rw [e, decide_eq_true rfl]; rfl
    · rw [decide_eq_false (fun z => e (W_inj (Sum.inr.inj z)))]
      rcases List.mem_cons.mp h with z | h
      · exact absurd z.symm e
      · exact ih h
theorem val_out {ws : List (List Bool)} {w : List Bool} (h : ¬ w ∈ ws) : valV (kst ws) (Sum.inr (W w)) = none := by
  unfold valV kst
  have : (ws.map fun w => ((Sum.inr (W w) : Key), V.bl true)).find? (fun kv => decide (kv.1 = Sum.inr (W w))) = none := by
    rw [List.find?_eq_none]
    intro kv hk
    obtain ⟨x, hx, rfl⟩ := List.mem_map.mp hk
    rw [decide_eq_true_eq]
    intro z
    exact h (W_inj (Sum.inr.inj z) ▸ hx)
  rw [this]
  rfl
theorem put_out {ws : List (List Bool)} {w : List Bool} (h : ¬ w ∈ ws) : putK (kst ws) (Sum.inr (W w)) (.bl true) = kst (ws ++ [w]) := by
  have e : ((kst ws).any fun kv => decide (kv.1 = Sum.inr (W w))) = false := by
    rw [List.any_eq_false]
    intro kv hk
    unfold kst at hk
    obtain ⟨x, hx, rfl⟩ := List.mem_map.mp hk
    rw [decide_eq_true_eq]
    intro z
    exact h (W_inj (Sum.inr.inj z) ▸ hx)
  unfold putK
  rw [e]
  unfold kst
  rw [List.map_append]
  rfl
section
variable {P : Program} {w : World} {K : PySem.W.Frag} {mg : Str → Option Value} {base : Heap}
theorem sc_are_stuffs : FnScope ["value", "one", "at", "stuff", "rest", "pattern", "bit"] ["value"] (fnScope s_are_stuffs) := fnScope_by (by decide +kernel)
theorem cal_are_stuffs {f : Addr} {fd : FuncData} (F : Def K mg "are_stuffs" s_are_stuffs f fd) (b : Binds K fd ["value"] []) (T : Tx mg) (c_is_sequence : Cal P w K mg base 1 "is_sequence" (spIsSeq K) []) (c_is_stuff : Cal P w K mg base 3 "is_stuff" spIsStuff []) : Cal P w K mg base 4 "are_stuffs" (spAre K) [] := by
  refine cal0 F b .nil sc_are_stuffs (fun vs H Q E h => ?_) (fun cdv A outer s H vs Q E hr h => ?_)
  · obtain ⟨_, _, _, rfl, _⟩ := h; rfl
  · obtain ⟨a, ps, kb, rfl, hS, hs, ok, k⟩ := h
    refine ⟨_, (pss_cons (ps_if (PW.pt (pw_or (pt_not (pt_val (pe_c c_is_sequence hr (by decide) rfl (pa_cons (pv 0) pa_nil)))) (pw_or1 (pt_not (pt_val (pe_callB (cr_all rfl) (by rfl) T.b_all (by decide +kernel) (pa_cons (pe_lc (own := [("one", 1)]) (g := gName 1) (by rfl) sc_are_stuffs.nd (pi_seq (pv 0)) (blkOk_by (own := [("one", 1)]) (N := ["value", "one", "at", "stuff", "rest", "pattern", "bit"]) (sc := fnScope s_are_stuffs) (by decide +kernel)) (fun _ _ _ _ _ => (pg_name (i := 1) sc_are_stuffs.nd rfl (.inl rfl))) (fun _ _ _ _ _ => pts_nil) (fun _ _ _ _ _ => (pe_c c_is_stuff hr (by decide) rfl (pa_cons (pv 1) pa_nil)))) pa_nil))))))) (pss_one (ps_ret pe_bl)) pss_nil)
    (pss_cons (ps_for PassesOwn.never rfl (pi_enumQ (by rfl) T.b_enumerate (pa_cons (pv 0) pa_nil)) (pg_tup rfl (pgs_cons (pg_name (i := 2) sc_are_stuffs.nd rfl (.inl rfl)) (pgs_cons (pg_name (i := 3) sc_are_stuffs.nd rfl (.inr rfl)) pgs_nil)))
    (pss_cons (ps_set (i := 4) sc_are_stuffs.nd rfl (.inl rfl) (pe_lst (pa_star (pe_slice (SlR.or sl_list sl_tupA) (pv 0) po_none (po_some (pv 2))) (pa_star (pe_slice (SlR.or sl_list sl_tupA) (pv 0) (po_some (pe_op op_add (pv 2) pe_int)) po_none) pa_nil))))
    (pss_one (ps_if (pt_val (pe_callB (cr_any rfl) (by rfl) T.b_any (by decide +kernel) (pa_cons (pe_lc (own := [("pattern", 5), ("bit", 6)]) (g := gTup K 2 (gCons (gName 5) (gCons (gName 6) gNil))) (by rfl) sc_are_stuffs.nd (pi_list (pv 4)) (blkOk_by (own := [("pattern", 5), ("bit", 6)]) (N := ["value", "one", "at", "stuff", "rest", "pattern", "bit"]) (sc := fnScope s_are_stuffs) (by decide +kernel)) (fun _ _ _ _ _ => (pg_tup rfl (pgs_cons (pg_name (i := 5) sc_are_stuffs.nd rfl (.inl rfl)) (pgs_cons (pg_name (i := 6) sc_are_stuffs.nd rfl (.inl rfl)) pgs_nil)))) (fun _ _ _ _ _ => pts_nil) (fun _ _ _ _ _ => (pe_m1 PySem.F.slot_str_endswith PySem.F.type_str_endswith mt_endswith (pe_ix (show IxR _ (rIxT K) from ix_tup) (pv 3) pe_int (fun _ _ => rfl)) (pv 5)))) pa_nil))) (pss_one (ps_ret pe_bl)) pss_nil))))
    (pss_one (ps_ret pe_bl)))), ?_⟩
    have hn : ps.length ≤ 1000 := by have := ok.few; rw [List.length_map] at this; exact this
    refine ⟨_, rfl, a, _, rfl, hS, fun H1 s1 => ⟨_, rfl, ?_⟩⟩
    have hS1 := hS.same s1
    refine iSeq_var rfl hS1 fun J G hG wk D nD => ?_
    refine lc_it wk (fun i H2 => Same H1 H2 ∧ H2 D = some (.lst ((List.replicate i true).map V.bl))) ⟨same_upd nD, upd_same⟩ (fun i H2 _ h2 => hG _ h2.1) ?_ ?_
    · rintro i x H2 H3 hi ⟨s2, hD⟩ ⟨rfl, hx⟩
      rw [List.getElem?_map] at hx
      obtain ⟨q, hq, rfl⟩ := Option.map_eq_some_iff.mp hx
      have hqm : q ∈ ps := List.mem_of_getElem? hq
      have mk : kb q ∈ ps.map kb := List.mem_map_of_mem hqm
      rw [List.length_map] at hi
      refine ⟨rfl, ?_⟩
      refine ⟨_, rfl, q, (kb q).1, (kb q).2, rfl, (s1.trans s2) _ _ (hs q hqm), ok.pos _ mk, Nat.le_trans (ok.l9 _ mk) (by decide), fun H4 s4 => ⟨_, s4 _ _ hD, ?_, ?_, ?_⟩⟩
      · rw [List.length_map, List.length_replicate]; exact sl_lt (by omega)
      · intro c' o e
        rw [upd_ne (ne_of_none e nD)]
        exact (s2.trans s4) _ _ e
      · rw [upd_same, List.replicate_succ', List.map_append]; rfl
    · rintro H2 ⟨s2, hD⟩
      refine ⟨D, _, rfl, SqL.of hD, _, rfl, ?_⟩
      have et : (List.replicate (ps.map V.ref).length true).all id = true := by simp
      rw [et]
      have hS2 := hS1.same s2
      have s02 := s1.trans s2
      refine iEnumQ_var rfl hS2 fun J G hG wk => ?_
      refine for_it wk (fun i σ H3 => ∃ v1 v2 v3 v4 v5 v6 : Option V, σ = [some (.ref a), v1, v2, v3, v4, v5, v6] ∧ Same H2 H3) ⟨none, none, none, none, none, none, rfl, Same.refl _⟩ (fun i σ H3 _ h3 => by obtain ⟨_, _, _, _, _, _, _, s3⟩ := h3; exact hG _ s3) ?_ ?_
      · rintro i x σ H3 H4 hi ⟨v1, v2, v3, v4, v5, v6, rfl, s3⟩ ⟨T', y1, y2, rfl, nT, rfl, h1, h2⟩
        cases h1
        replace h2 : (ps.map V.ref)[i]? = some y2 := h2
        rw [List.getElem?_map] at h2
        obtain ⟨q, hq, rfl⟩ := Option.map_eq_some_iff.mp h2
        have hqm : q ∈ ps := List.mem_of_getElem? hq
        refine ⟨T', _, rfl, SqT.of upd_same, rfl, _, _, rfl, _, _, rfl, rfl, ?_⟩
        have s4 : Same H2 (upd H3 T' (.tup [.int (i : Nat), .ref q])) := s3.trans (same_upd nT)
        generalize upd H3 T' (.tup [.int (i : Nat), .ref q]) = H4 at s4
        have hS4 := hS2.same s4
        refine ⟨_, rfl, _, rfl, _, rfl, slQ_of hS4 fun p1 H5 s5 h5 => ⟨p1, _, rfl, h5.star, ?_⟩⟩
        refine ⟨_, rfl, _, rfl, _, _, rfl, rfl, _, rfl, slQ_of (hS4.same s5) fun p2 H6 s6 h6 => ⟨p2, _, rfl, h6.star, ?_⟩⟩
        have el : cutV (ps.map V.ref) none (some ((i : Nat) : Int)) ++ (cutV (ps.map V.ref) (some (((i : Nat) : Int) + 1)) none ++ []) = (ps.take i ++ ps.drop (i + 1)).map V.ref := by
          rw [cut_to hi, cut_from hi, List.append_nil, List.map_append, List.map_take, List.map_drop]
        refine ⟨?_, fun R nR => ?_⟩
        · show (cutV (ps.map V.ref) none (some ((i : Nat) : Int)) ++ (cutV (ps.map V.ref) (some (((i : Nat) : Int) + 1)) none ++ [])).length ≤ sizeLine
          rw [el, List.length_map, List.length_append, List.length_take, List.length_drop]
          exact sl_len (by omega)
        · have hR : upd H6 R (.lst (cutV (ps.map V.ref) none (some ((i : Nat) : Int)) ++ (cutV (ps.map V.ref) (some (((i : Nat) : Int) + 1)) none ++ []))) R = some (.lst ((ps.take i ++ ps.drop (i + 1)).map V.ref)) := by rw [upd_same, el]
          have s7 : Same H2 (upd H6 R (.lst (cutV (ps.map V.ref) none (some ((i : Nat) : Int)) ++ (cutV (ps.map V.ref) (some (((i : Nat) : Int) + 1)) none ++ [])))) := ((s4.trans s5).trans s6).trans (same_upd nR)
          show gName 4 _ _ (upd H6 R (.lst (cutV (ps.map V.ref) none (some ((i : Nat) : Int)) ++ (cutV (ps.map V.ref) (some (((i : Nat) : Int) + 1)) none ++ [])))) _
          generalize upd H6 R (.lst (cutV (ps.map V.ref) none (some ((i : Nat) : Int)) ++ (cutV (ps.map V.ref) (some (((i : Nat) : Int) + 1)) none ++ []))) = H7 at hR s7 ⊢
          refine ⟨_, rfl, R, rfl, ⟨_, SqL.of hR⟩, fun D2 nD2 => ?_⟩
          have ne := sf_at ok.free hq
          have hlen : (ps.take i ++ ps.drop (i + 1)).length ≤ 1000 := by
            rw [List.length_append, List.length_take, List.length_drop]; omega
          have hsub : ∀ q' ∈ ps.take i ++ ps.drop (i + 1), q' ∈ ps := fun q' hq' => by
            rcases List.mem_append.mp hq' with m | m
            · exact List.mem_of_mem_take m
            · exact List.mem_of_mem_drop m
          generalize ps.take i ++ ps.drop (i + 1) = rs at hR ne hlen hsub
          refine lc_it (walk_list (xs := rs.map V.ref)) (fun j H8 => Same H7 H8 ∧ H8 D2 = some (.lst ((List.replicate j false).map V.bl))) ⟨same_upd nD2, upd_same⟩ (fun j H8 _ h8 => h8.1.seq (SqL.of hR)) ?_ ?_
          · rintro j x H8 H9 hj ⟨s8, hD2⟩ ⟨rfl, hx⟩
            rw [List.getElem?_map] at hx
            obtain ⟨q', hq', rfl⟩ := Option.map_eq_some_iff.mp hx
            have hm' : q' ∈ rs := List.mem_of_getElem? hq'
            rw [List.length_map] at hj
            have s28 := s02.trans (s7.trans s8)
            refine ⟨q', _, rfl, SqT.of (s28 _ _ (hs q' (hsub _ hm'))), rfl, _, _, rfl, _, _, rfl, rfl, rfl, ?_⟩
            refine ⟨_, rfl, q, _, 0, _, rfl, rfl, SqT.of (s28 _ _ (hs q hqm)), rfl, ⟨_, rfl⟩, _, rfl, _, _, rfl, rfl, _, hD2, ?_, ?_, ?_⟩
            · rw [List.length_map, List.length_replicate]; exact sl_lt (by omega)
            · intro c' o e
              rw [upd_ne (ne_of_none e nD2)]
              exact s8 _ _ e
            · have ef : Txt.endswith (W (kb q).1) (W (kb q').1) = false := by
                rw [W_ends]
                cases e : (kb q').1.isSuffixOf (kb q).1 with
                | false => rfl
                | true => exact absurd (List.isSuffixOf_iff_suffix.mp e) (ne q' hm')
              rw [upd_same, ef, List.replicate_succ', List.map_append]
              rfl
          · rintro H8 ⟨s8, hD2⟩
            refine ⟨D2, _, rfl, SqL.of hD2, _, rfl, ?_⟩
            have et : (List.replicate (rs.map V.ref).length false).any id = false := by simp
            rw [et]
            exact ⟨_, _, _, _, _, _, rfl, s7.trans s8⟩
      · rintro σ H3 ⟨v1, v2, v3, v4, v5, v6, rfl, s3⟩
        exact k H3 (s02.trans s3)
end
end U
set_option maxRecDepth 100000
set_option maxHeartbeats 4000000
namespace U
open PySem PySem.Spec PyProof.Rows
open L2 hiding Fun CX0 E0 pass0 Fun.binds
open C8 Lx SX StX
theorem p10 {n : Nat} (h : n ≤ 9) : 2 ^ (n + 1) ≤ 1024 := Nat.le_trans (Nat.pow_le_pow_right (by decide) (show n + 1 ≤ 10 by omega)) (by decide)
section
variable {P : Program} {w : World} {K : PySem.W.Frag} {mg : Str → Option Value} {base : Heap}
theorem sc_Rule_put_in : FnScope ["self", "line", "found", "known", "bit", "standing"] ["self", "line"] (fnScope s_Rule_put_in) := fnScope_by (by decide +kernel)
theorem met_put_in {f C : Addr} {fd : FuncData} (F : C8.Fun K "put_in" "Rule.put_in" s_Rule_put_in f fd) (me : Meth K C "put_in" f) (b : Binds K fd ["self", "line"] []) (T : Tx mg) (RT : RuT K C)
    (c_put : Met P w K mg base 1 C "put" (spPut C) []) (p_longest : Prp P w K mg base 1 C "longest" (spLongest C)) (c_tail : Cal P w K mg base 1 "tail" spTail []) : Met P w K mg base 3 C "put_in" (spPutIn C) [] := by
  refine met0 RT.cl me F b sc_Rule_put_in (fun vs H Q E h => ?_) (fun cdv A outer s H vs Q E hr h => ?_)
  · obtain ⟨_, _, _, _, _, rfl, _⟩ := h; rfl
  · obtain ⟨a, fl, ss, l, x, rfl, hR, hn, h9, hl, hI, k⟩ := h
    refine ⟨_, (pss_cons (ps_par (i := 2) (j := 3) (by rfl) sc_Rule_put_in.nd rfl rfl (by decide) rfl rfl (pa_cons pe_str (pa_cons pe_dnewK pa_nil)) (by rfl))
    (pss_cons (ps_set (i := 4) sc_Rule_put_in.nd rfl (.inl rfl) (pe_mt (pl := _) c_put hr (by decide) (pv 0) (pa_cons (pv 1) pa_nil)))
    (pss_cons (ps_while PassesOwn.never (pt_cmpR op_notN (pv 4) pe_non (nomark _))
    (pss_cons (ps_set (i := 5) sc_Rule_put_in.nd rfl (.inl rfl) (pe_c c_tail hr (by decide) rfl (pa_cons (pe_op op_add_str (pv 1) (pv 2)) (pa_cons (pe_pr p_longest hr (by decide) (pv 0)) pa_nil))))
    (pss_cons (ps_if (pt_cmp (pc_din (hu_of hr) (pv 5) (pv 3))) (pss_one (ps_ret pe_non)) pss_nil)
    (pss_cons (ps_dput (hu_of hr) (pv 3) (pv 5) pe_bl rfl)
    (pss_cons (ps_aug (i := 2) sc_Rule_put_in.nd rfl (.inl rfl) (pv 4) iop_add_str)
    (pss_one (ps_set (i := 4) sc_Rule_put_in.nd rfl (.inl rfl) (pe_mt (pl := _) c_put hr (by decide) (pv 0) (pa_cons (pe_op op_add_str (pv 1) (pv 2)) pa_nil)))))))))
    (pss_one (ps_ret (pv 2)))))), ?_⟩
    have hL : ∀ s ∈ ss, s.1.length ≤ longM ss := fun s hs => longM_le hs
    have hx : x.length ≤ 1024 := by have := hI.len hL; have := p10 h9; omega
    have hat : ∀ {H2 : Hp}, Same H H2 → ∃ dx t, H2 a = some (.ins C dx (ruF fl t)) := fun s2 => by
      obtain ⟨dx, t, _, _, ha, _⟩ := hR.same s2
      exact ⟨dx, t, ha⟩
    refine fun D nD => ⟨_, _, rfl, ?_⟩
    have s1 : Same H (upd H D (.dK [])) := same_upd nD
    have hD1 : upd H D (.dK []) D = some (.dK []) := upd_same
    generalize upd H D (.dK []) = H1 at s1 hD1
    obtain ⟨dx, t, ha⟩ := hat s1
    refine ⟨_, rfl, a, dx, _, rfl, ha, ruF_no _ _ (by decide +kernel) (by decide +kernel), _, rfl, a, fl, ss, l, rfl, hR.same s1, fun H2 s2 => ?_⟩
    refine ⟨fun m σ H3 => ∃ (j : Nat) (v5 : Option V), j + m = x.length ∧ σ = [some (.ref a), some (.str (W l)), some (.str (W (x.take j))), some (.ref D), some (oB (putM ss (l ++ x.take j))), v5] ∧ Same H H3 ∧ H3 D = some (.dK (kst ((List.range j).map fun i => tl (longM ss) (l ++ x.take i)))),
      ⟨x.length, 0, none, by omega, by rw [List.take_zero, List.append_nil, ← W_nil]; rfl, s1.trans s2, s2 _ _ hD1⟩, ?_⟩
    rintro m σ H3 ⟨j, v5, hj, rfl, s3, hD3⟩
    refine ⟨_, rfl, rfl, _, rfl, ?_⟩
    rw [oB_non]
    by_cases hlt : j < x.length
    · have hb : x[j]? = some x[j] := List.getElem?_eq_getElem hlt
      have hput := hI.at hb
      rw [hput]
      have lx : (x.take j).length ≤ 1024 := by rw [List.length_take]; omega
      have e1 : (W l).length = l.length := W_len l
      have e2 : (W (x.take j)).length = (x.take j).length := W_len _
      refine ⟨fun σ' H' => ∃ m', m' < m ∧ ∃ (j : Nat) (v5 : Option V), j + m' = x.length ∧ σ' = [some (.ref a), some (.str (W l)), some (.str (W (x.take j))), some (.ref D), some (oB (putM ss (l ++ x.take j))), v5] ∧ Same H H' ∧ H' D = some (.dK (kst ((List.range j).map fun i => tl (longM ss) (l ++ x.take i)))), fun _ _ h => h, ?_⟩
      obtain ⟨dx3, t3, ha3⟩ := hat s3
      refine ⟨_, rfl, _, rfl, _, _, rfl, rfl, by rw [e1, e2]; exact sl_len (by omega), _, rfl, a, dx3, _, rfl, ha3, a, fl, ss, rfl, hR.same s3, hn, fun s hs => Nat.le_trans (longM_le hs) (by omega), fun H4 s4 => ?_⟩
      refine ⟨l ++ x.take j, longM ss, by rw [← W_cat]; rfl, by rw [List.length_append]; omega, ?_⟩
      have hD4 := s4 _ _ hD3
      have nin : ¬ tl (longM ss) (l ++ x.take j) ∈ (List.range j).map fun i => tl (longM ss) (l ++ x.take i) := fun hm => by
        obtain ⟨i, hi, e⟩ := List.mem_map.mp hm
        have hi' := List.mem_range.mp hi
        have := hI.apart hL (Nat.le_of_lt (Nat.lt_trans hi' hlt)) (Nat.le_of_lt hlt) e
        omega
      refine ⟨_, rfl, _, rfl, D, _, rfl, DGet.k (k := .inr (W (tl (longM ss) (l ++ x.take j)))) hD4, _, rfl, iteBF (by rw [val_out nin]; rfl) ?_⟩
      refine ⟨_, rfl, _, rfl, D, _, rfl, DPut.k (k := .inr (W (tl (longM ss) (l ++ x.take j)))) hD4 (by unfold kst; rw [List.length_map, List.length_map, List.length_range]; exact sl_lt (by omega)), ?_⟩
      rw [put_out nin]
      have et : x.take (j + 1) = x.take j ++ [x[j]] := by rw [List.take_add_one, hb]; rfl
      have ek : ((List.range j).map fun i => tl (longM ss) (l ++ x.take i)) ++ [tl (longM ss) (l ++ x.take j)] = (List.range (j + 1)).map fun i => tl (longM ss) (l ++ x.take i) := by
        rw [List.range_succ, List.map_append]; rfl
      rw [ek]
      have s5 : Same H (upd H4 D (.dK (kst ((List.range (j + 1)).map fun i => tl (longM ss) (l ++ x.take i))))) := fun c o e => by
        rw [upd_ne (ne_of_none e nD)]
        exact (s3.trans s4) _ _ e
      have hD5 : upd H4 D (.dK (kst ((List.range (j + 1)).map fun i => tl (longM ss) (l ++ x.take i)))) D = some (.dK (kst ((List.range (j + 1)).map fun i => tl (longM ss) (l ++ x.take i)))) := upd_same
      generalize upd H4 D (.dK (kst ((List.range (j + 1)).map fun i => tl (longM ss) (l ++ x.take i)))) = H5 at s5 hD5
      have e3 : (W [x[j]]).length = 1 := W_len _
      refine ⟨_, rfl, _, rfl, _, _, rfl, rfl, by rw [e2, e3]; exact sl_len (by omega), ?_⟩
      rw [W_cat, ← et]
      have e4 : (W (x.take (j + 1))).length = (x.take (j + 1)).length := W_len _
      obtain ⟨dx5, t5, ha5⟩ := hat s5
      refine ⟨_, rfl, a, dx5, _, rfl, ha5, ruF_no _ _ (by decide +kernel) (by decide +kernel), _, rfl, _, rfl, _, _, rfl, rfl, by rw [e1, e4, et, List.length_append]; exact sl_len (by simp only [List.length_cons, List.length_nil]; omega), ?_⟩
      refine ⟨a, fl, ss, l ++ x.take (j + 1), by rw [← W_cat]; rfl, hR.same s5, fun H6 s6 => ?_⟩
      exact ⟨m - 1, by omega, j + 1, _, by omega, rfl, s5.trans s6, s6 _ _ hD5⟩
    · have hj' : j = x.length := by omega
      subst hj'
      rw [List.take_length, hI.end]
      exact ⟨_, rfl, k H3 s3⟩
end
end U
set_option maxRecDepth 100000
set_option maxHeartbeats 4000000
namespace U
open PySem PySem.Spec PyProof.Rows
open L2 hiding Fun CX0 E0 pass0 Fun.binds
open C8 Lx SX StX
structure Bfs (ss : List Stf) (H H2 : Hp) (q d : Addr) (ws : List (List Bool)) : Prop where
  same : Same H H2
  wait : H2 q = some (.lst (ws.map fun w => V.str (W w)))
  known : H2 d = some (.dK (kst ws))
  nodup : ws.Nodup
  short : ∀ w ∈ ws, w.length ≤ longM ss
  reach : ∀ w ∈ ws, ∃ l, Reach ss l ∧ tl (longM ss) l = w
theorem Bfs.on {ss : List Stf} {H H2 H3 : Hp} {q d : Addr} {ws : List (List Bool)} (b : Bfs ss H H2 q d ws) (s : Same H2 H3) : Bfs ss H H3 q d ws :=
  ⟨b.same.trans s, s _ _ b.wait, s _ _ b.known, b.nodup, b.short, b.reach⟩
theorem Bfs.few {ss : List Stf} {H H2 : Hp} {q d : Addr} {ws : List (List Bool)} (b : Bfs ss H H2 q d ws) : ws.length + 1 ≤ 2 ^ (longM ss + 1) := words_le b.nodup b.short
def key (s : Stf) : Str × Str := (W s.1, W [s.2])
def SortedS (ss : List Stf) : Prop := SrtO.Srtd (fun x y => SrT.lexT (key x) (key y)) ss
def spRuInit (K : PySem.W.Frag) (C : Addr) : Sp := fun vs H Q _ => ∃ (a dx s : Addr) (f : List Bool) (ps : List Addr) (kb : Addr → Stf), vs = [.ref a, .str (W f), .ref s] ∧ H a = some (.ins C dx []) ∧ Sq K H s (ps.map V.ref) ∧ StV H kb ps ∧ StOk (ps.map kb) ∧ OkR (ps.map kb) ∧ 2 ≤ f.length ∧ f.length ≤ 1000 ∧
  ∀ H' ss, (∀ b o, H b = some o → b ≠ a → H' b = some o) → ss.Perm (ps.map kb) → SortedS ss → RuAt C H' a f ss → Q .non H'
theorem pwS {qs : List Addr} {kb : Addr → Stf} (h : SrtO.Srtd (fun x y => SrT.lexT (key (kb x)) (key (kb y))) qs) : SortedS (qs.map kb) := List.pairwise_map.mpr h
section
variable {P : Program} {w : World} {K : PySem.W.Frag} {mg : Str → Option Value} {base : Heap}
theorem sc_Rule_is_endless : FnScope ["self", "waiting", "known", "at", "bit", "line", "more", "standing"] ["self"] (fnScope s_Rule_is_endless) := fnScope_by (by decide +kernel)
theorem met_is_endless {f C : Addr} {fd : FuncData} {tB : Tok} (F : C8.Fun K "is_endless" "Rule.is_endless" s_Rule_is_endless f fd) (me : Meth K C "is_endless" f) (b : Binds K fd ["self"] []) (T : Tx mg) (RT : RuT K C) (g_BITS : mg "BITS" = some (.str "01" tB))
    (c_put_in : Met P w K mg base 3 C "put_in" (spPutIn C) []) (p_longest : Prp P w K mg base 1 C "longest" (spLongest C)) (c_tail : Cal P w K mg base 1 "tail" spTail []) : Met P w K mg base 4 C "is_endless" (spEndless C) [] := by
  refine met0 RT.cl me F b sc_Rule_is_endless (fun vs H Q E h => ?_) (fun cdv A outer s H vs Q E hr h => ?_)
  · obtain ⟨_, _, _, rfl, _⟩ := h; rfl
  · obtain ⟨a, fl, ss, rfl, hR, hn, h9, hO, k⟩ := h
    refine ⟨_, (pss_cons (ps_par3 (i := 1) (j := 2) (l := 3) (by rfl) sc_Rule_is_endless.nd rfl rfl rfl (by decide) (by decide) (by decide) rfl rfl rfl (pa_cons (pe_lst (pa_cons pe_str pa_nil)) (pa_cons (pe_disp (pps_cons pe_str pe_bl pps_nil) (by rfl) (by rfl) (fun z => by cases z) (by decide)) (pa_cons pe_int pa_nil))) (by rfl))
    (pss_cons (ps_while PassesOwn.never (pt_cmpR op_lt (pv 3) (pe_callB call_len_seq (by rfl) T.b_len (by decide +kernel) (pa_cons (pv 1) pa_nil)) (nomark _))
    (pss_cons (ps_for PassesOwn.never rfl (pi_str (pe_glob (v := .str "01") (by rfl) g_BITS ⟨_, rfl⟩)) (pg_name (i := 4) sc_Rule_is_endless.nd rfl (.inl rfl))
    (pss_cons (ps_set (i := 5) sc_Rule_is_endless.nd rfl (.inl rfl) (pe_op op_add_str (pe_ix ix_list (pv 1) (pv 3) (fun _ _ => rfl)) (pv 4)))
    (pss_cons (ps_set (i := 6) sc_Rule_is_endless.nd rfl (.inl rfl) (pe_mt (pl := _) c_put_in hr (by decide) (pv 0) (pa_cons (pv 5) pa_nil)))
    (pss_cons (ps_if (pt_cmpR op_isN (pv 6) pe_non (nomark _)) (pss_one (ps_ret pe_bl)) pss_nil)
    (pss_cons (ps_set (i := 7) sc_Rule_is_endless.nd rfl (.inl rfl) (pe_c c_tail hr (by decide) rfl (pa_cons (pe_op op_add_str (pv 5) (pv 6)) (pa_cons (pe_pr p_longest hr (by decide) (pv 0)) pa_nil))))
    (pss_one (ps_if (pt_cmp (pc_dnotin (hu_of hr) (pv 7) (pv 2))) (pss_cons (ps_dput (hu_of hr) (pv 2) (pv 7) pe_bl rfl)
    (pss_one (ps_expr (pe_bm PySem.F.plainAttrs_list PySem.F.slot_list_append PySem.F.type_list_append mt_append (pv 1) (pa_cons (pv 7) pa_nil))))) pss_nil)))))))
    (pss_one (ps_aug (i := 3) sc_Rule_is_endless.nd rfl (.inl rfl) pe_int ip_add))))
    (pss_one (ps_ret pe_bl)))), ?_⟩
    have hL : ∀ s ∈ ss, s.1.length ≤ longM ss := fun s hs => longM_le hs
    have hpw := p10 h9
    have hat : ∀ {H2 : Hp}, Same H H2 → ∃ dx t, H2 a = some (.ins C dx (ruF fl t)) := fun s2 => by
      obtain ⟨dx, t, _, _, ha, _⟩ := hR.same s2
      exact ⟨dx, t, ha⟩
    refine ⟨by show 1 ≤ sizeLine; decide, fun q nq d nd => ⟨upd_same, [(.inr "", .bl true)], rfl, by decide, _, _, _, rfl, ?_⟩⟩
    have nqd : q ≠ d := fun z => by rw [← z, upd_same] at nd; cases nd
    have b0 : Bfs ss H (upd (upd (upd H q (.lst [.str ""])) d (.dK [])) d (.dK (mergeK [] [(.inr "", .bl true)]))) q d [[]] := by
      refine ⟨fun c o e => ?_, ?_, ?_, ?_, ?_, ?_⟩
      · have n1 := ne_of_none e nq
        have n2 : c ≠ d := fun z => by rw [z] at e n1; rw [upd_ne n1, e] at nd; cases nd
        rw [upd_ne n2, upd_ne n2, upd_ne n1]
        exact e
      · rw [upd_ne nqd, upd_ne nqd, upd_same, W_nil]; rfl
      · rw [upd_same, W_nil]; rfl
      · simp
      · intro w hw; rw [List.mem_singleton.mp hw]; exact Nat.zero_le _
      · intro w hw; rw [List.mem_singleton.mp hw]; exact ⟨[], .nil, by unfold tl; rw [List.drop_nil]⟩
    have nq0 : H q = none := nq
    have nd0 : H d = none := by
      cases e : H d with
      | none => rfl
      | some o => rw [upd_ne (Ne.symm nqd), e] at nd; cases nd
    generalize upd (upd (upd H q (.lst [.str ""])) d (.dK [])) d (.dK (mergeK [] [(.inr "", .bl true)])) = H1 at b0
    refine ⟨fun m σ H2 => ∃ (n : Nat) (ws : List (List Bool)) (v4 v5 v6 v7 : Option V), σ = [some (.ref a), some (.ref q), some (.ref d), some (.int n), v4, v5, v6, v7] ∧ Bfs ss H H2 q d ws ∧ n ≤ ws.length ∧ m + n = 2 ^ (longM ss + 1),
      ⟨2 ^ (longM ss + 1), 0, [[]], none, none, none, none, rfl, b0, Nat.zero_le _, by omega⟩, ?_⟩
    rintro m σ H2 ⟨n, ws, v4, v5, v6, v7, rfl, B2, hn2, hm⟩
    have few2 := B2.few
    refine ⟨_, rfl, _, rfl, q, _, rfl, .inl (SqL.of B2.wait), _, _, rfl, rfl, _, rfl, ?_⟩
    rw [List.length_map]
    by_cases hlt : n < ws.length
    · refine iteDT (by omega) ?_
      refine ⟨fun σ' H' => ∃ m', m' < m ∧ ∃ (n : Nat) (ws : List (List Bool)) (v4 v5 v6 v7 : Option V), σ' = [some (.ref a), some (.ref q), some (.ref d), some (.int n), v4, v5, v6, v7] ∧ Bfs ss H H' q d ws ∧ n ≤ ws.length ∧ m' + n = 2 ^ (longM ss + 1), fun _ _ h => h, ?_⟩
      refine ⟨_, rfl, for_it walk_str (fun i σ H3 => ∃ (ws : List (List Bool)) (v4 v5 v6 v7 : Option V), σ = [some (.ref a), some (.ref q), some (.ref d), some (.int n), v4, v5, v6, v7] ∧ Bfs ss H H3 q d ws ∧ n < ws.length) ⟨ws, _, _, _, _, rfl, B2, hlt⟩ (fun _ _ _ _ _ => trivial) ?_ ?_⟩
      · rintro i x σ H3 H3' hi ⟨ws, v4, v5, v6, v7, rfl, B3, hlt3⟩ ⟨rfl, c, hc, rfl⟩
        have e01 : ("01" : Str) = W [false, true] := by decide +kernel
        rw [e01] at hc
        obtain ⟨bb, _, rfl⟩ := W_get hc
        have hw : (ws.map fun w => V.str (W w))[n]? = some (.str (W ws[n])) := by rw [List.getElem?_map, List.getElem?_eq_getElem hlt3]; rfl
        have hmem : ws[n] ∈ ws := List.getElem_mem hlt3
        generalize ws[n] = w0 at hw hmem
        have hs0 := B3.short _ hmem
        have few3 := B3.few
        obtain ⟨l0, hr0, rfl⟩ := B3.reach _ hmem
        obtain ⟨y, hy⟩ := hO l0 hr0 bb
        have ht0 : tl (longM ss) l0 = tl (longM ss) (tl (longM ss) l0) := (tl_tl (Nat.le_refl _) _).symm
        have hy' := hy.tl hL (tl_snoc (b := bb) ht0)
        have hyl := hy.len hL
        have hnx : tl (longM ss) (l0 ++ [bb] ++ y) = tl (longM ss) (tl (longM ss) l0 ++ [bb] ++ y) := tl_app (tl_snoc (b := bb) ht0) y
        have hrn : Reach ss (l0 ++ [bb] ++ y) := .next hr0 hy
        generalize tl (longM ss) l0 = w0 at *
        have ew : W w0 ++ (⟨#[bt bb]⟩ : Str) = W (w0 ++ [bb]) := W_cat w0 [bb]
        have el : (W w0).length + (⟨#[bt bb]⟩ : Str).length ≤ sizeLine := by
          have e1 : (W w0).length = w0.length := W_len _
          have e2 : (⟨#[bt bb]⟩ : Str).length = 1 := W_len [bb]
          rw [e1, e2]; exact sl_len (by omega)
        refine ⟨_, rfl, _, rfl, q, _, _, _, rfl, rfl, SqL.of B3.wait, atI_nat hw, _, rfl, _, _, rfl, rfl, el, ?_⟩
        rw [ew]
        obtain ⟨dx3, t3, ha3⟩ := hat B3.same
        have hl1 : (w0 ++ [bb]).length ≤ 10 := by rw [List.length_append, List.length_cons, List.length_nil]; omega
        refine ⟨_, rfl, a, dx3, _, rfl, ha3, ruF_no _ _ (by decide +kernel) (by decide +kernel), _, rfl, a, fl, ss, w0 ++ [bb], y, rfl, hR.same B3.same, hn, h9, by omega, hy', fun H4 s4 => ?_⟩
        have B4 := B3.on s4
        refine ⟨_, rfl, rfl, _, rfl, iteDF (fun z => by cases z) ?_⟩
        obtain ⟨dx4, t4, ha4⟩ := hat B4.same
        have e3 : (W (w0 ++ [bb])).length = (w0 ++ [bb]).length := W_len _
        have e4 : (W y).length = y.length := W_len _
        refine ⟨_, rfl, _, rfl, _, _, rfl, rfl, by rw [e3, e4]; exact sl_len (by omega), _, rfl, a, dx4, _, rfl, ha4, a, fl, ss, rfl, hR.same B4.same, hn, fun s hs => Nat.le_trans (longM_le hs) (by omega), fun H5 s5 => ?_⟩
        have B5 := B4.on s5
        refine ⟨w0 ++ [bb] ++ y, longM ss, by rw [← W_cat (w0 ++ [bb]) y]; rfl, by rw [List.length_append]; omega, ?_⟩
        refine ⟨_, rfl, _, rfl, d, _, rfl, DGet.k (k := .inr (W (tl (longM ss) (w0 ++ [bb] ++ y)))) B5.known, _, rfl, ?_⟩
        by_cases hin : tl (longM ss) (w0 ++ [bb] ++ y) ∈ ws
        · refine iteBF (by rw [val_in hin]; rfl) ?_
          exact ⟨ws, _, _, _, _, rfl, B5, hlt3⟩
        · refine iteBT (by rw [val_out hin]; rfl) ?_
          refine ⟨_, rfl, _, rfl, d, _, rfl, DPut.k (k := .inr (W (tl (longM ss) (w0 ++ [bb] ++ y)))) B5.known (by unfold kst; rw [List.length_map]; exact sl_lt (by omega)), ?_⟩
          rw [put_out hin]
          have hW6 : upd H5 d (.dK (kst (ws ++ [tl (longM ss) (w0 ++ [bb] ++ y)]))) q = some (.lst (ws.map fun w => V.str (W w))) := by rw [upd_ne nqd]; exact B5.wait
          refine ⟨_, rfl, .inl ⟨rfl, _, SqL.of hW6⟩, _, rfl, q, _, _, rfl, rfl, hW6, by rw [List.length_map]; exact sl_lt (by omega), ?_⟩
          refine ⟨ws ++ [tl (longM ss) (w0 ++ [bb] ++ y)], _, _, _, _, rfl, ⟨fun c o e => ?_, ?_, ?_, ?_, ?_, ?_⟩, ?_⟩
          · rw [upd_ne (ne_of_none e nq0), upd_ne (ne_of_none e nd0)]
            exact B5.same _ _ e
          · rw [upd_same, List.map_append]; rfl
          · rw [upd_ne (Ne.symm nqd), upd_same]
          · rw [List.nodup_append]
            refine ⟨B5.nodup, by simp, fun u hu v hv e => ?_⟩
            rw [List.mem_singleton.mp hv] at e
            exact hin (e ▸ hu)
          · intro u hu
            rcases List.mem_append.mp hu with m | m
            · exact B5.short _ m
            · rw [List.mem_singleton.mp m]; exact tl_le _ _
          · intro u hu
            rcases List.mem_append.mp hu with m | m
            · exact B5.reach _ m
            · rw [List.mem_singleton.mp m]; exact ⟨_, hrn, hnx⟩
          · rw [List.length_append]; omega
      · rintro σ H3 ⟨ws, v4, v5, v6, v7, rfl, B3, hlt3⟩
        refine ⟨_, rfl, _, _, rfl, rfl, ?_⟩
        refine ⟨m - 1, by omega, n + 1, ws, _, _, _, _, rfl, B3, hlt3, by omega⟩
    · refine iteDF (by omega) ?_
      exact k H2 B2.same
theorem sc_Rule_init : FnScope ["self", "flag", "stuffs"] ["self", "flag", "stuffs"] (fnScope s_Rule_init) := fnScope_by (by decide +kernel)
theorem ok_Rule_init {f C : Addr} {fd : FuncData} (F : C8.Fun K "__init__" "Rule.__init__" s_Rule_init f fd) (T : Tx mg) (RT : RuT K C) (c_is_word : Cal P w K mg base 1 "is_word" (spIsWord K) []) (c_are_stuffs : Cal P w K mg base 4 "are_stuffs" (spAre K) []) (c_is_endless : Met P w K mg base 4 C "is_endless" (spEndless C) []) :
    FnOk P w K mg base CX0 5 f fd ["self", "flag", "stuffs"] (spRuInit K C) := by
  refine fn0 F sc_Rule_init (fun vs H Q E h => ?_) (fun cdv A outer s H vs Q E hr h => ?_)
  · obtain ⟨_, _, _, _, _, _, rfl, _⟩ := h; rfl
  · obtain ⟨a, dx, sq, fl, ps, kb, rfl, ha, hS, hs, ok, hO, h2, hl, k⟩ := h
    refine ⟨_, (pss_cons (ps_if (PW.pt (pw_or (pt_not (pt_val (pe_c c_is_word hr (by decide) rfl (pa_cons (pv 1) pa_nil)))) (pw_or1 (pt_cmpR op_lt (pe_callB call_len_str (by rfl) T.b_len (by decide +kernel) (pa_cons (pv 1) pa_nil)) pe_int (nomark _))))) (pss_one ps_never) pss_nil)
    (pss_cons (ps_if (pt_not (pt_val (pe_c c_are_stuffs hr (by decide) rfl (pa_cons (pv 2) pa_nil)))) (pss_one ps_never) pss_nil)
    (pss_cons (ps_fld (pv 0) (pv 1) rfl)
    (pss_cons (ps_fld (pv 0) (pe_callTy call_tuple_of (by rfl) T.b_tuple (by decide +kernel) (pa_cons (pe_callB cr_sortedT (by rfl) T.b_sorted (by decide +kernel) (pa_cons (pv 2) pa_nil)) pa_nil)) rfl)
    (pss_one (ps_if (pt_val (pe_mt0 (pl := _) c_is_endless hr (by decide) (pv 0))) (pss_one ps_never) pss_nil)))))), ?_⟩
    have lf : (W fl).length = fl.length := W_len fl
    refine ⟨_, rfl, _, rfl, .inl ⟨_, rfl, by rw [lf]; omega, fun H1 s1 => ⟨_, rfl, iteBF (by rw [isW_W]; rfl) ?_⟩⟩⟩
    refine ⟨_, rfl, _, rfl, by rw [lf]; exact sl_len (by omega), _, _, rfl, rfl, _, rfl, iteDF (by rw [lf]; omega) ?_⟩
    refine ⟨_, rfl, sq, ps, kb, rfl, hS.same s1, hs.same s1, ok, fun H2 s2 => ⟨_, rfl, ?_⟩⟩
    have s02 := s1.trans s2
    have ha2 := s02 _ _ ha
    refine ⟨_, rfl, _, rfl, a, C, dx, _, rfl, ha2, RT.cl, RT.nF, by decide, ?_⟩
    have keep3 : ∀ c o, H c = some o → c ≠ a → upd H2 a (.ins C dx (putF "flag" (.str (W fl)) [])) c = some o := fun c o e n => by rw [upd_ne n]; exact s02 _ _ e
    have ha3 : upd H2 a (.ins C dx (putF "flag" (.str (W fl)) [])) a = some (.ins C dx (putF "flag" (.str (W fl)) [])) := upd_same
    have hs3 : StV (upd H2 a (.ins C dx (putF "flag" (.str (W fl)) []))) kb ps := fun t ht => keep3 _ _ (hs t ht) (ne_of (hs t ht) ha (by intro z; cases z))
    have hS3 : SqL K (upd H2 a (.ins C dx (putF "flag" (.str (W fl)) []))) sq (ps.map V.ref) ∨ SqT K (upd H2 a (.ins C dx (putF "flag" (.str (W fl)) []))) sq (ps.map V.ref) := by
      rcases hS with ((h | ⟨o, h⟩) | h) | ((h | ⟨o, h⟩) | h)
      · exact .inl (.inl (.inl (keep3 _ _ h (ne_of h ha (by intro z; cases z)))))
      · exact .inl (.inl (.inr ⟨o, keep3 _ _ h (ne_of h ha (by intro z; cases z))⟩))
      · exact .inl (.inr h)
      · exact .inr (.inl (.inl (keep3 _ _ h (ne_of h ha (by intro z; cases z)))))
      · exact .inr (.inl (.inr ⟨o, keep3 _ _ h (ne_of h ha (by intro z; cases z))⟩))
      · exact .inr (.inr h)
    generalize upd H2 a (.ins C dx (putF "flag" (.str (W fl)) [])) = H3 at keep3 ha3 hs3 hS3
    refine ⟨_, rfl, sq, ps, fun t => key (kb t), rfl, hS3, fun t ht => hs3 t ht, fun qs p1 srt prm n1 => ?_⟩
    refine ⟨p1, _, rfl, .inl ⟨SqL.of upd_same, fun p2 n2 => ?_⟩⟩
    have s5 : Same H3 (upd (upd H3 p1 (.lst (qs.map V.ref))) p2 (.tup (qs.map V.ref))) := (same_upd n1).trans (same_upd n2)
    have hT5 : upd (upd H3 p1 (.lst (qs.map V.ref))) p2 (.tup (qs.map V.ref)) p2 = some (.tup (qs.map V.ref)) := upd_same
    generalize upd (upd H3 p1 (.lst (qs.map V.ref))) p2 (.tup (qs.map V.ref)) = H5 at s5 hT5
    have ha5 := s5 _ _ ha3
    refine ⟨_, rfl, a, C, dx, _, rfl, ha5, RT.cl, RT.nS, by show 1 < 1000; decide, ?_⟩
    have na2 : p2 ≠ a := ne_of hT5 ha5 (by intro z; cases z)
    have keep6 : ∀ c o, H3 c = some o → c ≠ a → upd H5 a (.ins C dx (putF "stuffs" (.ref p2) (putF "flag" (.str (W fl)) []))) c = some o := fun c o e n => by rw [upd_ne n]; exact s5 _ _ e
    have ha6 : upd H5 a (.ins C dx (putF "stuffs" (.ref p2) (putF "flag" (.str (W fl)) []))) a = some (.ins C dx (ruF fl p2)) := upd_same
    have hT6 : upd H5 a (.ins C dx (putF "stuffs" (.ref p2) (putF "flag" (.str (W fl)) []))) p2 = some (.tup (qs.map V.ref)) := by rw [upd_ne na2]; exact hT5
    generalize upd H5 a (.ins C dx (putF "stuffs" (.ref p2) (putF "flag" (.str (W fl)) []))) = H6 at keep6 ha6 hT6
    have hs6 : StV H6 kb qs := StV.perm (fun t ht => keep6 _ _ (hs3 t ht) (ne_of (hs3 t ht) ha3 (by intro z; cases z))) prm
    have pm : (qs.map kb).Perm (ps.map kb) := prm.map kb
    have hR6 : RuAt C H6 a fl (qs.map kb) := ⟨dx, p2, qs, kb, ha6, hT6, hs6, rfl⟩
    have ok6 := ok.perm pm.symm
    refine ⟨_, rfl, a, dx, _, rfl, ha6, ruF_no _ _ (by decide +kernel) (by decide +kernel), a, fl, qs.map kb, rfl, hR6, ok6.few, ok6.long, hO.congr fun l => put_perm ok.free pm.symm l, fun H7 s7 => ⟨_, rfl, ?_⟩⟩
    exact k H7 (qs.map kb) (fun c o e n => s7 _ _ (keep6 _ _ (keep3 _ _ e n) n)) pm (pwS srt) (hR6.same s7)
end
end U
set_option maxRecDepth 100000
set_option maxHeartbeats 4000000
namespace U
open PySem PySem.Spec PyProof.Rows
open L2 hiding Fun CX0 E0 pass0 Fun.binds
open C8 Lx SX StX
inductive PutX (ss : List Stf) (l : List Bool) : List Bool → Prop
  | nil : PutX ss l []
  | snoc {y : List Bool} {b : Bool} : PutX ss l y → putM ss (l ++ y) = some b → PutX ss l (y ++ [b])
theorem PutX.ins {ss : List Stf} {l y : List Bool} (h : PutX ss l y) : ∀ {x}, Ins ss (l ++ y) x → Ins ss l (y ++ x) := by
  induction h with
  | nil => intro x hx; rw [List.append_nil] at hx; exact hx
  | @snoc y b hp hb ih =>
    intro x hx
    rw [← List.append_assoc] at hx
    have := ih (.more hb hx)
    rw [List.append_assoc]
    exact this
theorem PutX.pre {ss : List Stf} {l y : List Bool} (h : PutX ss l y) : ∀ {x}, Ins ss l x → ∃ z, x = y ++ z ∧ Ins ss (l ++ y) z := by
  induction h with
  | nil => intro x hx; exact ⟨x, rfl, by rw [List.append_nil]; exact hx⟩
  | @snoc y b hp hb ih =>
    intro x hx
    obtain ⟨z, rfl, hz⟩ := ih hx
    cases hz with
    | stop h => rw [hb] at h; cases h
    | @more _ z' b' h1 h2 =>
      rw [hb] at h1
      cases Option.some.inj h1
      exact ⟨z', by simp, by rw [← List.append_assoc]; exact h2⟩
def OutR (ss : List Stf) (l : List Bool) (o : Option (List Bool)) : Prop := (∀ x, o = some x → Ins ss l x) ∧ (o = none → ∀ x, ¬ Ins ss l x)
theorem oWx_non (o : Option (List Bool)) : decide (oW o = .non) = o.isNone := by
  cases o with
  | none => exact decide_eq_true rfl
  | some _ => exact decide_eq_false (fun z => by cases z)
def spPutInX (C : Addr) : Sp := fun vs H Q _ => ∃ (a : Addr) (f : List Bool) (ss : List Stf) (l : List Bool), vs = [.ref a, .str (W l)] ∧ RuAt C H a f ss ∧ ss.length ≤ 1000 ∧ longM ss ≤ 9 ∧ l.length ≤ 40000 ∧ ∀ o H', OutR ss l o → Same H H' → Q (oW o) H'
def spEndlessX (C : Addr) : Sp := fun vs H Q _ => ∃ (a : Addr) (f : List Bool) (ss : List Stf), vs = [.ref a] ∧ RuAt C H a f ss ∧ ss.length ≤ 1000 ∧ longM ss ≤ 9 ∧ ∀ b H', (b = true ↔ ¬ OkR ss) → Same H H' → Q (.bl b) H'
section
variable {P : Program} {w : World} {K : PySem.W.Frag} {mg : Str → Option Value} {base : Heap}
theorem met_put_inX {f C : Addr} {fd : FuncData} (F : C8.Fun K "put_in" "Rule.put_in" s_Rule_put_in f fd) (me : Meth K C "put_in" f) (b : Binds K fd ["self", "line"] []) (T : Tx mg) (RT : RuT K C)
    (c_put : Met P w K mg base 1 C "put" (spPut C) []) (p_longest : Prp P w K mg base 1 C "longest" (spLongest C)) (c_tail : Cal P w K mg base 1 "tail" spTail []) : Met P w K mg base 3 C "put_in" (spPutInX C) [] := by
  refine met0 RT.cl me F b sc_Rule_put_in (fun vs H Q E h => ?_) (fun cdv A outer s H vs Q E hr h => ?_)
  · obtain ⟨_, _, _, _, rfl, _⟩ := h; rfl
  · obtain ⟨a, fl, ss, l, rfl, hR, hn, h9, hl, k⟩ := h
    refine ⟨_, (pss_cons (ps_par (i := 2) (j := 3) (by rfl) sc_Rule_put_in.nd rfl rfl (by decide) rfl rfl (pa_cons pe_str (pa_cons pe_dnewK pa_nil)) (by rfl))
    (pss_cons (ps_set (i := 4) sc_Rule_put_in.nd rfl (.inl rfl) (pe_mt (pl := _) c_put hr (by decide) (pv 0) (pa_cons (pv 1) pa_nil)))
    (pss_cons (ps_while PassesOwn.never (pt_cmpR op_notN (pv 4) pe_non (nomark _))
    (pss_cons (ps_set (i := 5) sc_Rule_put_in.nd rfl (.inl rfl) (pe_c c_tail hr (by decide) rfl (pa_cons (pe_op op_add_str (pv 1) (pv 2)) (pa_cons (pe_pr p_longest hr (by decide) (pv 0)) pa_nil))))
    (pss_cons (ps_if (pt_cmp (pc_din (hu_of hr) (pv 5) (pv 3))) (pss_one (ps_ret pe_non)) pss_nil)
    (pss_cons (ps_dput (hu_of hr) (pv 3) (pv 5) pe_bl rfl)
    (pss_cons (ps_aug (i := 2) sc_Rule_put_in.nd rfl (.inl rfl) (pv 4) iop_add_str)
    (pss_one (ps_set (i := 4) sc_Rule_put_in.nd rfl (.inl rfl) (pe_mt (pl := _) c_put hr (by decide) (pv 0) (pa_cons (pe_op op_add_str (pv 1) (pv 2)) pa_nil)))))))))
    (pss_one (ps_ret (pv 2)))))), ?_⟩
    have hL : ∀ s ∈ ss, s.1.length ≤ longM ss := fun s hs => longM_le hs
    have hpw := p10 h9
    have hat : ∀ {H2 : Hp}, Same H H2 → ∃ dx t, H2 a = some (.ins C dx (ruF fl t)) := fun s2 => by
      obtain ⟨dx, t, _, _, ha, _⟩ := hR.same s2
      exact ⟨dx, t, ha⟩
    have e1 : (W l).length = l.length := W_len l
    refine fun D nD => ⟨_, _, rfl, ?_⟩
    have s1 : Same H (upd H D (.dK [])) := same_upd nD
    have hD1 : upd H D (.dK []) D = some (.dK []) := upd_same
    generalize upd H D (.dK []) = H1 at s1 hD1
    obtain ⟨dx, t, ha⟩ := hat s1
    refine ⟨_, rfl, a, dx, _, rfl, ha, ruF_no _ _ (by decide +kernel) (by decide +kernel), _, rfl, a, fl, ss, l, rfl, hR.same s1, fun H2 s2 => ?_⟩
    refine ⟨fun m σ H3 => ∃ (y : List Bool) (v5 : Option V), y.length + m = 1024 ∧ PutX ss l y ∧ ((List.range y.length).map fun i => tl (longM ss) (l ++ y.take i)).Nodup ∧ σ = [some (.ref a), some (.str (W l)), some (.str (W y)), some (.ref D), some (oB (putM ss (l ++ y))), v5] ∧ Same H H3 ∧ H3 D = some (.dK (kst ((List.range y.length).map fun i => tl (longM ss) (l ++ y.take i)))),
      ⟨1024, [], none, rfl, .nil, List.nodup_nil, by rw [List.append_nil, ← W_nil]; rfl, s1.trans s2, s2 _ _ hD1⟩, ?_⟩
    rintro m σ H3 ⟨y, v5, hm, hP, hnd, rfl, s3, hD3⟩
    refine ⟨_, rfl, rfl, _, rfl, ?_⟩
    rw [oB_non]
    cases hput : putM ss (l ++ y) with
    | none =>
      refine ⟨_, rfl, ?_⟩
      have e := hP.ins (.stop hput)
      rw [List.append_nil] at e
      exact k (some y) H3 ⟨fun x hx => Option.some.inj hx ▸ e, fun z => by cases z⟩ s3
    | some c =>
      refine ⟨fun σ' H' => ∃ m', m' < m ∧ ∃ (y : List Bool) (v5 : Option V), y.length + m' = 1024 ∧ PutX ss l y ∧ ((List.range y.length).map fun i => tl (longM ss) (l ++ y.take i)).Nodup ∧ σ' = [some (.ref a), some (.str (W l)), some (.str (W y)), some (.ref D), some (oB (putM ss (l ++ y))), v5] ∧ Same H H' ∧ H' D = some (.dK (kst ((List.range y.length).map fun i => tl (longM ss) (l ++ y.take i)))), fun _ _ h => h, ?_⟩
      have hfew : y.length + 1 ≤ 2 ^ (longM ss + 1) := by
        have := words_le hnd (fun w hw => by obtain ⟨i, _, rfl⟩ := List.mem_map.mp hw; exact tl_le _ _)
        rw [List.length_map, List.length_range] at this
        exact this
      have e2 : (W y).length = y.length := W_len _
      obtain ⟨dx3, t3, ha3⟩ := hat s3
      refine ⟨_, rfl, _, rfl, _, _, rfl, rfl, by rw [e1, e2]; exact sl_len (by omega), _, rfl, a, dx3, _, rfl, ha3, a, fl, ss, rfl, hR.same s3, hn, fun s hs => Nat.le_trans (longM_le hs) (by omega), fun H4 s4 => ?_⟩
      refine ⟨l ++ y, longM ss, by rw [← W_cat l]; rfl, by rw [List.length_append]; omega, ?_⟩
      have hD4 := s4 _ _ hD3
      have s34 := s3.trans s4
      by_cases nin : tl (longM ss) (l ++ y) ∈ (List.range y.length).map fun i => tl (longM ss) (l ++ y.take i)
      · refine ⟨_, rfl, _, rfl, D, _, rfl, DGet.k (k := .inr (W (tl (longM ss) (l ++ y)))) hD4, _, rfl, iteBT (by rw [val_in nin]; rfl) ?_⟩
        refine k none H4 ⟨fun x z => (by cases z), fun _ x hx => ?_⟩ s34
        obtain ⟨z, rfl, hz⟩ := hP.pre hx
        obtain ⟨i, hi, e⟩ := List.mem_map.mp nin
        have hi' := List.mem_range.mp hi
        have t1 : (y ++ z).take i = y.take i := List.take_append_of_le_length (by omega)
        have t2 : (y ++ z).take y.length = y := List.take_left' rfl
        have := hx.apart hL (i := i) (j := y.length) (by rw [List.length_append]; omega) (by rw [List.length_append]; omega) (by rw [t1, t2]; exact e)
        omega
      · refine ⟨_, rfl, _, rfl, D, _, rfl, DGet.k (k := .inr (W (tl (longM ss) (l ++ y)))) hD4, _, rfl, iteBF (by rw [val_out nin]; rfl) ?_⟩
        refine ⟨_, rfl, _, rfl, D, _, rfl, DPut.k (k := .inr (W (tl (longM ss) (l ++ y)))) hD4 (by unfold kst; rw [List.length_map, List.length_map, List.length_range]; exact sl_lt (by omega)), ?_⟩
        rw [put_out nin]
        have ek : ((List.range y.length).map fun i => tl (longM ss) (l ++ y.take i)) ++ [tl (longM ss) (l ++ y)] = (List.range (y ++ [c]).length).map fun i => tl (longM ss) (l ++ (y ++ [c]).take i) := by
          rw [List.length_append, show [c].length = 1 from rfl, List.range_succ, List.map_append]
          congr 1
          · refine List.map_congr_left fun i hi => ?_
            have := List.mem_range.mp hi
            rw [List.take_append_of_le_length (by omega)]
          · show [tl (longM ss) (l ++ y)] = [tl (longM ss) (l ++ (y ++ [c]).take y.length)]
            rw [List.take_left' rfl]
        have hnd2 : ((List.range (y ++ [c]).length).map fun i => tl (longM ss) (l ++ (y ++ [c]).take i)).Nodup := by
          rw [← ek, List.nodup_append]
          exact ⟨hnd, by simp, fun x hx z hz e => nin (by rw [← List.mem_singleton.mp hz, ← e]; exact hx)⟩
        rw [ek]
        have s5 : Same H (upd H4 D (.dK (kst ((List.range (y ++ [c]).length).map fun i => tl (longM ss) (l ++ (y ++ [c]).take i))))) := fun c o e => by
          rw [upd_ne (ne_of_none e nD)]
          exact s34 _ _ e
        have hD5 : upd H4 D (.dK (kst ((List.range (y ++ [c]).length).map fun i => tl (longM ss) (l ++ (y ++ [c]).take i)))) D = some (.dK (kst ((List.range (y ++ [c]).length).map fun i => tl (longM ss) (l ++ (y ++ [c]).take i)))) := upd_same
        generalize upd H4 D (.dK (kst ((List.range (y ++ [c]).length).map fun i => tl (longM ss) (l ++ (y ++ [c]).take i)))) = H5 at s5 hD5
        have e3 : (W [c]).length = 1 := W_len _
        refine ⟨_, rfl, _, rfl, _, _, rfl, rfl, by rw [e2, e3]; exact sl_len (by omega), ?_⟩
        rw [W_cat]
        have e4 : (W (y ++ [c])).length = y.length + 1 := by rw [W_len, List.length_append]; rfl
        obtain ⟨dx5, t5, ha5⟩ := hat s5
        refine ⟨_, rfl, a, dx5, _, rfl, ha5, ruF_no _ _ (by decide +kernel) (by decide +kernel), _, rfl, _, rfl, _, _, rfl, rfl, by rw [e1, e4]; exact sl_len (by omega), ?_⟩
        refine ⟨a, fl, ss, l ++ (y ++ [c]), by rw [← W_cat l]; rfl, hR.same s5, fun H6 s6 => ?_⟩
        exact ⟨m - 1, by omega, y ++ [c], _, by rw [List.length_append]; show _ + 1 + _ = _; omega, hP.snoc hput, hnd2, rfl, s5.trans s6, s6 _ _ hD5⟩
end
end U
set_option maxRecDepth 100000
set_option maxHeartbeats 4000000
namespace U
open PySem PySem.Spec PyProof.Rows
open L2 hiding Fun CX0 E0 pass0 Fun.binds
open C8 Lx SX
def posM (l f : List Bool) : Option Nat := (List.range (l.length + 1)).find? fun i => f.isPrefixOf (l.drop i)
theorem posM_some {l f : List Bool} {i : Nat} : posM l f = some i ↔ (i ≤ l.length ∧ f <+: l.drop i ∧ ∀ k, k < i → ¬ f <+: l.drop k) := by
  unfold posM
  rw [List.find?_range_eq_some, List.isPrefixOf_iff_prefix]
  constructor
  · rintro ⟨h1, h2, h3⟩
    refine ⟨by have := List.mem_range.mp h2; omega, h1, fun k hk z => ?_⟩
    have := h3 k hk
    rw [List.isPrefixOf_iff_prefix.mpr z] at this
    cases this
  · rintro ⟨h1, h2, h3⟩
    refine ⟨h2, List.mem_range.mpr (by omega), fun k hk => ?_⟩
    cases e : f.isPrefixOf (l.drop k) with
    | false => rfl
    | true => exact absurd (List.isPrefixOf_iff_prefix.mp e) (h3 k hk)
theorem posM_none {l f : List Bool} : posM l f = none ↔ ∀ i, i ≤ l.length → ¬ f <+: l.drop i := by
  unfold posM
  rw [List.find?_eq_none]
  constructor
  · intro h i hi z
    exact h i (List.mem_range.mpr (by omega)) (List.isPrefixOf_iff_prefix.mpr z)
  · intro h i hi z
    exact h i (by have := List.mem_range.mp hi; omega) (List.isPrefixOf_iff_prefix.mp z)
theorem at_W {l f : List Bool} {i : Nat} : StrLaws.At (W l) (W f) (W l).length i ↔ (i ≤ l.length ∧ f <+: l.drop i) := by
  unfold StrLaws.At
  rw [StrLaws.subAt_eq, W_len, W_len, W_tl, W_tl, ← List.map_drop, ← List.map_take, beq_iff_eq]
  constructor
  · rintro ⟨h1, h2⟩
    refine ⟨by omega, List.prefix_iff_eq_take.mpr (map_bt_inj h2).symm⟩
  · rintro ⟨h1, h2⟩
    have hl := h2.length_le
    rw [List.length_drop] at hl
    exact ⟨by omega, by rw [← List.prefix_iff_eq_take.mp h2]⟩
theorem occ_none {l f : List Bool} (h : posM l f = none) : Builtin.Str.occurrences (W l) (W f) 0 (W l).length 1 = [] := by
  rcases StrLaws.occ_head (W l) (W f) 1 (Nat.le_refl _) with ⟨h1, _⟩ | ⟨i, r, _, h2, _⟩
  · exact h1
  · obtain ⟨h3, h4⟩ := at_W.mp h2
    exact absurd h4 (posM_none.mp h i h3)
theorem occ_some {l f : List Bool} {i : Nat} (h : posM l f = some i) : ∃ r, Builtin.Str.occurrences (W l) (W f) 0 (W l).length 1 = i :: r := by
  obtain ⟨p1, p2, p3⟩ := posM_some.mp h
  rcases StrLaws.occ_head (W l) (W f) 1 (Nat.le_refl _) with ⟨_, h2⟩ | ⟨j, r, h1, h2, h3⟩
  · exact absurd (at_W.mpr ⟨p1, p2⟩) (h2 i)
  · obtain ⟨q1, q2⟩ := at_W.mp h2
    have e : j = i := by
      rcases Nat.lt_trichotomy i j with c | c | c
      · exact absurd (at_W.mpr ⟨p1, p2⟩) (h3 i c)
      · exact c.symm
      · exact absurd q2 (p3 j c)
    subst e
    exact ⟨r, h1⟩
theorem find_W {l f : List Bool} {i : Nat} (h : posM l f = some i) : Txt.find (W l) (W f) = (i : Int) := by
  obtain ⟨r, e⟩ := occ_some h
  unfold Txt.find
  rw [e]
theorem posM_end (l f : List Bool) : ∃ i, posM (l ++ f) f = some i ∧ i ≤ l.length := by
  cases e : posM (l ++ f) f with
  | none =>
    refine absurd ?_ (posM_none.mp e l.length (by rw [List.length_append]; omega))
    rw [List.drop_left]
    exact List.prefix_refl _
  | some i =>
    refine ⟨i, rfl, ?_⟩
    obtain ⟨_, _, h3⟩ := posM_some.mp e
    rcases Nat.lt_or_ge l.length i with c | c
    · refine absurd ?_ (h3 _ c)
      rw [List.drop_left]
      exact List.prefix_refl _
    · exact c
end U
set_option maxRecDepth 100000
namespace U
theorem nodup1 {α : Type} (a : α) : [a].Nodup := by simp
theorem tl_nil (w : Nat) : tl w [] = [] := by unfold tl; simp
def SpL (f l : List Bool) : Prop := ∃ i, i < l.length ∧ f <+: (l ++ f).drop i
theorem posM_sp {f l : List Bool} : posM (l ++ f) f = some l.length ↔ ¬ SpL f l := by
  constructor
  · intro h ⟨i, hi, hp⟩
    exact (posM_some.mp h).2.2 i hi hp
  · intro h
    refine posM_some.mpr ⟨by rw [List.length_append]; omega, by rw [List.drop_left]; exact List.prefix_refl _, fun k hk hp => h ⟨k, hk, hp⟩⟩
theorem pre_cut {f a r : List Bool} {i : Nat} (h : f <+: (a ++ r).drop i) (hi : i + f.length ≤ a.length) : f <+: a.drop i := by
  rw [List.prefix_iff_eq_take] at h ⊢
  rw [List.drop_append_of_le_length (by omega), List.take_append_of_le_length (by rw [List.length_drop]; omega)] at h
  exact h
theorem pre_ext {f a r : List Bool} {i : Nat} (h : f <+: a.drop i) (hi : i ≤ a.length) : f <+: (a ++ r).drop i := by
  rw [List.drop_append_of_le_length hi]
  exact h.trans (List.prefix_append _ _)
theorem drop_add' (u v : List Bool) (j : Nat) : (u ++ v).drop (u.length + j) = v.drop j := by
  rw [← List.drop_drop, List.drop_left]
def infx (f l : List Bool) : Bool := (posM l f).isSome
theorem infx_iff {f l : List Bool} : infx f l = true ↔ ∃ i, i ≤ l.length ∧ f <+: l.drop i := by
  unfold infx
  cases e : posM l f with
  | none =>
    constructor
    · intro h; cases h
    · rintro ⟨i, hi, hp⟩
      exact absurd hp (posM_none.mp e i hi)
  | some i =>
    obtain ⟨h1, h2, _⟩ := posM_some.mp e
    exact ⟨fun _ => ⟨i, h1, h2⟩, fun _ => rfl⟩
theorem infx_false {f l : List Bool} : infx f l = false ↔ ∀ i, i ≤ l.length → ¬ f <+: l.drop i := by
  rw [← Bool.not_eq_true, infx_iff]
  constructor
  · intro h i hi hp; exact h ⟨i, hi, hp⟩
  · rintro h ⟨i, hi, hp⟩; exact h i hi hp
def bordM (f l : List Bool) : Bool := decide (posM (l ++ f) f = some l.length)
theorem bordM_iff {f l : List Bool} : bordM f l = true ↔ ¬ SpL f l := by
  unfold bordM
  rw [decide_eq_true_iff]
  exact posM_sp
theorem tl_split (n : Nat) (l : List Bool) : l = l.take (l.length - n) ++ tl n l := by unfold tl; rw [List.take_append_drop]
theorem SpL.infx {f l : List Bool} (hf : f ≠ []) (h : U.infx f l = true) : SpL f l := by
  obtain ⟨i, hi, hp⟩ := infx_iff.mp h
  have := hp.length_le
  rw [List.length_drop] at this
  have h0 : 0 < f.length := List.length_pos_iff.mpr hf
  exact ⟨i, by omega, pre_ext hp hi⟩
theorem sp_front {f u v : List Bool} (h : SpL f v) : SpL f (u ++ v) := by
  obtain ⟨i, hi, hp⟩ := h
  refine ⟨u.length + i, by rw [List.length_append]; omega, ?_⟩
  rw [List.append_assoc, drop_add']
  exact hp
theorem sp_step {f l st y : List Bool} {w : Nat} (hf : f ≠ []) (hw : f.length ≤ w + 1) (hst : st = tl w l) (hl : ¬ SpL f l) : SpL f (l ++ y) ↔ (infx f (st ++ y) = true ∨ SpL f (tl w (st ++ y))) := by
  have h0 : 0 < f.length := List.length_pos_iff.mpr hf
  have el := tl_split w l
  rw [← hst] at el
  generalize hu : l.take (l.length - w) = u at el
  have lu : u.length = l.length - w := by rw [← hu, List.length_take]; omega
  have ly : l ++ y = u ++ (st ++ y) := by rw [← List.append_assoc, ← el]
  have lst : st.length = min w l.length := by rw [hst, tl_len]
  constructor
  · rintro ⟨i, hi, hp⟩
    by_cases c : i + f.length ≤ (l ++ y).length
    · left
      have h1 := pre_cut hp c
      by_cases c2 : i + f.length ≤ l.length
      · exfalso
        have h2 := pre_cut h1 c2
        exact hl ⟨i, by omega, pre_ext h2 (by omega)⟩
      · have hiu : u.length ≤ i := by omega
        refine infx_iff.mpr ⟨i - u.length, by rw [List.length_append] at hi ⊢; omega, ?_⟩
        rw [ly, show i = u.length + (i - u.length) by omega, drop_add'] at h1
        exact h1
    · right
      -- the line's last bits
      have e2 := tl_split w (st ++ y)
      generalize hv : (st ++ y).take ((st ++ y).length - w) = v at e2
      have lv : v.length = (st ++ y).length - w := by rw [← hv, List.length_take]; omega
      have e3 : l ++ y = (u ++ v) ++ tl w (st ++ y) := by rw [List.append_assoc, ← e2]; exact ly
      have l3 : (l ++ y).length = u.length + v.length + (tl w (st ++ y)).length := by rw [e3, List.length_append, List.length_append]
      have l4 : (tl w (st ++ y)).length = min w (st ++ y).length := tl_len _ _
      have l5 : (st ++ y).length = st.length + y.length := List.length_append
      have l6 : (l ++ y).length = l.length + y.length := List.length_append
      refine ⟨i - (u ++ v).length, ?_, ?_⟩
      · rw [List.length_append]; omega
      · have hge : (u ++ v).length ≤ i := by rw [List.length_append]; omega
        rw [e3, List.append_assoc, show i = (u ++ v).length + (i - (u ++ v).length) by omega, drop_add'] at hp
        exact hp
  · rintro (h | h)
    · rw [ly]
      exact sp_front (SpL.infx hf h)
    · have e2 := tl_split w (st ++ y)
      rw [ly, e2, ← List.append_assoc]
      exact sp_front h
def wid (ss : List Stf) (f : List Bool) : Nat := max (ss.foldr (fun s m => max s.1.length m) 0) f.length - 1
def edge (ss : List Stf) (f : List Bool) (w : Nat) (st : List Bool) (b : Bool) : Option (List Bool) :=
  if infx f (itP ss 40 (st ++ [b])) || !bordM f (tl w (itP ss 40 (st ++ [b]))) then none else some (tl w (itP ss 40 (st ++ [b])))
theorem bodyF_snoc (ss : List Stf) (m : List Bool) (b : Bool) : bodyF ss (m ++ [b]) = itP ss 40 (bodyF ss m ++ [b]) := by unfold bodyF; rw [List.foldl_append]; rfl
theorem ins40 {ss : List Stf} (o : OkN 39 ss) (m : List Bool) (b : Bool) : ∃ x, Ins ss (bodyF ss m ++ [b]) x ∧ x.length ≤ 39 ∧ bodyF ss (m ++ [b]) = bodyF ss m ++ [b] ++ x := by
  obtain ⟨x, hx, hl⟩ := o _ (body_ex o m).reach b
  refine ⟨x, hx, hl, ?_⟩
  rw [bodyF_snoc, hx.itP, List.take_of_length_le (by omega)]
def stand (ss : List Stf) (w : Nat) (m : List Bool) : List Bool := tl w (bodyF ss m)
theorem edge_at {ss : List Stf} {f : List Bool} {w : Nat} (o : OkN 39 ss) (hf : f ≠ []) (hw : f.length ≤ w + 1) (hL : ∀ s ∈ ss, s.1.length ≤ w + 1) {m : List Bool} (hm : ¬ SpL f (bodyF ss m)) (b : Bool) :
    (∃ x, Ins ss (stand ss w m ++ [b]) x ∧ x.length ≤ 39 ∧ itP ss 40 (stand ss w m ++ [b]) = stand ss w m ++ [b] ++ x) ∧
    (SpL f (bodyF ss (m ++ [b])) → edge ss f w (stand ss w m) b = none) ∧ (¬ SpL f (bodyF ss (m ++ [b])) → edge ss f w (stand ss w m) b = some (stand ss w (m ++ [b]))) := by
  obtain ⟨x, hx, hl, eb⟩ := ins40 o m b
  have et : tl (w + 1) (bodyF ss m ++ [b]) = tl (w + 1) (stand ss w m ++ [b]) := by
    rw [tl_snoc0, tl_snoc0]
    unfold stand
    rw [tl_tl (Nat.le_refl w)]
  have hx2 : Ins ss (stand ss w m ++ [b]) x := hx.tl hL et
  have e40 : itP ss 40 (stand ss w m ++ [b]) = stand ss w m ++ [b] ++ x := by rw [hx2.itP, List.take_of_length_le (by omega)]
  have key := sp_step (y := [b] ++ x) hf hw (show stand ss w m = tl w (bodyF ss m) from rfl) hm
  rw [← List.append_assoc, ← List.append_assoc] at key
  have etl : tl w (stand ss w m ++ [b] ++ x) = stand ss w (m ++ [b]) := by
    unfold stand
    rw [eb, List.append_assoc, List.append_assoc]
    exact tl_app (tl_tl (Nat.le_refl w) _) _
  refine ⟨⟨x, hx2, hl, e40⟩, fun h => ?_, fun h => ?_⟩
  · rw [eb] at h
    unfold edge
    rw [e40]
    rcases key.mp h with h1 | h1
    · rw [h1]; rfl
    · have : bordM f (tl w (stand ss w m ++ [b] ++ x)) = false := by
        rw [← Bool.not_eq_true, bordM_iff]
        exact fun z => z h1
      rw [this, Bool.not_false, Bool.or_true]
      rfl
  · rw [eb] at h
    unfold edge
    rw [e40]
    have h1 : infx f (stand ss w m ++ [b] ++ x) = false := by
      rw [← Bool.not_eq_true]
      exact fun z => h (key.mpr (.inl z))
    have h2 : bordM f (tl w (stand ss w m ++ [b] ++ x)) = true := bordM_iff.mpr fun z => h (key.mpr (.inr z))
    rw [h1, h2, etl]
    rfl
def num (m : List Bool) : Nat := m.foldl (fun n b => 2 * n + (if b then 1 else 0)) 0
theorem num_snoc (m : List Bool) (b : Bool) : num (m ++ [b]) = 2 * num m + (if b then 1 else 0) := by unfold num; rw [List.foldl_append]; rfl
structure WkL (ss : List Stf) (f : List Bool) (w n : Nat) (kn : List (List Bool)) (ly : List (List Bool × List Bool)) : Prop where
  a : ∀ m, m.length ≤ n → ¬ SpL f (bodyF ss m)
  nd : kn.Nodup
  sh : ∀ t ∈ kn, t.length ≤ w
  g : ∀ t ∈ kn, ∃ m, m.length ≤ n ∧ t = stand ss w m
  nil : [] ∈ kn
  l1 : ∀ p ∈ ly, p.1.length = n ∧ p.2 = stand ss w p.1 ∧ p.2 ∈ kn
  srt : ly.Pairwise fun p q => num p.1 < num q.1
  d : ∀ t ∈ kn, (∃ p ∈ ly, p.2 = t) ∨ ∀ b, ∃ u ∈ kn, edge ss f w t b = some u
  e : ∀ m, m.length = n → (∀ b, ∃ u ∈ kn, edge ss f w (stand ss w m) b = some u) ∨ ∃ p ∈ ly, p.2 = stand ss w m ∧ num p.1 ≤ num m
def Dn (ly : List (List Bool × List Bool)) (i : Nat) (c : Bool) (p : List Bool × List Bool) (b : Bool) : Prop := p ∈ ly.take i ∨ (c = true ∧ ly[i]? = some p ∧ b = false)
structure WkE (ss : List Stf) (f : List Bool) (w n : Nat) (k0 : List (List Bool)) (ly : List (List Bool × List Bool)) (i : Nat) (c : Bool) (kn : List (List Bool)) (lt : List (List Bool × List Bool)) : Prop where
  nd : kn.Nodup
  sh : ∀ t ∈ kn, t.length ≤ w
  g : ∀ t ∈ kn, ∃ m, m.length ≤ n + 1 ∧ t = stand ss w m
  sub : ∀ t ∈ k0, t ∈ kn
  app : kn.length = k0.length + lt.length
  l1 : ∀ p ∈ lt, p.1.length = n + 1 ∧ p.2 = stand ss w p.1 ∧ p.2 ∈ kn
  srt : lt.Pairwise fun p q => num p.1 < num q.1
  ltd : ∀ p ∈ lt, ∃ q b, Dn ly i c q b ∧ p.1 = q.1 ++ [b]
  new : ∀ t ∈ kn, t ∈ k0 ∨ ∃ p ∈ lt, p.2 = t
  ed : ∀ q b, Dn ly i c q b → ∃ u ∈ kn, edge ss f w q.2 b = some u ∧ (u ∈ k0 ∨ ∃ p ∈ lt, p.2 = u ∧ num p.1 ≤ num (q.1 ++ [b]))
theorem WkE.start {ss : List Stf} {f : List Bool} {w n : Nat} {kn : List (List Bool)} {ly : List (List Bool × List Bool)} (h : WkL ss f w n kn ly) : WkE ss f w n kn ly 0 false kn [] :=
  ⟨h.nd, h.sh, fun t ht => by obtain ⟨m, h1, h2⟩ := h.g t ht; exact ⟨m, by omega, h2⟩, fun _ h => h, rfl, (fun _ h => nomatch h), .nil, (fun _ h => nomatch h), fun t ht => .inl ht, fun q b hd => by
    rcases hd with h | ⟨h, _⟩
    · rw [List.take_zero] at h; cases h
    · cases h⟩
theorem Dn.lt {ss : List Stf} {f : List Bool} {w n : Nat} {k0 : List (List Bool)} {ly : List (List Bool × List Bool)} (h : WkL ss f w n k0 ly) {i : Nat} {c : Bool} {p : List Bool × List Bool} (hp : ly[i]? = some p) {q : List Bool × List Bool} {b : Bool} (hd : Dn ly i c q b) : num (q.1 ++ [b]) < num (p.1 ++ [c]) := by
  rw [num_snoc, num_snoc]
  rcases hd with h1 | ⟨rfl, h1, rfl⟩
  · have hi := (List.getElem?_eq_some_iff.mp hp).1
    have hs : ly = ly.take i ++ ly.drop i := (List.take_append_drop i ly).symm
    have hpd : p ∈ ly.drop i := by
      rw [List.drop_eq_getElem_cons hi]
      rw [List.getElem?_eq_getElem hi] at hp
      rw [Option.some.inj hp]
      exact List.mem_cons_self
    have := h.srt
    rw [hs] at this
    have := (List.pairwise_append.mp this).2.2 q h1 p hpd
    split <;> split <;> omega
  · rw [hp] at h1
    rw [Option.some.inj h1]
    simp
theorem Dn.step {ly : List (List Bool × List Bool)} {i : Nat} {c : Bool} {p : List Bool × List Bool} (hp : ly[i]? = some p) {q : List Bool × List Bool} {b : Bool} : Dn ly (if c then i + 1 else i) (!c) q b → Dn ly i c q b ∨ (q = p ∧ b = c) := by
  cases c with
  | false =>
    rintro (h | ⟨_, h1, h2⟩)
    · exact .inl (.inl h)
    · rw [show (if false = true then i + 1 else i) = i from rfl, hp] at h1
      exact .inr ⟨(Option.some.inj h1).symm, h2⟩
  | true =>
    rintro (h | ⟨h, _⟩)
    · rw [show (if true = true then i + 1 else i) = i + 1 from rfl, List.take_add_one, hp] at h
      rcases List.mem_append.mp h with h | h
      · exact .inl (.inl h)
      · have e : q = p := by simpa using h
        cases b with
        | false => exact .inl (.inr ⟨rfl, by rw [e]; exact hp, rfl⟩)
        | true => exact .inr ⟨e, rfl⟩
    · cases h
theorem WkE.next {ss : List Stf} {f : List Bool} {w n : Nat} (o : OkN 39 ss) (hf : f ≠ []) (hw : f.length ≤ w + 1) (hL : ∀ s ∈ ss, s.1.length ≤ w + 1) {k0 kn : List (List Bool)} {ly lt : List (List Bool × List Bool)} (h : WkL ss f w n k0 ly) {i : Nat} {c : Bool} (E : WkE ss f w n k0 ly i c kn lt) {p : List Bool × List Bool} (hp : ly[i]? = some p)
    {u : List Bool} (hu : edge ss f w p.2 c = some u) :
    (u ∈ kn → WkE ss f w n k0 ly (if c then i + 1 else i) (!c) kn lt) ∧ (u ∉ kn → WkE ss f w n k0 ly (if c then i + 1 else i) (!c) (kn ++ [u]) (lt ++ [(p.1 ++ [c], u)])) := by
  have hpm := List.mem_of_getElem? hp
  obtain ⟨p1, p2, p3⟩ := h.l1 p hpm
  have hm : ¬ SpL f (bodyF ss p.1) := h.a p.1 (by omega)
  obtain ⟨_, e1, e2⟩ := edge_at o hf hw hL hm c
  rw [← p2] at e1 e2
  have us : u = stand ss w (p.1 ++ [c]) := by
    by_cases z : SpL f (bodyF ss (p.1 ++ [c]))
    · rw [e1 z] at hu; cases hu
    · rw [e2 z] at hu; exact (Option.some.inj hu).symm
  have hdn : ∀ {q b}, Dn ly i c q b → Dn ly (if c then i + 1 else i) (!c) q b := by
    intro q b hd
    cases c with
    | false =>
      rcases hd with h | ⟨h, _⟩
      · exact .inl h
      · cases h
    | true =>
      refine .inl ?_
      rw [show (if true = true then i + 1 else i) = i + 1 from rfl, List.take_add_one, hp]
      rcases hd with h | ⟨_, h1, _⟩
      · exact List.mem_append_left _ h
      · rw [hp] at h1
        exact List.mem_append_right _ (by simp [Option.some.inj h1])
  have hpn : Dn ly (if c then i + 1 else i) (!c) p c := by
    cases c with
    | false => exact .inr ⟨rfl, hp, rfl⟩
    | true =>
      refine .inl ?_
      rw [show (if true = true then i + 1 else i) = i + 1 from rfl, List.take_add_one, hp]
      exact List.mem_append_right _ (by simp)
  constructor
  · intro hk
    refine ⟨E.nd, E.sh, E.g, E.sub, E.app, E.l1, E.srt, fun q hq => ?_, E.new, fun q b hd => ?_⟩
    · obtain ⟨q2, b, h1, h2⟩ := E.ltd q hq
      exact ⟨q2, b, hdn h1, h2⟩
    · rcases Dn.step hp hd with h1 | ⟨rfl, rfl⟩
      · exact E.ed q b h1
      · refine ⟨u, hk, hu, ?_⟩
        rcases E.new u hk with h1 | ⟨r, h1, h2⟩
        · exact .inl h1
        · refine .inr ⟨r, h1, h2, ?_⟩
          obtain ⟨q2, b2, h3, h4⟩ := E.ltd r h1
          rw [h4]
          exact Nat.le_of_lt (Dn.lt h hp h3)
  · intro hk
    refine ⟨?_, ?_, ?_, fun t ht => List.mem_append_left _ (E.sub t ht), by rw [List.length_append, List.length_append, E.app]; show _ + 1 = _ + (_ + 1); omega, ?_, ?_, ?_, ?_, ?_⟩
    · rw [List.nodup_append]
      exact ⟨E.nd, nodup1 _, fun x hx y hy z => hk (by rw [← List.mem_singleton.mp hy, ← z]; exact hx)⟩
    · intro t ht
      rcases List.mem_append.mp ht with h1 | h1
      · exact E.sh t h1
      · rw [List.mem_singleton.mp h1, us]
        exact tl_le _ _
    · intro t ht
      rcases List.mem_append.mp ht with h1 | h1
      · exact E.g t h1
      · exact ⟨p.1 ++ [c], by rw [List.length_append, p1]; exact Nat.le_refl _, by rw [List.mem_singleton.mp h1]; exact us⟩
    · intro q hq
      rcases List.mem_append.mp hq with h1 | h1
      · obtain ⟨a1, a2, a3⟩ := E.l1 q h1
        exact ⟨a1, a2, List.mem_append_left _ a3⟩
      · rw [List.mem_singleton.mp h1]
        exact ⟨by rw [List.length_append, p1]; rfl, us, List.mem_append_right _ (List.mem_singleton.mpr rfl)⟩
    · rw [List.pairwise_append]
      refine ⟨E.srt, List.pairwise_singleton _ _, fun q hq r hr => ?_⟩
      rw [List.mem_singleton.mp hr]
      obtain ⟨q2, b2, h3, h4⟩ := E.ltd q hq
      rw [h4]
      exact Dn.lt h hp h3
    · intro q hq
      rcases List.mem_append.mp hq with h1 | h1
      · obtain ⟨q2, b, h1, h2⟩ := E.ltd q h1
        exact ⟨q2, b, hdn h1, h2⟩
      · rw [List.mem_singleton.mp h1]
        exact ⟨p, c, hpn, rfl⟩
    · intro t ht
      rcases List.mem_append.mp ht with h1 | h1
      · rcases E.new t h1 with h2 | ⟨r, h2, h3⟩
        · exact .inl h2
        · exact .inr ⟨r, List.mem_append_left _ h2, h3⟩
      · exact .inr ⟨_, List.mem_append_right _ (List.mem_singleton.mpr rfl), (List.mem_singleton.mp h1).symm⟩
    · intro q b hd
      rcases Dn.step hp hd with h1 | ⟨rfl, rfl⟩
      · obtain ⟨v, h2, h3, h4⟩ := E.ed q b h1
        refine ⟨v, List.mem_append_left _ h2, h3, ?_⟩
        rcases h4 with h4 | ⟨r, h5, h6⟩
        · exact .inl h4
        · exact .inr ⟨r, List.mem_append_left _ h5, h6⟩
      · exact ⟨u, List.mem_append_right _ (List.mem_singleton.mpr rfl), hu, .inr ⟨_, List.mem_append_right _ (List.mem_singleton.mpr rfl), rfl, Nat.le_refl _⟩⟩
theorem WkE.done {ss : List Stf} {f : List Bool} {w n : Nat} (o : OkN 39 ss) (hf : f ≠ []) (hw : f.length ≤ w + 1) (hL : ∀ s ∈ ss, s.1.length ≤ w + 1) {k0 kn : List (List Bool)} {ly lt : List (List Bool × List Bool)} (h : WkL ss f w n k0 ly) (E : WkE ss f w n k0 ly ly.length false kn lt) : WkL ss f w (n + 1) kn lt := by
  have dn : ∀ {q b}, q ∈ ly → Dn ly ly.length false q b := fun hq => .inl (by rw [List.take_length]; exact hq)
  -- each message that is one bit longer
  have step : ∀ m b, m.length = n → ∃ u ∈ kn, edge ss f w (stand ss w m) b = some u ∧ (u ∈ k0 ∨ ∃ p ∈ lt, p.2 = u ∧ num p.1 ≤ num (m ++ [b])) := by
    intro m b hm
    rcases h.e m hm with h1 | ⟨p, h1, h2, h3⟩
    · obtain ⟨u, h4, h5⟩ := h1 b
      exact ⟨u, E.sub u h4, h5, .inl h4⟩
    · obtain ⟨u, h4, h5, h6⟩ := E.ed p b (dn h1)
      rw [h2] at h5
      refine ⟨u, h4, h5, ?_⟩
      rcases h6 with h6 | ⟨r, h7, h8, h9⟩
      · exact .inl h6
      · refine .inr ⟨r, h7, h8, Nat.le_trans h9 ?_⟩
        rw [num_snoc, num_snoc]
        omega
  have old : ∀ t ∈ k0, ∀ b, ∃ u ∈ kn, edge ss f w t b = some u := by
    intro t ht b
    rcases h.d t ht with ⟨p, h1, rfl⟩ | h1
    · obtain ⟨u, h4, h5, _⟩ := E.ed p b (dn h1)
      exact ⟨u, h4, h5⟩
    · obtain ⟨u, h4, h5⟩ := h1 b
      exact ⟨u, E.sub u h4, h5⟩
  have cut : ∀ m : List Bool, m.length = n + 1 → ∃ m' b, m = m' ++ [b] ∧ m'.length = n := by
    intro m hm
    rcases List.eq_nil_or_concat m with z | ⟨m', b, z⟩
    · rw [z] at hm; cases hm
    · rw [List.concat_eq_append] at z
      exact ⟨m', b, z, by rw [z, List.length_append] at hm; simpa using hm⟩
  have unsp : ∀ m b, m.length = n → ¬ SpL f (bodyF ss (m ++ [b])) ∧ edge ss f w (stand ss w m) b = some (stand ss w (m ++ [b])) := by
    intro m b hm
    obtain ⟨u, _, h2, _⟩ := step m b hm
    obtain ⟨_, e1, e2⟩ := edge_at o hf hw hL (h.a m (by omega)) b
    have hn : ¬ SpL f (bodyF ss (m ++ [b])) := fun z => by rw [e1 z] at h2; cases h2
    exact ⟨hn, e2 hn⟩
  refine ⟨fun m hm => ?_, E.nd, E.sh, E.g, E.sub _ h.nil, E.l1, E.srt, fun t ht => ?_, fun m hm => ?_⟩
  · rcases Nat.lt_or_ge m.length (n + 1) with c | c
    · exact h.a m (by omega)
    · obtain ⟨m', b, rfl, h1⟩ := cut m (by omega)
      exact (unsp m' b h1).1
  · rcases E.new t ht with h1 | h1
    · exact .inr (old t h1)
    · exact .inl h1
  · obtain ⟨m', b, rfl, h1⟩ := cut m hm
    obtain ⟨u, h2, h3, h4⟩ := step m' b h1
    rw [(unsp m' b h1).2] at h3
    have eu := Option.some.inj h3
    rw [eu]
    rcases h4 with h4 | h4
    · exact .inl (old u h4)
    · exact .inr h4
def FirstSp (ss : List Stf) (f m : List Bool) : Prop := SpL f (bodyF ss m) ∧ ∀ m', (m'.length < m.length ∨ (m'.length = m.length ∧ num m' < num m)) → ¬ SpL f (bodyF ss m')
theorem WkE.bad {ss : List Stf} {f : List Bool} {w n : Nat} (o : OkN 39 ss) (hf : f ≠ []) (hw : f.length ≤ w + 1) (hL : ∀ s ∈ ss, s.1.length ≤ w + 1) {k0 kn : List (List Bool)} {ly lt : List (List Bool × List Bool)} (h : WkL ss f w n k0 ly) {i : Nat} {c : Bool} (E : WkE ss f w n k0 ly i c kn lt) {p : List Bool × List Bool} (hp : ly[i]? = some p)
    (hu : edge ss f w p.2 c = none) : FirstSp ss f (p.1 ++ [c]) := by
  have hpm := List.mem_of_getElem? hp
  obtain ⟨p1, p2, p3⟩ := h.l1 p hpm
  obtain ⟨_, e1, e2⟩ := edge_at o hf hw hL (h.a p.1 (by omega)) c
  rw [← p2] at e2
  refine ⟨?_, fun m' hm' => ?_⟩
  · by_cases z : SpL f (bodyF ss (p.1 ++ [c]))
    · exact z
    · rw [e2 z] at hu; cases hu
  · rw [List.length_append, p1] at hm'
    simp only [List.length_cons, List.length_nil] at hm'
    rcases hm' with h1 | ⟨h1, h2⟩
    · exact h.a m' (by omega)
    · have : ∃ v b, m' = v ++ [b] ∧ v.length = n := by
        rcases List.eq_nil_or_concat m' with z | ⟨v, b, z⟩
        · rw [z] at h1; simp at h1
        · rw [List.concat_eq_append] at z
          exact ⟨v, b, z, by rw [z, List.length_append] at h1; simpa using h1⟩
      obtain ⟨v, b, rfl, hv⟩ := this
      obtain ⟨_, f1, f2⟩ := edge_at o hf hw hL (h.a v (by omega)) b
      intro z
      have hz := f1 z
      rcases h.e v hv with h3 | ⟨q, h3, h4, h5⟩
      · obtain ⟨u, _, h6⟩ := h3 b
        rw [hz] at h6; cases h6
      · have hd : Dn ly i c q b := by
          obtain ⟨j, hj⟩ := List.getElem?_of_mem h3
          rcases Nat.lt_trichotomy j i with c1 | c1 | c1
          · exact .inl (List.mem_of_getElem? (i := j) (by rw [List.getElem?_take, if_pos c1]; exact hj))
          · subst c1
            rw [hp] at hj
            have eq := Option.some.inj hj
            subst eq
            rw [num_snoc, num_snoc] at h2
            cases c with
            | false =>
              exfalso
              simp only [Bool.false_eq_true, if_false] at h2
              split at h2 <;> omega
            | true =>
              cases b with
              | false => exact .inr ⟨rfl, hp, rfl⟩
              | true =>
                exfalso
                simp only [if_true] at h2
                omega
          · exfalso
            have hjl := (List.getElem?_eq_some_iff.mp hj).1
            have := List.pairwise_iff_getElem.mp h.srt i j (by omega) hjl c1
            rw [List.getElem?_eq_getElem (by omega)] at hp
            rw [List.getElem?_eq_getElem hjl] at hj
            rw [Option.some.inj hp, Option.some.inj hj] at this
            rw [num_snoc, num_snoc] at h2
            split at h2 <;> split at h2 <;> omega
        obtain ⟨u, _, h6, _⟩ := E.ed q b hd
        rw [h4, hz] at h6
        cases h6
structure Paper (ss : List Stf) (f : List Bool) (w : Nat) (kn : List (List Bool)) : Prop where
  nd : kn.Nodup
  sh : ∀ t ∈ kn, t.length ≤ w
  nil : [] ∈ kn
  cl : ∀ t ∈ kn, ∀ b, ∃ u ∈ kn, edge ss f w t b = some u
  g : ∀ t ∈ kn, ∃ m, t = stand ss w m
theorem WkL.clean {ss : List Stf} {f : List Bool} {w n : Nat} (o : OkN 39 ss) (hf : f ≠ []) (hw : f.length ≤ w + 1) (hL : ∀ s ∈ ss, s.1.length ≤ w + 1) {kn : List (List Bool)} (h : WkL ss f w n kn []) : Paper ss f w kn ∧ ∀ m, ¬ SpL f (bodyF ss m) := by
  have cl : ∀ t ∈ kn, ∀ b, ∃ u ∈ kn, edge ss f w t b = some u := fun t ht => by
    rcases h.d t ht with ⟨p, h1, _⟩ | h1
    · cases h1
    · exact h1
  refine ⟨⟨h.nd, h.sh, h.nil, cl, fun t ht => by obtain ⟨m, _, e⟩ := h.g t ht; exact ⟨m, e⟩⟩, ?_⟩
  have all : ∀ k m, m.length = k → ¬ SpL f (bodyF ss m) ∧ stand ss w m ∈ kn := by
    intro k
    induction k with
    | zero =>
      intro m hm
      have : m = [] := List.length_eq_zero_iff.mp hm
      subst this
      exact ⟨h.a [] (Nat.zero_le _), by show tl w [] ∈ kn; rw [tl_nil]; exact h.nil⟩
    | succ k ih =>
      intro m hm
      rcases List.eq_nil_or_concat m with z | ⟨v, b, z⟩
      · rw [z] at hm; cases hm
      · rw [List.concat_eq_append] at z
        subst z
        obtain ⟨h1, h2⟩ := ih v (by rw [List.length_append] at hm; simpa using hm)
        obtain ⟨u, h3, h4⟩ := cl _ h2 b
        obtain ⟨_, e1, e2⟩ := edge_at o hf hw hL h1 b
        have hn : ¬ SpL f (bodyF ss (v ++ [b])) := fun z => by rw [e1 z] at h4; cases h4
        rw [e2 hn] at h4
        exact ⟨hn, by rw [Option.some.inj h4]; exact h3⟩
  exact fun m => (all m.length m rfl).1
theorem WkL.begin {ss : List Stf} {f : List Bool} {w : Nat} : WkL ss f w 0 [[]] [([], [])] := by
  have st0 : stand ss w [] = [] := tl_nil w
  have z0 : ∀ m : List Bool, m.length ≤ 0 → m = [] := fun m h => List.length_eq_zero_iff.mp (by omega)
  refine ⟨fun m hm => ?_, nodup1 _, fun t ht => by rw [List.mem_singleton.mp ht]; exact Nat.zero_le _, fun t ht => ⟨[], Nat.le_refl _, by rw [List.mem_singleton.mp ht, st0]⟩, List.mem_singleton.mpr rfl, fun p hp => by rw [List.mem_singleton.mp hp]; exact ⟨rfl, st0.symm, List.mem_singleton.mpr rfl⟩, List.pairwise_singleton _ _, fun t ht => .inl ⟨_, List.mem_singleton.mpr rfl, (List.mem_singleton.mp ht).symm⟩, fun m hm => .inr ⟨_, List.mem_singleton.mpr rfl, ?_, ?_⟩⟩
  · rw [z0 m hm]
    rintro ⟨i, hi, _⟩
    exact absurd hi (Nat.not_lt_zero _)
  · rw [z0 m (by omega)]; exact st0.symm
  · rw [z0 m (by omega)]; exact Nat.le_refl _
end U
set_option maxRecDepth 100000
set_option maxHeartbeats 4000000
namespace U
open PySem PySem.Spec PyProof.Rows
open L2 hiding Fun CX0 E0 pass0 Fun.binds
open C8 Lx SX
def spWordF : Sp := fun vs H Q _ => ∃ (b : Addr) (few many : Nat), vs = [.ref b, .int few, .int many] ∧ Box H b ∧ few ≤ many ∧ many < 1000 ∧
  ∀ (l : List Bool) H', few ≤ l.length → l.length ≤ many → Up b H H' → Q (.str (W l)) H'
section
variable {P : Program} {w : World} {K : PySem.W.Frag} {mg : Str → Option Value} {base : Heap}
theorem sc_l_word : FnScope ["_law_box", "_law_few", "_law_many", "_law_turn"] ["_law_box", "_law_few", "_law_many"] (fnScope s_l_word) := fnScope_by (by decide +kernel)
theorem cal_l_word {f : Addr} {fd : FuncData} (F : Def K mg "_law_word" s_l_word f fd) (b : Binds K fd ["_law_box", "_law_few", "_law_many"] []) (T : Tx mg)
    (c_l_choose : Cal P w K mg base 1 "_law_choose" spChoose []) (c_l_one_of : Cal P w K mg base 2 "_law_one_of" spOneOf []) : Cal P w K mg base 3 "_law_word" spWordF [] := by
  refine cal0 F b .nil sc_l_word (fun vs H Q E h => ?_) (fun cdv A outer s H vs Q E hr h => ?_)
  · obtain ⟨_, _, _, rfl, _⟩ := h; rfl
  · obtain ⟨bx, few, many, rfl, hb, h1, h2, k⟩ := h
    refine ⟨_, (pss_one (ps_ret (pe_join pe_str (pe_lc (own := [("_law_turn", 3)]) (g := gName 3) (by rfl) sc_l_word.nd (pi_range1 (by rfl) T.b_range (pa_cons (pe_op op_add (pv 1) (pe_c c_l_choose hr (by decide) rfl (pa_cons (pv 0) (pa_cons (pe_op op_add (pe_op op_sub (pv 2) (pv 1)) pe_int) pa_nil)))) pa_nil)) (blkOk_by (own := [("_law_turn", 3)]) (N := ["_law_box", "_law_few", "_law_many", "_law_turn"]) (sc := fnScope s_l_word) (by decide +kernel)) (fun _ _ _ _ _ => (pg_name (i := 3) sc_l_word.nd rfl (.inl rfl))) (fun _ _ _ _ _ => pts_nil) (fun _ _ _ _ _ => (pe_c c_l_one_of hr (by decide) rfl (pa_cons (pv 0) (pa_cons (pe_lst (pa_cons pe_str (pa_cons pe_str pa_nil))) pa_nil)))))))), ?_⟩
    refine ⟨⟨_, rfl⟩, ?_⟩
    refine ⟨_, rfl, _, rfl, _, rfl, _, rfl, _, _, rfl, rfl, _, _, rfl, rfl, bx, _, rfl, hb, (by omega), (by omega), fun d H1 d0 d1 u1 => ?_⟩
    refine ⟨_, _, rfl, rfl, _, rfl, by omega, by omega, fun D nD => ?_⟩
    have nb : D ≠ bx := u1.2.ne nD
    refine lc_it (walk_range (lo := 0) (n := ((few : Int) + d).toNat)) (fun i H2 => ∃ l : List Bool, l.length = i ∧ Up bx H H2 ∧ H2 D = some (.lst (bitsV l)))
      ⟨[], rfl, u1.mut (u1.free nD) nb, upd_same⟩ (fun _ _ _ _ => trivial) ?_ ?_
    · rintro i x H2 H3 hi ⟨l, rfl, u2, hD⟩ ⟨rfl, rfl⟩
      refine ⟨rfl, ?_⟩
      refine ⟨_, rfl, by show 2 ≤ sizeLine; decide, fun p hp => ?_⟩
      have np : p ≠ bx := u2.2.ne hp
      refine ⟨bx, p, _, rfl, u2.2.same (same_upd hp), upd_same, np, by decide, by decide, fun v H4 hv u4 => ?_⟩
      obtain ⟨b, rfl⟩ := mem2 hv
      have hD4 : H4 D = some (.lst (bitsV l)) := u4.1 _ _ (same_upd hp _ _ hD) nb
      refine ⟨_, hD4, ?_, l ++ [b], by simp, ?_, ?_⟩
      · unfold bitsV; rw [List.length_map, List.length_map]; exact sl_lt (by omega)
      · exact ((u2.same (same_upd hp)).trans u4).mut (u1.free nD) nb
      · rw [upd_same]; unfold bitsV; simp
    · rintro H2 ⟨l, hl, u2, hD⟩
      refine ⟨_, D, l.map fun b => W [b], rfl, rfl, .inl (SqL.of hD), ?_, ?_⟩
      · rw [lens_bits]
        have e0 : ("" : Str).length = 0 := by decide +kernel
        rw [e0]; omega
      · show Q (.str (Txt.join "" (l.map fun b => W [b]))) H2
        rw [join_bits]
        exact k l H2 (by omega) (by omega) u2
end
end U
set_option maxRecDepth 100000
set_option maxHeartbeats 4000000
namespace U
open PySem PySem.Spec PyProof.Rows
open L2 hiding Fun CX0 E0 pass0 Fun.binds
open C8 Lx SX StX
def Told (H : Hp) (t : Addr) (f : List Bool) (ss : List Stf) : Prop := ∃ l ps kb, H t = some (.tup [.str (W f), .ref l]) ∧ H l = some (.lst (ps.map V.ref)) ∧ StV H kb ps ∧ ss = ps.map kb
theorem Told.same {H H' : Hp} {t : Addr} {f : List Bool} {ss : List Stf} (h : Told H t f ss) (e : Same H H') : Told H' t f ss := by
  obtain ⟨l, ps, kb, h1, h2, h3, h4⟩ := h
  exact ⟨l, ps, kb, e _ _ h1, e _ _ h2, h3.same e, h4⟩
theorem refs_ne {ps : List Addr} {i j : Int} : ps.map V.ref ≠ [.int i, .int j] := fun z => by
  cases ps with
  | nil => cases z
  | cons p r => cases (List.cons.inj z).1
theorem Box.neL {H : Hp} {b l : Addr} {ps : List Addr} (hb : Box H b) (h : H l = some (.lst (ps.map V.ref))) : l ≠ b := fun z => by
  obtain ⟨i, j, hb⟩ := hb
  rw [z, hb] at h
  exact refs_ne (HO.lst.inj (Option.some.inj h)).symm
theorem Told.up {b : Addr} {H H' : Hp} {t : Addr} {f : List Bool} {ss : List Stf} (hb : Box H b) (h : Told H t f ss) (e : Up b H H') : Told H' t f ss := by
  obtain ⟨l, ps, kb, h1, h2, h3, h4⟩ := h
  exact ⟨l, ps, kb, e.1 _ _ h1 (hb.neT h1), e.1 _ _ h2 (hb.neL h2), fun t ht => e.1 _ _ (h3 t ht) (hb.neT (h3 t ht)), h4⟩
theorem RuAt.up {C b : Addr} {H H' : Hp} {a : Addr} {f : List Bool} {ss : List Stf} (hb : Box H b) (h : RuAt C H a f ss) (e : Up b H H') : RuAt C H' a f ss := h.nl (e.nl hb)
def putL (ss : List Stf) (l : List Bool) : List Bool := match putM ss l with
  | none => []
  | some b => [b]
theorem putL_len (ss : List Stf) (l : List Bool) : (putL ss l).length ≤ 1 := by unfold putL; cases putM ss l <;> simp
theorem stP_eq (ss : List Stf) (l : List Bool) : stP ss l = l ++ putL ss l := by
  unfold stP putL
  cases putM ss l with
  | none => rw [List.append_nil]
  | some b => rfl
theorem putL_head {ss : List Stf} {l : List Bool} : putM ss l = ((ss.filter fun s => s.1.isSuffixOf l).map (·.2)).head? := by
  unfold putM
  rw [List.head?_map, List.head?_filter]
def dS (x : List Bool) : PyData := .str (W x)
theorem dp_strs {K : PySem.W.Frag} {H : Hp} : ∀ xs : List (List Bool), DpAll K H (xs.map fun x => V.str (W x)) (xs.map dS)
  | [] => .nil
  | x :: r => .cons (.str _) (dp_strs r)
theorem strOk_W (x : List Bool) : PyData.strOk (W x) = true := by
  unfold PyData.strOk
  simp only [W, S, List.all_toArray, List.all_map, List.all_eq_true]
  intro b _
  cases b <;> decide +kernel
def DOk (n : Nat) (d : PyData) : Prop := PyData.canLay0 d = true ∧ PyData.depth d ≤ n
theorem dok_str (x : List Bool) : DOk 0 (.str (W x)) := ⟨strOk_W x, Nat.le_refl _⟩
theorem dok_all {n : Nat} : ∀ {ds : List PyData}, (∀ d ∈ ds, DOk n d) → PyData.canLayAll0 ds = true ∧ PyData.depthAll ds ≤ n
  | [], _ => ⟨rfl, Nat.zero_le _⟩
  | d :: r, h => by
    have h1 := h d List.mem_cons_self
    have h2 := dok_all (ds := r) fun d hd => h d (List.mem_cons_of_mem _ hd)
    refine ⟨?_, ?_⟩
    · show (PyData.canLay0 d && PyData.canLayAll0 r) = true
      rw [h1.1, h2.1]; rfl
    · show max (PyData.depth d) (PyData.depthAll r) ≤ n
      have := h1.2; have := h2.2; omega
theorem dok_list {n : Nat} {ds : List PyData} (h : ∀ d ∈ ds, DOk n d) : DOk (n + 1) (.list ds) := ⟨(dok_all h).1, Nat.succ_le_succ (dok_all h).2⟩
theorem dok_tup {n : Nat} {ds : List PyData} (h : ∀ d ∈ ds, DOk n d) : DOk (n + 1) (.tuple ds) := ⟨(dok_all h).1, Nat.succ_le_succ (dok_all h).2⟩
theorem DOk.shaped {n : Nat} {d : PyData} (h : DOk n d) (hn : n ≤ 64) : SeqAt.shaped d = true := by
  unfold SeqAt.shaped
  rw [h.1, decide_eq_true (Nat.le_trans h.2 hn)]
  rfl
theorem shaped_strs (xs : List (List Bool)) : SeqAt.shaped (.list (xs.map dS)) = true := (dok_list (n := 0) fun d hd => by
  obtain ⟨x, _, rfl⟩ := List.mem_map.mp hd
  exact dok_str x).shaped (by decide)
theorem shaped_nil : SeqAt.shaped (.list []) = true := by decide +kernel
theorem eqv_nil (ds : List PyData) : PyData.eqv (.list ds) (.list []) = ds.isEmpty := by cases ds <;> rfl
end U
set_option maxRecDepth 100000
set_option maxHeartbeats 4000000
namespace U
open PySem PySem.Spec PyProof.Rows
open L2 hiding Fun CX0 E0 pass0 Fun.binds
open C8 Lx SX StX
def spLPut : Sp := fun vs H Q _ => ∃ (t : Addr) (f l : List Bool) (ss : List Stf), vs = [.ref t, .str (W l)] ∧ Told H t f ss ∧ l.length ≤ 50000 ∧ ss.length ≤ 1000 ∧ (∀ s ∈ ss, s.1.length ≤ 1000) ∧ ∀ H', Same H H' → Q (.str (W (putL ss l))) H'
def spIsRule : Sp := fun vs H Q _ => ∃ (t : Addr) (f : List Bool) (ss : List Stf), vs = [.ref t] ∧ Told H t f ss ∧ ss.length ≤ 1000 ∧ (∀ s ∈ ss, s.1.length ≤ 5) ∧ ∀ r H', Same H H' → (r = true → SufFree ss ∧ OkS ss) → Q (.bl r) H'
def Cls1 (ss : List Stf) (kn : List (List Bool)) (w : List Bool) (b : Bool) : Prop := (itP ss 24 (w ++ [b])).length ≤ w.length + 20 ∧ tl 5 (itP ss 24 (w ++ [b])) ∈ kn
theorem Cls1.more {ss : List Stf} {kn : List (List Bool)} {w u : List Bool} {b : Bool} (h : Cls1 ss kn w b) : Cls1 ss (kn ++ [u]) w b := ⟨h.1, List.mem_append_left _ h.2⟩
structure Dfs (ss : List Stf) (H H2 : Hp) (q d : Addr) (kn wt : List (List Bool)) : Prop where
  same : Same H H2
  wait : H2 q = some (.lst (wt.map fun w => V.str (W w)))
  known : H2 d = some (.dK (kst kn))
  nodup : kn.Nodup
  short : ∀ w ∈ kn, w.length ≤ 5
  sub : ∀ w ∈ wt, w ∈ kn
  nil : [] ∈ kn
  le : wt.length ≤ kn.length
theorem Dfs.on {ss : List Stf} {H H2 H3 : Hp} {q d : Addr} {kn wt : List (List Bool)} (b : Dfs ss H H2 q d kn wt) (s : Same H2 H3) : Dfs ss H H3 q d kn wt :=
  ⟨b.same.trans s, s _ _ b.wait, s _ _ b.known, b.nodup, b.short, b.sub, b.nil, b.le⟩
theorem Dfs.few {ss : List Stf} {H H2 : Hp} {q d : Addr} {kn wt : List (List Bool)} (b : Dfs ss H H2 q d kn wt) : kn.length ≤ 63 := by
  have := words_le b.nodup b.short
  have e : (2 : Nat) ^ (5 + 1) = 64 := by decide
  omega
theorem sufFree_of {ss : List Stf} (h : ∀ (i j : Nat) (a b : Stf), i ≠ j → ss[i]? = some a → ss[j]? = some b → b.1.isSuffixOf a.1 = false) : SufFree ss := by
  unfold SufFree
  rw [List.pairwise_iff_getElem]
  intro i j hi hj hij
  have e1 := h i j _ _ (by omega) (List.getElem?_eq_getElem hi) (List.getElem?_eq_getElem hj)
  have e2 := h j i _ _ (by omega) (List.getElem?_eq_getElem hj) (List.getElem?_eq_getElem hi)
  refine ⟨fun z => ?_, fun z => ?_⟩
  · rw [List.isSuffixOf_iff_suffix.mpr z] at e2; cases e2
  · rw [List.isSuffixOf_iff_suffix.mpr z] at e1; cases e1
section
variable {P : Program} {w : World} {K : PySem.W.Frag} {mg : Str → Option Value} {base : Heap}
theorem sc_l_put : FnScope ["_law_rule_here", "_law_line", "_law_some", "_law_pattern", "_law_bit"] ["_law_rule_here", "_law_line"] (fnScope s_l_put) := fnScope_by (by decide +kernel)
theorem cal_l_put {f : Addr} {fd : FuncData} (F : Def K mg "_law_put" s_l_put f fd) (b : Binds K fd ["_law_rule_here", "_law_line"] []) (T : Tx mg) : Cal P w K mg base 1 "_law_put" spLPut [] := by
  refine cal0 F b .nil sc_l_put (fun vs H Q E h => ?_) (fun cdv A outer s H vs Q E hr h => ?_)
  · obtain ⟨_, _, _, _, rfl, _⟩ := h; rfl
  · obtain ⟨t, fl, l, ss, rfl, ⟨r, ps, kb, ht, hl, hs, rfl⟩, h1, h2, h3, k⟩ := h
    refine ⟨_, (pss_cons (ps_setLc (i := 2) (own := [("_law_pattern", 3), ("_law_bit", 4)]) (g := gTup K 2 (gCons (gName 3) (gCons (gName 4) gNil))) (by rfl) sc_l_put.nd rfl rfl (sw_true rfl rfl rfl (by decide +kernel)) (pi_list (pe_ix ix_tup (pv 0) pe_int (fun _ _ => rfl))) (blkOk_by (own := [("_law_pattern", 3), ("_law_bit", 4)]) (N := ["_law_rule_here", "_law_line", "_law_some", "_law_pattern", "_law_bit"]) (sc := fnScope s_l_put) (by decide +kernel)) (fun _ _ _ _ _ => (pg_tup rfl (pgs_cons (pg_name (i := 3) sc_l_put.nd rfl (.inl rfl)) (pgs_cons (pg_name (i := 4) sc_l_put.nd rfl (.inl rfl)) pgs_nil)))) (fun _ _ _ _ _ => (pts_one (pt_cmpR op_eq (pe_slice sl_txt (pv 1) (po_some (pe_callB (call_max2 rfl) (by rfl) T.b_max (by decide +kernel) (pa_cons pe_int (pa_cons (pe_op op_sub (pe_callB call_len_str (by rfl) T.b_len (by decide +kernel) (pa_cons (pv 1) pa_nil)) (pe_callB call_len_str (by rfl) T.b_len (by decide +kernel) (pa_cons (pv 3) pa_nil))) pa_nil)))) po_none) (pv 3) (nomark _)))) (fun _ _ _ _ _ => (pv 4)))
    (pss_one (ps_ret (pe_ifExp (pt_cmpR (op_neD hr.units) (pv 2) (pe_lst pa_nil) (nomark _)) (pe_ix ix_list (pv 2) pe_int (fun _ _ => rfl)) pe_str)))), ?_⟩
    have lw : (W l).length ≤ sizeLine := by rw [W_len]; exact sl_len (by omega)
    refine ⟨_, rfl, t, _, 1, _, rfl, rfl, SqT.of ht, rfl, r, rfl, ⟨_, SqL.of hl⟩, fun D nD => ?_⟩
    refine lc_it (walk_list (xs := ps.map V.ref)) (fun i H2 => Same H H2 ∧ H2 D = some (.lst (((((ps.take i).map kb).filter fun s => s.1.isSuffixOf l).map fun s => [s.2]).map fun x => V.str (W x)))) ⟨same_upd nD, upd_same⟩ (fun i H2 _ h2 => h2.1.seq (SqL.of hl)) ?_ ?_
    · rintro i x H2 H3 hi ⟨s2, hD⟩ ⟨rfl, hx⟩
      rw [List.getElem?_map] at hx
      obtain ⟨q, hq, rfl⟩ := Option.map_eq_some_iff.mp hx
      have hqm : q ∈ ps := List.mem_of_getElem? hq
      have lq : (W (kb q).1).length ≤ sizeLine := by rw [W_len]; exact sl_len (Nat.le_trans (h3 _ (List.mem_map_of_mem hqm)) (by decide))
      refine ⟨q, _, rfl, SqT.of (s2 _ _ (hs q hqm)), rfl, _, _, rfl, _, _, rfl, rfl, rfl, ?_⟩
      refine ⟨_, rfl, _, rfl, _, rfl, lw, _, rfl, _, rfl, lq, _, _, rfl, rfl, _, _, rfl, _, rfl, _, rfl, lw, _, rfl, rfl, _, rfl, ?_⟩
      rw [W_tail, W_len (kb q).1]
      have et : (ps.take (i + 1)).map kb = (ps.take i).map kb ++ [kb q] := by rw [List.take_add_one, hq, List.map_append]; rfl
      by_cases c : (kb q).1.isSuffixOf l = true
      · refine iteDT (by rw [← suf_iff.mp c]) ?_
        refine ⟨_, rfl, _, hD, ?_, ?_, ?_⟩
        · rw [List.length_map, List.length_map]
          refine sl_lt (Nat.lt_of_le_of_lt (List.length_filter_le _ _) ?_)
          rw [List.length_map, List.length_take]
          rw [List.length_map] at h2
          omega
        · intro c' o e
          rw [upd_ne (ne_of_none e nD)]
          exact s2 _ _ e
        · rw [upd_same, et, List.filter_append, List.map_append, List.map_append, List.filter_cons_of_pos (p := fun s : Stf => s.1.isSuffixOf l) c]
          rfl
      · refine iteDF (fun z => c (suf_iff.mpr (W_inj (V.str.inj z)).symm)) ?_
        refine ⟨s2, ?_⟩
        rw [hD, et, List.filter_append, List.filter_cons_of_neg (p := fun s : Stf => s.1.isSuffixOf l) c, List.filter_nil, List.append_nil]
    · rintro H2 ⟨s2, hD⟩
      rw [List.length_map, List.take_length] at hD
      refine ⟨_, rfl, Nat.zero_le _, fun p hp => ?_⟩
      have hp2 := putL_head (ss := ps.map kb) (l := l)
      have hD2 : upd H2 p (.lst []) D = some (.lst ((((ps.map kb).filter fun s => s.1.isSuffixOf l).map fun s => [s.2]).map fun x => V.str (W x))) := same_upd hp _ _ hD
      have s3 := s2.trans (same_upd (o := .lst []) hp)
      refine ⟨.list ((((ps.map kb).filter fun s => s.1.isSuffixOf l).map fun s => [s.2]).map dS), .list [], .lst (SqL.of hD2) (dp_strs _), .lst (SqL.of upd_same) .nil, shaped_strs _, shaped_nil, _, rfl, ?_⟩
      rw [eqv_nil]
      have k3 := k _ s3
      unfold putL at k3
      rw [hp2] at k3
      generalize (ps.map kb).filter (fun s => s.1.isSuffixOf l) = fs at hD2 k3
      cases fs with
      | nil =>
        show Q (.str "") _
        rw [W_nil]
        exact k3
      | cons x r =>
        exact ⟨_, rfl, D, _, 0, .str (W [x.2]), rfl, rfl, SqL.of hD2, atI_nat (j := 0) rfl, k3⟩
end
end U
set_option maxRecDepth 100000
set_option maxHeartbeats 4000000
namespace U
open PySem PySem.Spec PyProof.Rows
open L2 hiding Fun CX0 E0 pass0 Fun.binds
open C8 Lx SX StX
theorem W_tail5 (l : List Bool) : Txt.slice (W l) (some (if (((W l).length : Nat) : Int) - 5 > 0 then (((W l).length : Nat) : Int) - 5 else 0)) none = W (tl 5 l) := W_tail l 5
theorem pop_end {wt : List (List Bool)} {w : List Bool} : ((wt ++ [w]).map fun w => V.str (W w))[((wt ++ [w]).map fun w => V.str (W w)).length - 1]? = some (.str (W w)) := by
  rw [List.length_map, List.length_append, List.getElem?_map, List.length_cons, List.length_nil, List.getElem?_append_right (by omega), show wt.length + (0 + 1) - 1 - wt.length = 0 by omega]
  rfl
theorem pop_rest {wt : List (List Bool)} {w : List Bool} : ((wt ++ [w]).map fun w => V.str (W w)).dropLast = wt.map fun w => V.str (W w) := by
  rw [List.map_append]
  exact List.dropLast_concat
section
variable {P : Program} {w : World} {K : PySem.W.Frag} {mg : Str → Option Value} {base : Heap}
theorem sc_l_is_rule : FnScope ["_law_rule_here", "_law_names", "_law_pattern", "_law_bit", "_law_at", "_law_one", "_law_spot", "_law_other_one", "_law_known", "_law_waiting", "_law_behind", "_law_line", "_law_turn", "_law_due", "_law_there"] ["_law_rule_here"] (fnScope s_l_is_rule) := fnScope_by (by decide +kernel)
theorem cal_l_is_rule {f : Addr} {fd : FuncData} (F : Def K mg "_law_is_rule" s_l_is_rule f fd) (b : Binds K fd ["_law_rule_here"] []) (T : Tx mg) (c_l_put : Cal P w K mg base 1 "_law_put" spLPut []) : Cal P w K mg base 2 "_law_is_rule" spIsRule [] := by
  refine cal0 F b .nil sc_l_is_rule (fun vs H Q E h => ?_) (fun cdv A outer s H vs Q E hr h => ?_)
  · obtain ⟨_, _, _, rfl, _⟩ := h; rfl
  · obtain ⟨t, fl, ss, rfl, htold, h2, h3, k⟩ := h
    refine ⟨_, (pss_cons (ps_setLc (i := 1) (own := [("_law_pattern", 2), ("_law_bit", 3)]) (g := gTup K 2 (gCons (gName 2) (gCons (gName 3) gNil))) (by rfl) sc_l_is_rule.nd rfl rfl (sw_true rfl rfl rfl (by decide +kernel)) (pi_list (pe_ix ix_tup (pv 0) pe_int (fun _ _ => rfl))) (blkOk_by (own := [("_law_pattern", 2), ("_law_bit", 3)]) (N := ["_law_rule_here", "_law_names", "_law_pattern", "_law_bit", "_law_at", "_law_one", "_law_spot", "_law_other_one", "_law_known", "_law_waiting", "_law_behind", "_law_line", "_law_turn", "_law_due", "_law_there"]) (sc := fnScope s_l_is_rule) (by decide +kernel)) (fun _ _ _ _ _ => (pg_tup rfl (pgs_cons (pg_name (i := 2) sc_l_is_rule.nd rfl (.inl rfl)) (pgs_cons (pg_name (i := 3) sc_l_is_rule.nd rfl (.inl rfl)) pgs_nil)))) (fun _ _ _ _ _ => pts_nil) (fun _ _ _ _ _ => (pv 2)))
    (pss_cons (ps_for PassesOwn.never rfl (pi_enum (by rfl) T.b_enumerate (pa_cons (pv 1) pa_nil)) (pg_tup rfl (pgs_cons (pg_name (i := 4) sc_l_is_rule.nd rfl (.inl rfl)) (pgs_cons (pg_name (i := 5) sc_l_is_rule.nd rfl (.inl rfl)) pgs_nil)))
    (pss_one (ps_for PassesOwn.never rfl (pi_enum (by rfl) T.b_enumerate (pa_cons (pv 1) pa_nil)) (pg_tup rfl (pgs_cons (pg_name (i := 6) sc_l_is_rule.nd rfl (.inl rfl)) (pgs_cons (pg_name (i := 7) sc_l_is_rule.nd rfl (.inl rfl)) pgs_nil)))
    (pss_one (ps_if (PW.pt (pw_and (pt_cmpR op_ne (pv 4) (pv 6) (nomark _)) (pw_and1 (pt_val (pe_m1 PySem.F.slot_str_endswith PySem.F.type_str_endswith mt_endswith (pv 5) (pv 7)))))) (pss_one (ps_ret pe_bl)) pss_nil)))))
    (pss_cons (ps_par (i := 8) (j := 9) (by rfl) sc_l_is_rule.nd rfl rfl (by decide) rfl rfl (pa_cons (pe_disp (pps_cons pe_str pe_bl pps_nil) (by rfl) (by rfl) (fun z => by cases z) (by decide)) (pa_cons (pe_lst (pa_cons pe_str pa_nil)) pa_nil)) (by rfl))
    (pss_cons (ps_while PassesOwn.never (pt_cmpR (op_neD hr.units) (pv 9) (pe_lst pa_nil) (nomark _))
    (pss_cons (ps_set (i := 10) sc_l_is_rule.nd rfl (.inl rfl) (pe_bm0 PySem.F.plainAttrs_list PySem.F.slot_list_pop PySem.F.type_list_pop mt_pop (pv 9)))
    (pss_one (ps_for PassesOwn.never rfl (pi_str pe_str) (pg_name (i := 3) sc_l_is_rule.nd rfl (.inl rfl))
    (pss_cons (ps_set (i := 11) sc_l_is_rule.nd rfl (.inl rfl) (pe_op op_add_str (pv 10) (pv 3)))
    (pss_cut (ps_for PassesOwn.never rfl (pi_range1 (by rfl) T.b_range (pa_cons pe_int pa_nil)) (pg_name (i := 12) sc_l_is_rule.nd rfl (.inl rfl))
    (pss_cons (ps_set (i := 13) sc_l_is_rule.nd rfl (.inl rfl) (pe_c c_l_put hr (by decide) rfl (pa_cons (pv 0) (pa_cons (pv 11) pa_nil))))
    (pss_cons (ps_if (pt_cmpR op_eq (pv 13) pe_str (nomark _)) (pss_one ps_break) pss_nil)
    (pss_one (ps_set (i := 11) sc_l_is_rule.nd rfl (.inl rfl) (pe_op op_add_str (pv 11) (pv 13)))))))
    (pss_cons (ps_if (pt_cmpR op_gt (pe_callB call_len_str (by rfl) T.b_len (by decide +kernel) (pa_cons (pv 11) pa_nil)) (pe_op op_add (pe_callB call_len_str (by rfl) T.b_len (by decide +kernel) (pa_cons (pv 10) pa_nil)) pe_int) (nomark _)) (pss_one (ps_ret pe_bl)) pss_nil)
    (pss_cons (ps_set (i := 14) sc_l_is_rule.nd rfl (.inl rfl) (pe_slice sl_txt (pv 11) (po_some (pe_callB (call_max2 rfl) (by rfl) T.b_max (by decide +kernel) (pa_cons pe_int (pa_cons (pe_op op_sub (pe_callB call_len_str (by rfl) T.b_len (by decide +kernel) (pa_cons (pv 11) pa_nil)) pe_int) pa_nil)))) po_none))
    (pss_one (ps_if (pt_cmp (pc_dnotin (hu_of hr) (pv 14) (pv 8))) (pss_cons (ps_dput (hu_of hr) (pv 8) (pv 14) pe_bl rfl)
    (pss_one (ps_expr (pe_bm PySem.F.plainAttrs_list PySem.F.slot_list_append PySem.F.type_list_append mt_append (pv 9) (pa_cons (pv 14) pa_nil))))) pss_nil))))))))))
    (pss_one (ps_ret pe_bl)))))), ?_⟩
    obtain ⟨r, ps, kb, ht, hl, hs, hss⟩ := id htold
    have lss : ss.length = ps.length := by rw [hss, List.length_map]
    refine ⟨_, rfl, t, _, 1, _, rfl, rfl, SqT.of ht, rfl, r, rfl, ⟨_, SqL.of hl⟩, fun D nD => ?_⟩
    refine lc_it (walk_list (xs := ps.map V.ref)) (fun i H2 => Same H H2 ∧ H2 D = some (.lst ((ss.take i).map fun s => V.str (W s.1)))) ⟨same_upd nD, upd_same⟩ (fun i H2 _ h2 => h2.1.seq (SqL.of hl)) ?_ ?_
    · rintro i x H2 H3 hi ⟨s2, hD⟩ ⟨rfl, hx⟩
      rw [List.getElem?_map] at hx
      obtain ⟨q, hq, rfl⟩ := Option.map_eq_some_iff.mp hx
      have hqm : q ∈ ps := List.mem_of_getElem? hq
      have hsi : ss[i]? = some (kb q) := by rw [hss, List.getElem?_map, hq]; rfl
      rw [List.length_map] at hi
      refine ⟨q, _, rfl, SqT.of (s2 _ _ (hs q hqm)), rfl, _, _, rfl, _, _, rfl, rfl, rfl, ?_⟩
      refine ⟨_, rfl, _, hD, ?_, ?_, ?_⟩
      · rw [List.length_map, List.length_take]; exact sl_lt (by omega)
      · intro c' o e
        rw [upd_ne (ne_of_none e nD)]
        exact s2 _ _ e
      · rw [upd_same, List.take_add_one, hsi, List.map_append]; rfl
    · rintro H2 ⟨s2, hD⟩
      rw [List.length_map, ← lss, List.take_length] at hD
      have at' : ∀ {i : Nat} {y : V}, (ss.map fun s => V.str (W s.1))[i]? = some y → ∃ a, ss[i]? = some a ∧ y = .str (W a.1) := fun {i y} h => by
        rw [List.getElem?_map] at h
        obtain ⟨a, ha, e⟩ := Option.map_eq_some_iff.mp h
        exact ⟨a, ha, e.symm⟩
      refine ⟨_, rfl, D, _, rfl, SqL.of hD, ?_⟩
      refine for_it walk_enum (fun i σ H3 => ∃ v2 v3 v4 v5 v6 v7 v8 v9 v10 v11 v12 v13 v14 : Option V, σ = [some (.ref t), some (.ref D), v2, v3, v4, v5, v6, v7, v8, v9, v10, v11, v12, v13, v14] ∧ Same H H3 ∧ H3 D = some (.lst (ss.map fun s => V.str (W s.1))) ∧ ∀ (i' j : Nat) (a b : Stf), i' < i → i' ≠ j → ss[i']? = some a → ss[j]? = some b → b.1.isSuffixOf a.1 = false)
        ⟨none, none, none, none, none, none, none, none, none, none, none, none, none, rfl, s2, hD, fun i' j a b h => absurd h (Nat.not_lt_zero _)⟩ (fun i σ H3 _ h3 => by obtain ⟨_, _, _, _, _, _, _, _, _, _, _, _, _, _, _, h, _⟩ := h3; exact SqL.of h) ?_ ?_
      · rintro i x σ H3 H3' hi ⟨v2, v3, v4, v5, v6, v7, v8, v9, v10, v11, v12, v13, v14, rfl, s3, hD3, hno⟩ ⟨T', y1, y2, rfl, nT, rfl, e1, e2⟩
        cases e1
        obtain ⟨a, ha, rfl⟩ := at' e2
        refine ⟨T', _, rfl, SqT.of upd_same, rfl, _, _, rfl, _, _, rfl, rfl, ?_⟩
        have s4 : Same H (upd H3 T' (.tup [.int (i : Nat), .str (W a.1)])) := s3.trans (same_upd nT)
        have hD4 : upd H3 T' (.tup [.int (i : Nat), .str (W a.1)]) D = some (.lst (ss.map fun s => V.str (W s.1))) := same_upd nT _ _ hD3
        generalize upd H3 T' (.tup [.int (i : Nat), .str (W a.1)]) = H4 at s4 hD4
        refine ⟨_, rfl, D, _, rfl, SqL.of hD4, ?_⟩
        refine for_it walk_enum (fun j σ H5 => ∃ v2 v3 v6 v7 v8 v9 v10 v11 v12 v13 v14 : Option V, σ = [some (.ref t), some (.ref D), v2, v3, some (.int (i : Nat)), some (.str (W a.1)), v6, v7, v8, v9, v10, v11, v12, v13, v14] ∧ Same H H5 ∧ H5 D = some (.lst (ss.map fun s => V.str (W s.1))) ∧ ∀ (j' : Nat) (b : Stf), j' < j → i ≠ j' → ss[j']? = some b → b.1.isSuffixOf a.1 = false)
          ⟨_, _, _, _, _, _, _, _, _, _, _, rfl, s4, hD4, fun j' b h => absurd h (Nat.not_lt_zero _)⟩ (fun i σ H3 _ h3 => by obtain ⟨_, _, _, _, _, _, _, _, _, _, _, _, _, h, _⟩ := h3; exact SqL.of h) ?_ ?_
        · rintro j x σ H5 H5' hj ⟨v2, v3, v6, v7, v8, v9, v10, v11, v12, v13, v14, rfl, s5, hD5, hno5⟩ ⟨T2, y1, y2, rfl, nT2, rfl, e1, e2⟩
          cases e1
          obtain ⟨b', hb', rfl⟩ := at' e2
          refine ⟨T2, _, rfl, SqT.of upd_same, rfl, _, _, rfl, _, _, rfl, rfl, ?_⟩
          have s6 : Same H (upd H5 T2 (.tup [.int (j : Nat), .str (W b'.1)])) := s5.trans (same_upd nT2)
          have hD6 : upd H5 T2 (.tup [.int (j : Nat), .str (W b'.1)]) D = some (.lst (ss.map fun s => V.str (W s.1))) := same_upd nT2 _ _ hD5
          generalize upd H5 T2 (.tup [.int (j : Nat), .str (W b'.1)]) = H6 at s6 hD6
          refine ⟨_, rfl, _, rfl, rfl, _, rfl, ?_⟩
          by_cases ij : i = j
          · refine iteNS (by rw [ij]) ?_
            refine ⟨_, _, _, _, _, _, _, _, _, _, _, rfl, s6, hD6, fun j' b hj' nij hb => ?_⟩
            exact hno5 j' b (by omega) nij hb
          · refine iteNT (fun z => ij (by have := V.int.inj z; omega)) ?_
            refine ⟨_, rfl, ⟨_, rfl⟩, _, rfl, _, _, rfl, rfl, _, rfl, ?_⟩
            rw [W_ends]
            cases ce : b'.1.isSuffixOf a.1 with
            | true => exact k false _ s6 (fun z => by cases z)
            | false =>
              refine ⟨_, _, _, _, _, _, _, _, _, _, _, rfl, s6, hD6, fun j' b hj' nij hb => ?_⟩
              by_cases ej : j' = j
              · subst ej
                rw [hb'] at hb
                cases hb
                exact ce
              · exact hno5 j' b (by omega) nij hb
        · rintro σ H5 ⟨v2, v3, v6, v7, v8, v9, v10, v11, v12, v13, v14, rfl, s5, hD5, hno5⟩
          refine ⟨_, _, _, _, _, _, _, _, _, _, _, _, _, rfl, s5, hD5, fun i' j a' b' hi' nij ha' hb' => ?_⟩
          by_cases ei : i' = i
          · subst ei
            rw [ha] at ha'
            cases ha'
            exact hno5 j b' (by rw [List.length_map]; exact (List.getElem?_eq_some_iff.mp hb').1) nij hb'
          · exact hno i' j a' b' (by omega) nij ha' hb'
      · rintro σ H3 ⟨v2, v3, v4, v5, v6, v7, v8, v9, v10, v11, v12, v13, v14, rfl, s3, hD3, hno⟩
        have hfree : SufFree ss := sufFree_of fun i j a b nij ha hb => hno i j a b (by rw [List.length_map]; exact (List.getElem?_eq_some_iff.mp ha).1) nij ha hb
        clear hno hD3 hD s2
        refine fun d nd => ⟨upd_same, [(.inr "", .bl true)], rfl, by decide, by show 1 ≤ sizeLine; decide, fun q nq => ⟨_, _, rfl, ?_⟩⟩
        have nqd : q ≠ d := fun z => by rw [z, upd_same] at nq; cases nq
        have nd0 : H d = none := s3.free nd
        have nq0 : H q = none := by
          cases e : H q with
          | none => rfl
          | some o => rw [upd_ne nqd, upd_ne nqd, s3 _ _ e] at nq; cases nq
        have b0 : Dfs ss H (upd (upd (upd H3 d (.dK [])) d (.dK (mergeK [] [(.inr "", .bl true)]))) q (.lst [.str ""])) q d [[]] [[]] := by
          refine ⟨fun c o e => ?_, ?_, ?_, by simp, ?_, fun w hw => hw, List.mem_cons_self, Nat.le_refl _⟩
          · have n1 := ne_of_none e nd0
            have n2 := ne_of_none e nq0
            rw [upd_ne n2, upd_ne n1, upd_ne n1]
            exact s3 _ _ e
          · rw [upd_same, W_nil]; rfl
          · rw [upd_ne (Ne.symm nqd), upd_same, W_nil]; rfl
          · intro w hw; rw [List.mem_singleton.mp hw]; exact Nat.zero_le _
        generalize upd (upd (upd H3 d (.dK [])) d (.dK (mergeK [] [(.inr "", .bl true)]))) q (.lst [.str ""]) = H4 at b0
        refine ⟨fun m σ H5 => ∃ (kn wt : List (List Bool)) (v2 v3 v4 v5 v6 v7 v10 v11 v12 v13 v14 : Option V), σ = [some (.ref t), some (.ref D), v2, v3, v4, v5, v6, v7, some (.ref d), some (.ref q), v10, v11, v12, v13, v14] ∧ Dfs ss H H5 q d kn wt ∧ (∀ w ∈ kn, w ∈ wt ∨ ∀ b, Cls1 ss kn w b) ∧ m = wt.length + 2 * (64 - kn.length),
          ⟨_, [[]], [[]], _, _, _, _, _, _, _, _, _, _, _, rfl, b0, fun w hw => .inl hw, rfl⟩, ?_⟩
        rintro m σ H5 ⟨kn, wt, v2, v3, v4, v5, v6, v7, v10, v11, v12, v13, v14, rfl, B5, hcl, rfl⟩
        refine ⟨_, rfl, Nat.zero_le _, fun p hp => ?_⟩
        have B6 := B5.on (same_upd (o := .lst []) hp)
        refine ⟨.list (wt.map dS), .list [], .lst (SqL.of B6.wait) (dp_strs _), .lst (SqL.of upd_same) .nil, shaped_strs _, shaped_nil, _, rfl, ?_⟩
        generalize upd H5 p (.lst []) = H6 at B6
        rw [eqv_nil]
        rcases List.eq_nil_or_concat wt with rfl | ⟨wt', w0, rfl⟩
        · refine k true H6 B6.same fun _ => ⟨hfree, okS_of kn h3 B6.nil fun w hw b => ?_⟩
          rcases hcl w hw with z | z
          · cases z
          · exact z b
        · rw [List.concat_eq_append] at *
          refine iteBT (by simp) ?_
          refine ⟨fun σ' H' => ∃ m', m' < (wt' ++ [w0]).length + 2 * (64 - kn.length) ∧ ∃ (kn wt : List (List Bool)) (v2 v3 v4 v5 v6 v7 v10 v11 v12 v13 v14 : Option V), σ' = [some (.ref t), some (.ref D), v2, v3, v4, v5, v6, v7, some (.ref d), some (.ref q), v10, v11, v12, v13, v14] ∧ Dfs ss H H' q d kn wt ∧ (∀ w ∈ kn, w ∈ wt ∨ ∀ b, Cls1 ss kn w b) ∧ m' = wt.length + 2 * (64 - kn.length), fun _ _ h => h, ?_⟩
          refine ⟨_, rfl, .inl ⟨rfl, _, SqL.of B6.wait⟩, q, _, .str (W w0), rfl, rfl, B6.wait, pop_end, ?_⟩
          rw [pop_rest]
          have w0k : w0 ∈ kn := B6.sub _ (List.mem_append_right _ List.mem_cons_self)
          have l0 : w0.length ≤ 5 := B6.short _ w0k
          have B7 : Dfs ss H (upd H6 q (.lst (wt'.map fun w => V.str (W w)))) q d kn wt' := by
            refine ⟨fun c o e => ?_, upd_same, ?_, B6.nodup, B6.short, fun w hw => B6.sub w (List.mem_append_left _ hw), B6.nil, by have := B6.le; rw [List.length_append] at this; omega⟩
            · rw [upd_ne (ne_of_none e nq0)]; exact B6.same _ _ e
            · rw [upd_ne (Ne.symm nqd)]; exact B6.known
          generalize upd H6 q (.lst (wt'.map fun w => V.str (W w))) = H7 at B7
          have hm0 : wt'.length + 2 * (64 - kn.length) < (wt' ++ [w0]).length + 2 * (64 - kn.length) := by rw [List.length_append, List.length_cons, List.length_nil]; omega
          have hcl7 : ∀ u ∈ kn, u ∈ wt' ∨ u = w0 ∨ ∀ b, Cls1 ss kn u b := fun u hu => by
            rcases hcl u hu with z | z
            · rcases List.mem_append.mp z with z | z
              · exact .inl z
              · exact .inr (.inl (List.mem_singleton.mp z))
            · exact .inr (.inr z)
          generalize (wt' ++ [w0]).length + 2 * (64 - kn.length) = m at hm0 ⊢
          refine ⟨_, rfl, for_it walk_str (fun i σ H8 => ∃ (kn wt : List (List Bool)) (v2 v3 v4 v5 v6 v7 v11 v12 v13 v14 : Option V), σ = [some (.ref t), some (.ref D), v2, v3, v4, v5, v6, v7, some (.ref d), some (.ref q), some (.str (W w0)), v11, v12, v13, v14] ∧ Dfs ss H H8 q d kn wt ∧ w0 ∈ kn ∧ (∀ u ∈ kn, u ∈ wt ∨ u = w0 ∨ ∀ b, Cls1 ss kn u b) ∧ (∀ (j : Nat) (b : Bool), j < i → [false, true][j]? = some b → Cls1 ss kn w0 b) ∧ wt.length + 2 * (64 - kn.length) < m)
            ⟨kn, wt', _, _, _, _, _, _, _, _, _, _, rfl, B7, w0k, hcl7, fun j b h => absurd h (Nat.not_lt_zero _), hm0⟩ (fun _ _ _ _ _ => trivial) ?_ ?_⟩
          · clear hcl7 B7 B6 B5 hm0 w0k hcl
            rintro i x σ H8 H8' hi ⟨kn, wt, v2, v3, v4, v5, v6, v7, v11, v12, v13, v14, rfl, B8, w0k, hcl8, hbits, hm8⟩ ⟨rfl, c, hc, rfl⟩
            have e01 : ("01" : Str) = W [false, true] := by decide +kernel
            rw [e01] at hc
            obtain ⟨bb, hbb, rfl⟩ := W_get hc
            have ew : W w0 ++ (⟨#[bt bb]⟩ : Str) = W (w0 ++ [bb]) := W_cat w0 [bb]
            have el : (W w0).length + (⟨#[bt bb]⟩ : Str).length ≤ sizeLine := by
              have e1 : (W w0).length = w0.length := W_len _
              have e2 : (⟨#[bt bb]⟩ : Str).length = 1 := W_len [bb]
              rw [e1, e2]; exact sl_len (by omega)
            refine ⟨_, rfl, _, rfl, _, _, rfl, rfl, el, ?_⟩
            rw [ew]
            have hll : (w0 ++ [bb]).length ≤ 6 := by rw [List.length_append, List.length_cons, List.length_nil]; omega
            refine ⟨fun σ' H9 => ∃ (v12 v13 v14 : Option V), σ' = [some (.ref t), some (.ref D), v2, some (.str ⟨#[bt bb]⟩), v4, v5, v6, v7, some (.ref d), some (.ref q), some (.str (W w0)), some (.str (W (itP ss 24 (w0 ++ [bb])))), v12, v13, v14] ∧ Same H8' H9, ?_, ?_⟩
            · refine ⟨_, rfl, by decide, by decide, for_it walk_range (fun i σ H9 => ∃ (v12 v13 v14 : Option V), σ = [some (.ref t), some (.ref D), v2, some (.str ⟨#[bt bb]⟩), v4, v5, v6, v7, some (.ref d), some (.ref q), some (.str (W w0)), some (.str (W (itP ss i (w0 ++ [bb])))), v12, v13, v14] ∧ Same H8' H9) ⟨_, _, _, rfl, Same.refl _⟩ (fun _ _ _ _ _ => trivial) ?_ ?_⟩
              · rintro i9 x σ H9 H9' hi9 ⟨v12, v13, v14, rfl, s9⟩ ⟨rfl, rfl⟩
                have hi24 : i9 < 24 := hi9
                have hle := itP_le ss i9 (w0 ++ [bb])
                have e1 : (W (itP ss i9 (w0 ++ [bb]))).length = (itP ss i9 (w0 ++ [bb])).length := W_len _
                refine ⟨_, rfl, _, rfl, t, fl, _, ss, rfl, (htold.same B8.same).same s9, by omega, h2, fun s hs => Nat.le_trans (h3 s hs) (by decide), fun H10 s10 => ?_⟩
                refine ⟨_, rfl, rfl, _, rfl, ?_⟩
                have es := itP_succ ss i9 (w0 ++ [bb])
                rw [stP_eq] at es
                cases ep : putM ss (itP ss i9 (w0 ++ [bb])) with
                | none =>
                  have e0 : putL ss (itP ss i9 (w0 ++ [bb])) = [] := by unfold putL; rw [ep]
                  rw [e0]
                  refine iteDT (by rw [W_nil]) ?_
                  have e24 : itP ss 24 (w0 ++ [bb]) = itP ss i9 (w0 ++ [bb]) := itP_rest ep (by omega)
                  rw [← e24]
                  exact ⟨_, _, _, rfl, s9.trans s10⟩
                | some b =>
                  have e0 : putL ss (itP ss i9 (w0 ++ [bb])) = [b] := by unfold putL; rw [ep]
                  rw [e0] at es ⊢
                  refine iteDF (fun z => ?_) ?_
                  · have z' := V.str.inj z
                    rw [W_nil] at z'
                    cases (W_inj z')
                  · refine ⟨_, rfl, _, rfl, _, _, rfl, rfl, by rw [e1, W_len]; exact sl_len (by simp only [List.length_cons, List.length_nil]; omega), ?_⟩
                    rw [W_cat, ← es]
                    exact ⟨_, _, _, rfl, s9.trans s10⟩
              · rintro σ H9 ⟨v12, v13, v14, rfl, s9⟩
                exact ⟨_, _, _, rfl, s9⟩
            · rintro σ H9 ⟨v12, v13, v14, rfl, s9⟩
              have hle := itP_le ss 24 (w0 ++ [bb])
              have e24 : (24 : Int).toNat = 24 := rfl
              have B9 := B8.on s9
              have e1 : (W (itP ss 24 (w0 ++ [bb]))).length = (itP ss 24 (w0 ++ [bb])).length := W_len _
              have e2 : (W w0).length = w0.length := W_len _
              have l1 : (W (itP ss 24 (w0 ++ [bb]))).length ≤ sizeLine := by rw [e1]; exact sl_len (by omega)
              refine ⟨_, rfl, _, rfl, l1, _, rfl, _, rfl, by rw [e2]; exact sl_len (by omega), _, _, rfl, rfl, _, _, rfl, rfl, _, rfl, ?_⟩
              by_cases cl : w0.length + 20 < (itP ss 24 (w0 ++ [bb])).length
              · refine iteDT (by rw [e2]; show _ < (((W (itP ss 24 (w0 ++ [bb]))).length : Nat) : Int); rw [e1]; omega) ?_
                exact k false _ B9.same (fun z => by cases z)
              · refine iteDF (by rw [e2]; show ¬ _ < (((W (itP ss 24 (w0 ++ [bb]))).length : Nat) : Int); rw [e1]; omega) ?_
                refine ⟨_, rfl, _, rfl, _, rfl, l1, _, _, rfl, rfl, _, _, rfl, _, rfl, _, rfl, l1, ?_⟩
                show gName 14 (.str (Txt.slice (W (itP ss 24 (w0 ++ [bb]))) (some (if (((W (itP ss 24 (w0 ++ [bb]))).length : Nat) : Int) - 5 > 0 then (((W (itP ss 24 (w0 ++ [bb]))).length : Nat) : Int) - 5 else 0)) none)) _ _ _
                rw [W_tail5]
                refine ⟨_, rfl, _, rfl, d, _, rfl, DGet.k (k := .inr (W (tl 5 (itP ss 24 (w0 ++ [bb]))))) B9.known, _, rfl, ?_⟩
                have few9 := B9.few
                by_cases hin : tl 5 (itP ss 24 (w0 ++ [bb])) ∈ kn
                · refine iteBF (by rw [val_in hin]; rfl) ?_
                  refine ⟨kn, wt, _, _, _, _, _, _, _, _, _, _, rfl, B9, w0k, hcl8, fun j b hj hb => ?_, hm8⟩
                  by_cases ej : j = i
                  · subst ej
                    rw [hbb] at hb
                    cases hb
                    exact ⟨by omega, hin⟩
                  · exact hbits j b (by omega) hb
                · refine iteBT (by rw [val_out hin]; rfl) ?_
                  refine ⟨_, rfl, _, rfl, d, _, rfl, DPut.k (k := .inr (W (tl 5 (itP ss 24 (w0 ++ [bb]))))) B9.known (by unfold kst; rw [List.length_map]; exact sl_lt (by omega)), ?_⟩
                  rw [put_out hin]
                  have hW : upd H9 d (.dK (kst (kn ++ [tl 5 (itP ss 24 (w0 ++ [bb]))]))) q = some (.lst (wt.map fun w => V.str (W w))) := by rw [upd_ne nqd]; exact B9.wait
                  have wtl : wt.length < 1000 := by have := B9.le; omega
                  refine ⟨_, rfl, .inl ⟨rfl, _, SqL.of hW⟩, _, rfl, q, _, _, rfl, rfl, hW, by rw [List.length_map]; exact sl_lt (by omega), ?_⟩
                  refine ⟨kn ++ [tl 5 (itP ss 24 (w0 ++ [bb]))], wt ++ [tl 5 (itP ss 24 (w0 ++ [bb]))], _, _, _, _, _, _, _, _, _, _, rfl, ⟨fun c o e => ?_, ?_, ?_, ?_, ?_, ?_, List.mem_append_left _ B9.nil, by have := B9.le; rw [List.length_append, List.length_append]; exact Nat.add_le_add_right this _⟩, List.mem_append_left _ w0k, fun u hu => ?_, fun j b hj hb => ?_, ?_⟩
                  · rw [upd_ne (ne_of_none e nq0), upd_ne (ne_of_none e nd0)]
                    exact B9.same _ _ e
                  · rw [upd_same, List.map_append]; rfl
                  · rw [upd_ne (Ne.symm nqd), upd_same]
                  · rw [List.nodup_append]
                    refine ⟨B9.nodup, by simp, fun u hu v hv e => ?_⟩
                    rw [List.mem_singleton.mp hv] at e
                    exact hin (e ▸ hu)
                  · intro u hu
                    rcases List.mem_append.mp hu with z | z
                    · exact B9.short _ z
                    · rw [List.mem_singleton.mp z]; exact tl_le _ _
                  · intro u hu
                    rcases List.mem_append.mp hu with z | z
                    · exact List.mem_append_left _ (B9.sub _ z)
                    · exact List.mem_append_right _ z
                  · rcases List.mem_append.mp hu with z | z
                    · rcases hcl8 u z with z | z | z
                      · exact .inl (List.mem_append_left _ z)
                      · exact .inr (.inl z)
                      · exact .inr (.inr fun b => (z b).more)
                    · exact .inl (List.mem_append_right _ z)
                  · by_cases ej : j = i
                    · subst ej
                      rw [hbb] at hb
                      cases hb
                      exact ⟨by omega, List.mem_append_right _ List.mem_cons_self⟩
                    · exact (hbits j b (by omega) hb).more
                  · rw [List.length_append, List.length_append, List.length_cons, List.length_nil]; omega
          · rintro σ H8 ⟨kn, wt, v2, v3, v4, v5, v6, v7, v11, v12, v13, v14, rfl, B8, w0k, hcl8, hbits, hm8⟩
            refine ⟨_, hm8, kn, wt, _, _, _, _, _, _, _, _, _, _, _, rfl, B8, fun u hu => ?_, rfl⟩
            rcases hcl8 u hu with z | z | z
            · exact .inl z
            · rw [z]
              refine .inr fun b => ?_
              have e2 : ("01" : Str).cps.size = 2 := by decide +kernel
              cases b with
              | false => exact hbits 0 false (by rw [e2]; decide) rfl
              | true => exact hbits 1 true (by rw [e2]; decide) rfl
            · exact .inr z
end
end U
set_option maxRecDepth 100000
set_option maxHeartbeats 4000000
namespace U
open PySem PySem.Spec PyProof.Rows
open L2 hiding Fun CX0 E0 pass0 Fun.binds
open C8 Lx SX StX
def spRule : Sp := fun vs H Q _ => ∃ (b : Addr) (wd lo : Nat), vs = [.ref b, .int wd, .int lo] ∧ Box H b ∧ 2 ≤ wd ∧ wd ≤ 100 ∧ 1 ≤ lo ∧ lo ≤ 5 ∧
  ∀ (t : Addr) (f : List Bool) (ss : List Stf) H', Up b H H' → Told H' t f ss → 2 ≤ f.length → f.length ≤ max wd 3 → ss.length ≤ 2 → StOk ss → OkS ss → (∀ s ∈ ss, s.1.length ≤ lo) → Q (.ref t) H'
theorem told_const {H : Hp} {p1 p2 p3 : Addr} {z0 z1 z2 : Str} {f p : List Bool} {b : Bool} (e0 : z0 = W f) (e1 : z1 = W p) (e2 : z2 = W [b]) (n1 : H p1 = none) (n2 : upd H p1 (.tup [.str z1, .str z2]) p2 = none) (n3 : upd (upd H p1 (.tup [.str z1, .str z2])) p2 (.lst [.ref p1]) p3 = none) :
    Same H (upd (upd (upd H p1 (.tup [.str z1, .str z2])) p2 (.lst [.ref p1])) p3 (.tup [.str z0, .ref p2])) ∧ Told (upd (upd (upd H p1 (.tup [.str z1, .str z2])) p2 (.lst [.ref p1])) p3 (.tup [.str z0, .ref p2])) p3 f [(p, b)] := by
  refine ⟨((same_upd n1).trans (same_upd n2)).trans (same_upd n3), p2, [p1], fun _ => (p, b), ?_, ?_, ?_, rfl⟩
  · rw [upd_same, e0]
  · exact same_upd n3 _ _ upd_same
  · intro t ht
    rw [List.mem_singleton.mp ht, ← e1, ← e2]
    exact same_upd n3 _ _ (same_upd n2 _ _ upd_same)
def Good1 (m n : Nat) (H : Hp) (x : Addr) : Prop := ∃ f p b, Told H x f [(p, b)] ∧ 2 ≤ f.length ∧ f.length ≤ m ∧ p ≠ [] ∧ p.length ≤ n ∧ OkS [(p, b)]
theorem Good1.same {m n : Nat} {H H' : Hp} {x : Addr} (h : Good1 m n H x) (e : Same H H') : Good1 m n H' x := by
  obtain ⟨f, p, b, h1, h2⟩ := h
  exact ⟨f, p, b, h1.same e, h2⟩
theorem Good1.up {m n : Nat} {b : Addr} {H H' : Hp} {x : Addr} (hb : Box H b) (h : Good1 m n H x) (e : Up b H H') : Good1 m n H' x := by
  obtain ⟨f, p, b, h1, h2⟩ := h
  exact ⟨f, p, b, h1.up hb e, h2⟩
theorem told1 {H : Hp} {x : Addr} {f p : List Bool} {b : Bool} (h : Told H x f [(p, b)]) : ∃ l q, H x = some (.tup [.str (W f), .ref l]) ∧ H l = some (.lst [.ref q]) ∧ H q = some (.tup [.str (W p), .str (W [b])]) := by
  obtain ⟨l, ps, kb, h1, h2, h3, h4⟩ := h
  cases ps with
  | nil => cases h4
  | cons q r =>
    cases r with
    | cons _ _ => have := congrArg List.length h4; simp at this
    | nil =>
      have e : kb q = (p, b) := (List.cons.inj h4).1.symm
      have := h3 q List.mem_cons_self
      rw [e] at this
      exact ⟨l, q, h1, h2, this⟩
theorem told_dp {K : PySem.W.Frag} {m n : Nat} {H : Hp} {x : Addr} (h : Good1 m n H x) : ∃ d, Dp K H (.ref x) d ∧ DOk 3 d := by
  obtain ⟨f, p, b, h1, _⟩ := h
  obtain ⟨l, q, hx, hl, hq⟩ := told1 h1
  refine ⟨.tuple [.str (W f), .list [.tuple [.str (W p), .str (W [b])]]], .tup (SqT.of hx) (.cons (.str _) (.cons (.lst (SqL.of hl) (.cons (.tup (SqT.of hq) (.cons (.str _) (.cons (.str _) .nil))) .nil)) .nil)), ?_⟩
  have w0 : ∀ {n : Nat} (x : List Bool), DOk n (.str (W x)) := fun x => ⟨strOk_W x, Nat.zero_le _⟩
  refine dok_tup fun d hd => ?_
  rcases List.mem_cons.mp hd with rfl | hd
  · exact w0 _
  · rw [List.mem_singleton.mp hd]
    refine dok_list fun d hd => ?_
    rw [List.mem_singleton.mp hd]
    refine dok_tup fun d hd => ?_
    rcases List.mem_cons.mp hd with rfl | hd
    · exact w0 _
    · rw [List.mem_singleton.mp hd]; exact w0 _
theorem tolds_dp {K : PySem.W.Frag} {m n : Nat} {H : Hp} : ∀ {ts : List Addr}, (∀ x ∈ ts, Good1 m n H x) → ∃ ds, DpAll K H (ts.map V.ref) ds ∧ (∀ d ∈ ds, DOk 3 d) ∧ ds.isEmpty = ts.isEmpty
  | [], _ => ⟨[], .nil, (fun _ h => nomatch h), rfl⟩
  | x :: r, h => by
    obtain ⟨d, h1, h2⟩ := told_dp (K := K) (h x List.mem_cons_self)
    obtain ⟨ds, h3, h4, _⟩ := tolds_dp (K := K) (ts := r) fun y hy => h y (List.mem_cons_of_mem _ hy)
    refine ⟨d :: ds, .cons h1 h3, fun e he => ?_, rfl⟩
    rcases List.mem_cons.mp he with rfl | he
    · exact h2
    · exact h4 e he
theorem stOk1 {p : List Bool} {b : Bool} (h0 : p ≠ []) (h : p.length ≤ 5) : StOk [(p, b)] := by
  refine ⟨by show 1 ≤ 1000; decide, fun s hs => ?_, ?_, List.pairwise_singleton _ _⟩
  · rw [List.mem_singleton.mp hs]; exact h0
  · refine longM_max fun s hs => ?_
    rw [List.mem_singleton.mp hs]
    show p.length ≤ 9
    omega
theorem mem5 {v : V} (h : v ∈ ([.int 0, .int 1, .int 1, .int 1, .int 2] : List V)) : ∃ n : Nat, v = .int n ∧ n ≤ 2 := by
  rcases List.mem_cons.mp h with rfl | h
  · exact ⟨0, rfl, by decide⟩
  · rcases List.mem_cons.mp h with rfl | h
    · exact ⟨1, rfl, by decide⟩
    · rcases List.mem_cons.mp h with rfl | h
      · exact ⟨1, rfl, by decide⟩
      · rcases List.mem_cons.mp h with rfl | h
        · exact ⟨1, rfl, by decide⟩
        · exact ⟨2, List.mem_singleton.mp h, by decide⟩
section
variable {P : Program} {w : World} {K : PySem.W.Frag} {mg : Str → Option Value} {base : Heap}
theorem sc_l_rule : FnScope ["_law_box", "_law_widest", "_law_longest_one", "_law_some", "_law_one", "_law_turn", "_law_stuffs", "_law_more", "_law_told"] ["_law_box", "_law_widest", "_law_longest_one"] (fnScope s_l_rule) := fnScope_by (by decide +kernel)
theorem cal_l_rule {f : Addr} {fd : FuncData} (F : Def K mg "_law_rule" s_l_rule f fd) (b : Binds K fd ["_law_box", "_law_widest", "_law_longest_one"] []) (T : Tx mg) (c_l_choose : Cal P w K mg base 1 "_law_choose" spChoose []) (c_l_one_of : Cal P w K mg base 2 "_law_one_of" spOneOf []) (c_l_word : Cal P w K mg base 3 "_law_word" spWordF [])
    (c_l_is_rule : Cal P w K mg base 2 "_law_is_rule" spIsRule []) : Cal P w K mg base 4 "_law_rule" spRule [] := by
  refine cal0 F b .nil sc_l_rule (fun vs H Q E h => ?_) (fun cdv A outer s H vs Q E hr h => ?_)
  · obtain ⟨_, _, _, rfl, _⟩ := h; rfl
  · obtain ⟨bx, wd, lo, rfl, hb, w2, w100, l1, l5, k⟩ := h
    refine ⟨_, (pss_cons (ps_set (i := 3) sc_l_rule.nd rfl (.inl rfl) (pe_lst (pa_cons (pe_tup (pa_cons pe_str (pa_cons (pe_lst (pa_cons (pe_tup (pa_cons pe_str (pa_cons pe_str pa_nil))) pa_nil)) pa_nil))) (pa_cons (pe_tup (pa_cons pe_str (pa_cons (pe_lst (pa_cons (pe_tup (pa_cons pe_str (pa_cons pe_str pa_nil))) pa_nil)) pa_nil))) (pa_cons (pe_tup (pa_cons pe_str (pa_cons (pe_lst (pa_cons (pe_tup (pa_cons pe_str (pa_cons pe_str pa_nil))) pa_nil)) pa_nil))) (pa_cons (pe_tup (pa_cons pe_str (pa_cons (pe_lst (pa_cons (pe_tup (pa_cons pe_str (pa_cons pe_str pa_nil))) pa_nil)) pa_nil))) pa_nil))))))
    (pss_cons (ps_setLc (i := 3) (own := [("_law_one", 4)]) (g := gName 4) (by rfl) sc_l_rule.nd rfl rfl (sw_true rfl rfl rfl (by decide +kernel)) (pi_list (pv 3)) (blkOk_by (own := [("_law_one", 4)]) (N := ["_law_box", "_law_widest", "_law_longest_one", "_law_some", "_law_one", "_law_turn", "_law_stuffs", "_law_more", "_law_told"]) (sc := fnScope s_l_rule) (by decide +kernel)) (fun _ _ _ _ _ => (pg_name (i := 4) sc_l_rule.nd rfl (.inl rfl))) (fun _ _ _ _ _ => (pts_one (PW.pt (pw_and (pt_cmpR op_le (pe_callB call_len_str (by rfl) T.b_len (by decide +kernel) (pa_cons (pe_ix (show IxR _ (rIxT K) from ix_tup) (pv 4) pe_int (fun _ _ => rfl)) pa_nil)) (pv 1) (nomark _)) (pw_and1 (pt_cmpR op_le (pe_callB call_len_str (by rfl) T.b_len (by decide +kernel) (pa_cons (pe_ix (show IxR _ (rIxT K) from ix_tup) (pe_ix (show IxR _ (rIxL K) from ix_list) (pe_ix (show IxR _ (rIxT K) from ix_tup) (pv 4) pe_int (fun _ _ => rfl)) pe_int (fun _ _ => rfl)) pe_int (fun _ _ => rfl)) pa_nil)) (pv 2) (nomark _))))))) (fun _ _ _ _ _ => (pv 4)))
    (pss_cut (ps_if (PW.pt (pw_and (pt_cmpR (op_neD hr.units) (pv 3) (pe_lst pa_nil) (nomark _)) (pw_and1 (pt_cmpR op_eq (pe_c c_l_choose hr (by decide) rfl (pa_cons (pv 0) (pa_cons pe_int pa_nil))) pe_int (nomark _))))) (pss_one (ps_ret (pe_c c_l_one_of hr (by decide) rfl (pa_cons (pv 0) (pa_cons (pv 3) pa_nil))))) pss_nil)
    (pss_cons (ps_for PassesOwn.never rfl (pi_range1 (by rfl) T.b_range (pa_cons pe_int pa_nil)) (pg_name (i := 5) sc_l_rule.nd rfl (.inl rfl))
    (pss_cons (ps_set (i := 6) sc_l_rule.nd rfl (.inl rfl) (pe_lst pa_nil))
    (pss_cons (ps_for PassesOwn.never rfl (pi_range1 (by rfl) T.b_range (pa_cons (pe_c c_l_one_of hr (by decide) rfl (pa_cons (pv 0) (pa_cons (pe_lst (pa_cons pe_int (pa_cons pe_int (pa_cons pe_int (pa_cons pe_int (pa_cons pe_int pa_nil)))))) pa_nil))) pa_nil)) (pg_name (i := 7) sc_l_rule.nd rfl (.inl rfl))
    (pss_one (ps_expr (pe_bm PySem.F.plainAttrs_list PySem.F.slot_list_append PySem.F.type_list_append mt_append (pv 6) (pa_cons (pe_tup (pa_cons (pe_c c_l_word hr (by decide) rfl (pa_cons (pv 0) (pa_cons pe_int (pa_cons (pv 2) pa_nil)))) (pa_cons (pe_c c_l_one_of hr (by decide) rfl (pa_cons (pv 0) (pa_cons (pe_lst (pa_cons pe_str (pa_cons pe_str pa_nil))) pa_nil))) pa_nil))) pa_nil)))))
    (pss_cons (ps_set (i := 8) sc_l_rule.nd rfl (.inl rfl) (pe_tup (pa_cons (pe_c c_l_word hr (by decide) rfl (pa_cons (pv 0) (pa_cons pe_int (pa_cons (pv 1) pa_nil)))) (pa_cons (pv 6) pa_nil))))
    (pss_one (ps_if (pt_val (pe_c c_l_is_rule hr (by decide) rfl (pa_cons (pv 8) pa_nil))) (pss_one (ps_ret (pv 8))) pss_nil))))))
    (pss_one (ps_ret (pe_tup (pa_cons pe_str (pa_cons (pe_lst pa_nil) pa_nil))))))))), ?_⟩
    have i1 : 1 ≤ sizeLine := by decide
    have i2 : 2 ≤ sizeLine := by decide
    refine ⟨i2, fun a1 na1 => ⟨i1, fun a2 na2 => ⟨i2, fun a3 na3 => ?_⟩⟩⟩
    obtain ⟨sa, ta⟩ := told_const (z0 := "01110") (z1 := "11") (z2 := "0") (f := [false, true, true, true, false]) (p := [true, true]) (b := false) (by decide +kernel) (by decide +kernel) (by decide +kernel) na1 na2 na3
    generalize upd (upd (upd H a1 (.tup [.str "11", .str "0"])) a2 (.lst [.ref a1])) a3 (.tup [.str "01110", .ref a2]) = Ha at sa ta
    refine ⟨i2, fun b1 nb1 => ⟨i1, fun b2 nb2 => ⟨i2, fun b3 nb3 => ?_⟩⟩⟩
    obtain ⟨sb, tb⟩ := told_const (z0 := "0010") (z1 := "001") (z2 := "1") (f := [false, false, true, false]) (p := [false, false, true]) (b := true) (by decide +kernel) (by decide +kernel) (by decide +kernel) nb1 nb2 nb3
    generalize upd (upd (upd Ha b1 (.tup [.str "001", .str "1"])) b2 (.lst [.ref b1])) b3 (.tup [.str "0010", .ref b2]) = Hb at sb tb
    refine ⟨i2, fun c1 nc1 => ⟨i1, fun c2 nc2 => ⟨i2, fun c3 nc3 => ?_⟩⟩⟩
    obtain ⟨sc, tc⟩ := told_const (z0 := "11") (z1 := "1") (z2 := "0") (f := [true, true]) (p := [true]) (b := false) (by decide +kernel) (by decide +kernel) (by decide +kernel) nc1 nc2 nc3
    generalize upd (upd (upd Hb c1 (.tup [.str "1", .str "0"])) c2 (.lst [.ref c1])) c3 (.tup [.str "11", .ref c2]) = Hc at sc tc
    refine ⟨i2, fun d1 nd1 => ⟨i1, fun d2 nd2 => ⟨i2, fun d3 nd3 => ?_⟩⟩⟩
    obtain ⟨sd, td⟩ := told_const (z0 := "10001") (z1 := "00") (z2 := "1") (f := [true, false, false, false, true]) (p := [false, false]) (b := true) (by decide +kernel) (by decide +kernel) (by decide +kernel) nd1 nd2 nd3
    generalize upd (upd (upd Hc d1 (.tup [.str "00", .str "1"])) d2 (.lst [.ref d1])) d3 (.tup [.str "10001", .ref d2]) = Hd at sd td
    refine ⟨by show 4 ≤ sizeLine; decide, fun L nL => ?_⟩
    have sL : Same H (upd Hd L (.lst [.ref a3, .ref b3, .ref c3, .ref d3])) := ((((sa.trans sb).trans sc).trans sd)).trans (same_upd nL)
    have hL : upd Hd L (.lst [.ref a3, .ref b3, .ref c3, .ref d3]) L = some (.lst ([a3, b3, c3, d3].map V.ref)) := upd_same
    have hG : ∀ x ∈ [a3, b3, c3, d3], Good1 5 3 (upd Hd L (.lst [.ref a3, .ref b3, .ref c3, .ref d3])) x := fun x hx => by
      have g : Good1 5 3 Hd x := by
        rcases List.mem_cons.mp hx with rfl | hx
        · exact ⟨_, _, _, ((ta.same sb).same sc).same sd, by decide, by decide, by decide, by decide, okS_11⟩
        · rcases List.mem_cons.mp hx with rfl | hx
          · exact ⟨_, _, _, (tb.same sc).same sd, by decide, by decide, by decide, by decide, okS_001⟩
          · rcases List.mem_cons.mp hx with rfl | hx
            · exact ⟨_, _, _, tc.same sd, by decide, by decide, by decide, by decide, okS_1⟩
            · rw [List.mem_singleton.mp hx]
              exact ⟨_, _, _, td, by decide, by decide, by decide, by decide, okS_00⟩
      exact g.same (same_upd nL)
    generalize upd Hd L (.lst [.ref a3, .ref b3, .ref c3, .ref d3]) = H5 at sL hL hG
    clear td tc tb ta sd sc sb sa
    have las : [a3, b3, c3, d3].length ≤ 900 := by show 4 ≤ 900; decide
    generalize [a3, b3, c3, d3] = as at hL hG las
    refine ⟨_, rfl, L, rfl, ⟨_, SqL.of hL⟩, fun D nD => ?_⟩
    refine lc_it (walk_list (xs := as.map V.ref)) (fun i H2 => Same H5 H2 ∧ ∃ ts : List Addr, H2 D = some (.lst (ts.map V.ref)) ∧ ts.length ≤ i ∧ ∀ x ∈ ts, Good1 wd lo H5 x) ⟨same_upd nD, [], upd_same, Nat.zero_le _, fun _ h => nomatch h⟩ (fun i H2 _ h2 => h2.1.seq (SqL.of hL)) ?_ ?_
    · rintro i x H2 H3 hi ⟨s2, ts, hD, hts, hall⟩ ⟨rfl, hx⟩
      rw [List.getElem?_map] at hx
      obtain ⟨x, hq, rfl⟩ := Option.map_eq_some_iff.mp hx
      have g := hG x (List.mem_of_getElem? hq)
      obtain ⟨f0, p0, b0, tx, f2, f5, p1, p3, okr⟩ := id g
      obtain ⟨l, q, hx5, hl5, hq5⟩ := told1 tx
      rw [List.length_map] at hi
      have ef : (W f0).length = f0.length := W_len _
      have ep : (W p0).length = p0.length := W_len _
      refine ⟨rfl, ?_⟩
      refine ⟨_, rfl, x, _, 0, _, rfl, rfl, SqT.of (s2 _ _ hx5), rfl, _, rfl, by rw [ef]; exact sl_len (by omega), _, rfl, _, _, rfl, rfl, _, rfl, ?_⟩
      by_cases cf : f0.length ≤ wd
      · refine iteDT (by rw [ef]; omega) ?_
        refine ⟨_, rfl, x, _, 1, _, rfl, rfl, SqT.of (s2 _ _ hx5), rfl, l, _, 0, _, rfl, rfl, SqL.of (s2 _ _ hl5), rfl, q, _, 0, _, rfl, rfl, SqT.of (s2 _ _ hq5), rfl, _, rfl, by rw [ep]; exact sl_len (by omega), _, rfl, _, _, rfl, rfl, _, rfl, ?_⟩
        by_cases cp : p0.length ≤ lo
        · refine iteDT (by rw [ep]; omega) ?_
          refine ⟨_, rfl, _, hD, by rw [List.length_map]; exact sl_lt (by omega), ?_, ts ++ [x], ?_, by rw [List.length_append, List.length_cons, List.length_nil]; omega, fun y hy => ?_⟩
          · intro c' o e
            rw [upd_ne (ne_of_none e nD)]
            exact s2 _ _ e
          · rw [upd_same, List.map_append]; rfl
          · rcases List.mem_append.mp hy with m | m
            · exact hall y m
            · rw [List.mem_singleton.mp m]
              exact ⟨f0, p0, b0, tx, f2, cf, p1, cp, okr⟩
        · refine iteDF (by rw [ep]; omega) ?_
          exact ⟨s2, ts, hD, by omega, hall⟩
      · refine iteDF (by rw [ef]; omega) ?_
        exact ⟨s2, ts, hD, by omega, hall⟩
    · rintro H2 ⟨s2, ts, hD, hts, hall⟩
      rw [List.length_map] at hts
      have s02 : Same H H2 := sL.trans s2
      have hall2 : ∀ x ∈ ts, Good1 wd lo H2 x := fun x hx => (hall x hx).same s2
      clear hall hG hL
      have nDb : D ≠ bx := Box.ne (hb.same sL) nD
      have hD0 : H D = none := sL.free nD
      refine ⟨fun σ' H' => σ' = [some (.ref bx), some (.int wd), some (.int lo), some (.ref D), none, none, none, none, none] ∧ Up bx H H', ?_, ?_⟩
      · refine ⟨_, rfl, Nat.zero_le _, fun p hp => ?_⟩
        have s3 : Same H2 (upd H2 p (.lst [])) := same_upd hp
        obtain ⟨ds, hds, hok, hem⟩ := tolds_dp (K := K) fun x hx => (hall2 x hx).same s3
        refine ⟨.list ds, .list [], .lst (SqL.of (s3 _ _ hD)) hds, .lst (SqL.of upd_same) .nil, (dok_list hok).shaped (by decide), shaped_nil, _, rfl, ?_⟩
        rw [eqv_nil, hem]
        have s03 := s02.trans s3
        have hall3 : ∀ x ∈ ts, Good1 wd lo (upd H2 p (.lst [])) x := fun x hx => (hall2 x hx).same s3
        have hD3 := s3 _ _ hD
        generalize upd H2 p (.lst []) = H3 at s03 hall3 hD3
        cases hte : ts.isEmpty with
        | true => exact ⟨rfl, Up.of_same hb s03⟩
        | false =>
          have u3 := Up.of_same hb s03
          refine ⟨_, rfl, bx, 2, rfl, u3.2, by decide, by decide, fun d H4 d0 d1 u4 => ⟨rfl, _, rfl, ?_⟩⟩
          have u34 := u3.trans u4
          have hD4 := u4.1 _ _ hD3 nDb
          refine ite2 (fun _ => ?_) (fun _ => ⟨rfl, u34⟩)
          have hne : ts ≠ [] := fun z => by rw [z] at hte; cases hte
          refine ⟨_, rfl, _, rfl, bx, D, _, rfl, u34.2, hD4, nDb, ?_, ?_, fun v H5' hv u5 => ?_⟩
          · rw [List.length_map]; exact List.length_pos_iff.mpr hne
          · rw [List.length_map]; omega
          · obtain ⟨x, hx, rfl⟩ := List.mem_map.mp hv
            obtain ⟨f0, p0, b0, tx, h2, h5, hp0, hlo, okr⟩ := ((hall3 x hx).up u3.2 u4).up u34.2 u5
            refine k x f0 [(p0, b0)] H5' (u34.trans u5) tx h2 (by omega) (by show 1 ≤ 2; decide) (stOk1 hp0 (by omega)) okr fun s hs => ?_
            rw [List.mem_singleton.mp hs]
            exact hlo
      · clear hall2 hD hts s02 s2 hD0 nDb
        rintro σ' H3 ⟨rfl, u3⟩
        refine ⟨_, rfl, by decide, by decide, for_it walk_range (fun i σ H4 => ∃ v5 v6 v7 v8 : Option V, σ = [some (.ref bx), some (.int wd), some (.int lo), some (.ref D), none, v5, v6, v7, v8] ∧ Up bx H H4) ⟨_, _, _, _, rfl, u3⟩ (fun _ _ _ _ _ => trivial) ?_ ?_⟩
        · rintro i x σ H4 H4' hi ⟨v5, v6, v7, v8, rfl, u4⟩ ⟨rfl, rfl⟩
          refine ⟨Nat.zero_le _, fun S nS => ?_⟩
          have nSb : S ≠ bx := u4.2.ne nS
          have nS0 : H S = none := u4.free nS
          have u5 : Up bx H (upd H4' S (.lst [])) := u4.same (same_upd nS)
          have hS5 : upd H4' S (.lst []) S = some (.lst []) := upd_same
          generalize upd H4' S (.lst []) = H5' at u5 hS5
          refine ⟨_, rfl, by show 5 ≤ sizeLine; decide, fun l0 nl0 => ?_⟩
          have u6 := u5.same (same_upd (o := .lst [.int 0, .int 1, .int 1, .int 1, .int 2]) nl0)
          refine ⟨bx, l0, _, rfl, u6.2, upd_same, u5.2.ne nl0, by decide, by decide, fun v H7 hv u7 => ?_⟩
          obtain ⟨n, rfl, hn⟩ := mem5 hv
          have hS7 := u7.1 _ _ (same_upd nl0 _ _ hS5) nSb
          have u67 := u6.trans u7
          refine ⟨_, rfl, by omega, by omega, for_it walk_range (fun j σ H8 => ∃ (v7 : Option V) (ps : List Addr) (kb : Addr → Stf), σ = [some (.ref bx), some (.int wd), some (.int lo), some (.ref D), none, some (.int (0 + (i : Int))), some (.ref S), v7, v8] ∧ Up bx H H8 ∧ H8 S = some (.lst (ps.map V.ref)) ∧ StV H8 kb ps ∧ ps.length = j ∧ ∀ s ∈ ps.map kb, s.1 ≠ [] ∧ s.1.length ≤ lo) ⟨_, [], fun _ => ([], false), rfl, u67, hS7, (fun _ h => nomatch h), rfl, (fun _ h => nomatch h)⟩ (fun _ _ _ _ _ => trivial) ?_ ?_⟩
          · rintro j x σ H8 H8' hj ⟨v7, ps, kb, rfl, u8, hS8, hst, hps, hpat⟩ ⟨rfl, rfl⟩
            have hj2 : j < 2 := by
              have : j < ((n : Int)).toNat := hj
              omega
            refine ⟨_, rfl, .inl ⟨rfl, _, SqL.of hS8⟩, _, rfl, _, rfl, bx, 1, lo, rfl, u8.2, l1, by omega, fun pw H9 pw1 pwl u9 => ?_⟩
            have u89 := u8.trans u9
            refine ⟨_, rfl, i2, fun l1' nl1 => ?_⟩
            have u10 := u89.same (same_upd (o := .lst [.str "0", .str "1"]) nl1)
            refine ⟨bx, l1', _, rfl, u10.2, upd_same, u89.2.ne nl1, by decide, by decide, fun v H11 hv u11 => ?_⟩
            obtain ⟨bb, rfl⟩ := mem2 hv
            have u1011 := u10.trans u11
            refine ⟨i2, fun q nq => ?_⟩
            have hS11 : H11 S = some (.lst (ps.map V.ref)) := u11.1 _ _ (same_upd nl1 _ _ (u9.1 _ _ hS8 nSb)) nSb
            have hst11 : StV H11 kb ps := fun t ht => u11.1 _ _ (same_upd nl1 _ _ (u9.1 _ _ (hst t ht) (u8.2.neT (hst t ht)))) (u8.2.neT (hst t ht))
            have u12 := u1011.same (same_upd (o := .tup [.str (W pw), .str (W [bb])]) nq)
            have hS12 := same_upd (o := .tup [.str (W pw), .str (W [bb])]) nq _ _ hS11
            have hst12 : StV (upd H11 q (.tup [.str (W pw), .str (W [bb])])) (fun a => if a = q then (pw, bb) else kb a) (ps ++ [q]) := fun t ht => by
              rcases List.mem_append.mp ht with m | m
              · have nt : t ≠ q := ne_of_none (hst11 t m) nq
                rw [upd_ne nt]
                simp only [if_neg nt]
                exact hst11 t m
              · rw [List.mem_singleton.mp m, upd_same]
                simp only [if_pos]
            have hmk : (ps ++ [q]).map (fun a => if a = q then (pw, bb) else kb a) = ps.map kb ++ [(pw, bb)] := by
              rw [List.map_append]
              congr 1
              · refine List.map_congr_left fun t ht => if_neg (ne_of_none (hst11 t ht) nq)
              · show [if q = q then (pw, bb) else kb q] = _
                rw [if_pos rfl]
            generalize upd H11 q (.tup [.str (W pw), .str (W [bb])]) = H12 at u12 hS12 hst12
            refine ⟨S, _, _, rfl, rfl, hS12, by rw [List.length_map]; exact sl_lt (by omega), ?_⟩
            have uS : Up bx H (upd H12 S (.lst (ps.map V.ref ++ [.ref q]))) := u12.mut nS0 nSb
            refine ⟨_, ps ++ [q], fun a => if a = q then (pw, bb) else kb a, rfl, uS, by rw [upd_same, List.map_append]; rfl, fun t ht => ?_, by rw [List.length_append, List.length_cons, List.length_nil]; omega, ?_⟩
            · rw [upd_ne (ne_of (hst12 t ht) hS12 (by intro z; cases z))]
              exact hst12 t ht
            · rw [hmk]
              intro s hs
              rcases List.mem_append.mp hs with m | m
              · exact hpat s m
              · rw [List.mem_singleton.mp m]
                exact ⟨fun z => by rw [show pw = [] from z] at pw1; exact absurd pw1 (by decide), pwl⟩
          · rintro σ H8 ⟨v7, ps, kb, rfl, u8, hS8, hst, hps, hpat⟩
            refine ⟨_, rfl, _, rfl, bx, 2, wd, rfl, u8.2, w2, by omega, fun fw H9 fw2 fwl u9 => ⟨_, rfl, i2, fun t nt => ?_⟩⟩
            have u89 := u8.trans u9
            have hS9 := u9.1 _ _ hS8 nSb
            have hst9 : StV H9 kb ps := fun t ht => u9.1 _ _ (hst t ht) (u8.2.neT (hst t ht))
            have told : Told (upd H9 t (.tup [.str (W fw), .ref S])) t fw (ps.map kb) := ⟨S, ps, kb, upd_same, same_upd nt _ _ hS9, hst9.same (same_upd nt), rfl⟩
            have u10 := u89.same (same_upd (o := .tup [.str (W fw), .ref S]) nt)
            generalize upd H9 t (.tup [.str (W fw), .ref S]) = H10 at told u10
            have hn2 : ps.length ≤ 2 := by
              have : ps.length = ((n : Int)).toNat := hps
              omega
            refine ⟨_, rfl, t, fw, ps.map kb, rfl, told, by rw [List.length_map]; omega, fun s hs => Nat.le_trans (hpat s hs).2 l5, fun r H11 s11 hr11 => ⟨_, rfl, ?_⟩⟩
            cases r with
            | true =>
              obtain ⟨hfree, hokr⟩ := hr11 rfl
              refine ⟨_, rfl, ?_⟩
              refine k t fw (ps.map kb) H11 (u10.same s11) (told.same s11) fw2 (by omega) (by rw [List.length_map]; exact hn2) ⟨by rw [List.length_map]; omega, fun s hs => (hpat s hs).1, longM_max fun s hs => Nat.le_trans (hpat s hs).2 (by omega), hfree⟩ hokr fun s hs => (hpat s hs).2
            | false => exact ⟨_, _, _, _, rfl, u10.same s11⟩
        · rintro σ H4 ⟨v5, v6, v7, v8, rfl, u4⟩
          refine ⟨Nat.zero_le _, fun l nl => ⟨i2, fun t nt => ?_⟩⟩
          have st : Same H4 (upd (upd H4 l (.lst [])) t (.tup [.str "110", .ref l])) := (same_upd nl).trans (same_upd nt)
          refine k t [true, true, false] [] _ (u4.same st) ⟨l, [], fun _ => ([], false), ?_, same_upd nt _ _ upd_same, (fun _ h => nomatch h), rfl⟩ (by decide) (by show 3 ≤ max wd 3; omega) (Nat.zero_le _) ⟨Nat.zero_le _, (fun _ h => nomatch h), Nat.zero_le _, .nil⟩ okS_nil (fun _ h => nomatch h)
          rw [upd_same]
          have e : ("110" : Str) = W [true, true, false] := by decide +kernel
          rw [e]
end
end U
set_option maxRecDepth 100000
set_option maxHeartbeats 4000000
namespace U
open PySem PySem.Spec PyProof.Rows
open L2 hiding Fun CX0 E0 pass0 Fun.binds
open C8 Lx SX StX
def spMade (C : Addr) : Sp := fun vs H Q _ => ∃ (t : Addr) (f : List Bool) (ss : List Stf), vs = [.ref t] ∧ Told H t f ss ∧ StOk ss ∧ OkR ss ∧ 2 ≤ f.length ∧ f.length ≤ 1000 ∧
  ∀ a ss' H', Same H H' → ss'.Perm ss → SortedS ss' → RuAt C H' a f ss' → Q (.ref a) H'
theorem scal_oB (a b : Option Bool) : scal (oB a) (oB b) = true := by cases a <;> cases b <;> rfl
theorem scal_oB2 (a : Option Bool) (b : Bool) : scal (oB a) (.str (W [b])) = true := by cases a <;> rfl
def spLaw (K : PySem.W.Frag) : Sp := fun vs H Q _ => ∃ (a : Addr) (ns : List Int), vs = [.ref a] ∧ SqL K H a (ns.map V.int) ∧ ns.length ≤ 63 ∧ ∀ H', Q (.bl true) H'
theorem one_ends {ss : List Stf} (h : SufFree ss) (l : List Bool) : (ss.filter fun s => s.1.isSuffixOf l).length ≤ 1 := by
  have hp : (ss.filter fun s => s.1.isSuffixOf l).Pairwise fun a b => ¬ a.1 <:+ b.1 ∧ ¬ b.1 <:+ a.1 := List.Pairwise.filter _ h
  have hm : ∀ s ∈ ss.filter fun s => s.1.isSuffixOf l, s.1 <:+ l := fun s hs => List.isSuffixOf_iff_suffix.mp (List.mem_filter.mp hs).2
  generalize ss.filter (fun s => s.1.isSuffixOf l) = fs at hp hm
  match fs, hp, hm with
  | [], _, _ => exact Nat.zero_le _
  | [_], _, _ => exact Nat.le_refl _
  | a :: b :: r, hp, hm =>
    have h1 := (List.pairwise_cons.mp hp).1 b List.mem_cons_self
    rcases List.suffix_or_suffix_of_suffix (hm a List.mem_cons_self) (hm b (List.mem_cons_of_mem _ List.mem_cons_self)) with z | z
    · exact absurd z h1.1
    · exact absurd z h1.2
theorem put_app {ss : List Stf} (h : SufFree ss) {p : List Bool} {b : Bool} (hm : (p, b) ∈ ss) (x : List Bool) : putM ss (x ++ p) = some b := (put_iff h).mpr ⟨p, hm, List.suffix_append _ _⟩
theorem put_tail {ss : List Stf} (h : SufFree ss) {p : List Bool} {b : Bool} (hm : (p, b) ∈ ss) (hp : p ≠ []) : putM ss p.tail = none := by
  cases e : putM ss p.tail with
  | none => rfl
  | some c =>
    obtain ⟨q, hq, hs⟩ := (put_iff h).mp e
    have hl := hs.length_le
    have hpl : 0 < p.length := List.length_pos_iff.mpr hp
    rw [List.length_tail] at hl
    have ne : (q, c) ≠ (p, b) := fun z => by
      have : q = p := congrArg Prod.fst z
      rw [this] at hl
      omega
    exact absurd (hs.trans (List.tail_suffix p)) (h.ne hq hm ne)
def reprO : Option Bool → Str
  | none => "None"
  | some b => reprText (W [b])
theorem reprO_len (b : Bool) : (reprText (W [b])).length ≤ sizeLine := by
  have e : (reprText (W [b])).length ≤ 10 := by cases b <;> decide +kernel
  exact Nat.le_trans e (by decide)
theorem call_repr_oB {X : Cx} : CallR X (.builtin "repr") (fun xs H Q => ∃ o, xs = [oB o] ∧ Q (.str (reprO o)) H) := by
  intro pins s σ H xs us Q I r h
  obtain ⟨o, rfl, q⟩ := h
  obtain ⟨u, rfl, ru⟩ := vals1 r
  cases o with
  | none =>
    obtain rfl : u = Value.none := ru
    exact PySem.P.repr_of_none ⟨.str _, H, I.tok _, ⟨_, rfl⟩, q⟩
  | some b =>
    obtain ⟨t, rfl⟩ := ru
    exact PySem.P.repr_of_str ⟨.str _, H, I.tok _, ⟨_, rfl⟩, q⟩ (reprO_len b)
section
variable {P : Program} {w : World} {K : PySem.W.Frag} {mg : Str → Option Value} {base : Heap}
theorem sc_l_made : FnScope ["_law_rule_here"] ["_law_rule_here"] (fnScope s_l_made) := fnScope_by (by decide +kernel)
theorem cal_l_made {f C : Addr} {fd : FuncData} (F : Def K mg "_law_made" s_l_made f fd) (b : Binds K fd ["_law_rule_here"] []) (T : Tx mg) (m_Rule2 : Mak P w K mg base 5 "Rule" C (spRuInit K C) []) : Cal P w K mg base 7 "_law_made" (spMade C) [] := by
  refine cal0 F b .nil sc_l_made (fun vs H Q E h => ?_) (fun cdv A outer s H vs Q E hr h => ?_)
  · obtain ⟨_, _, _, rfl, _⟩ := h; rfl
  · obtain ⟨t, fl, ss, rfl, ⟨l, ps, kb, ht, hl, hs, rfl⟩, ok, hO, h2, hlen, k⟩ := h
    refine ⟨_, (pss_one (ps_ret (pe_mk m_Rule2 hr (by decide) rfl (pa_cons (pe_ix ix_tup (pv 0) pe_int (fun _ _ => rfl)) (pa_cons (pe_ix ix_tup (pv 0) pe_int (fun _ _ => rfl)) pa_nil))))), ?_⟩
    refine ⟨_, rfl, t, _, 0, _, rfl, rfl, SqT.of ht, rfl, _, rfl, t, _, 1, _, rfl, rfl, SqT.of ht, rfl, fun x dx nx ndx nex => ?_⟩
    have sm : Same H (upd (upd H dx (.own x)) x (.ins C dx [])) := fun c o e => by
      rw [upd_ne (ne_of_none e nx), upd_ne (ne_of_none e ndx)]; exact e
    refine ⟨x, dx, l, fl, ps, kb, rfl, upd_same, .inl (SqL.of (sm _ _ hl)), hs.same sm, ok, hO, h2, hlen, fun H' ss' keep pm srt hR => ⟨rfl, ?_⟩⟩
    exact k x ss' H' (Same.made nx ndx keep) pm srt hR
end
end U
set_option maxRecDepth 100000
set_option maxHeartbeats 4000000
namespace U
open PySem PySem.Spec PyProof.Rows
open L2 hiding Fun CX0 E0 pass0 Fun.binds
open C8 Lx SX StX
def wdsP : Nat → List (List Bool)
  | 0 => [[]]
  | n + 1 => (wdsP n).map (false :: ·) ++ (wdsP n).map (true :: ·)
theorem wdsP_len : ∀ n, (wdsP n).length = 2 ^ n
  | 0 => rfl
  | n + 1 => by
    show ((wdsP n).map (false :: ·) ++ (wdsP n).map (true :: ·)).length = _
    rw [List.length_append, List.length_map, List.length_map, wdsP_len n, Nat.pow_succ]
    omega
theorem wdsP_size : ∀ {n : Nat} {w : List Bool}, w ∈ wdsP n → w.length = n
  | 0, w, h => by rw [List.mem_singleton.mp h]; rfl
  | n + 1, w, h => by
    rcases List.mem_append.mp h with h1 | h1
    · obtain ⟨v, hv, rfl⟩ := List.mem_map.mp h1
      rw [List.length_cons, wdsP_size hv]
    · obtain ⟨v, hv, rfl⟩ := List.mem_map.mp h1
      rw [List.length_cons, wdsP_size hv]
theorem num_acc : ∀ (w : List Bool) (a : Nat), w.foldl (fun n b => 2 * n + (if b then 1 else 0)) a = a * 2 ^ w.length + num w
  | [], a => by show a = a * 1 + 0; omega
  | b :: r, a => by
    have h1 := num_acc r (2 * a + (if b then 1 else 0))
    have h2 := num_acc r (2 * 0 + (if b then 1 else 0))
    show r.foldl _ (2 * a + (if b then 1 else 0)) = a * 2 ^ (r.length + 1) + r.foldl _ (2 * 0 + (if b then 1 else 0))
    rw [h1, h2, Nat.pow_succ, Nat.add_mul, Nat.add_mul]
    have : 2 * a * 2 ^ r.length = a * (2 ^ r.length * 2) := by rw [Nat.mul_comm 2 a, Nat.mul_assoc, Nat.mul_comm 2]
    omega
theorem num_cons (b : Bool) (w : List Bool) : num (b :: w) = (if b then 2 ^ w.length else 0) + num w := by
  have := num_acc w (2 * 0 + (if b then 1 else 0))
  show w.foldl _ (2 * 0 + (if b then 1 else 0)) = _
  rw [this]
  cases b <;> simp
theorem num_lt : ∀ w : List Bool, num w < 2 ^ w.length
  | [] => by show 0 < 1; decide
  | b :: r => by
    have := num_lt r
    rw [num_cons, List.length_cons, Nat.pow_succ]
    split <;> omega
theorem wdsP_at : ∀ (m : List Bool), (wdsP m.length)[num m]? = some m
  | [] => rfl
  | b :: r => by
    have ih := wdsP_at r
    have hl := num_lt r
    have e : (wdsP r.length).length = 2 ^ r.length := wdsP_len _
    rw [num_cons]
    show ((wdsP r.length).map (false :: ·) ++ (wdsP r.length).map (true :: ·))[_]? = _
    cases b with
    | false =>
      rw [if_neg (by decide), Nat.zero_add, List.getElem?_append_left (by rw [List.length_map]; omega), List.getElem?_map, ih]
      rfl
    | true =>
      rw [if_pos rfl, List.getElem?_append_right (by rw [List.length_map]; omega), List.length_map, e, List.getElem?_map, show 2 ^ r.length + num r - 2 ^ r.length = num r by omega, ih]
      rfl
theorem num_inj : ∀ {a b : List Bool}, a.length = b.length → num a = num b → a = b := by
  intro a b hl hn
  have h1 := wdsP_at a
  have h2 := wdsP_at b
  rw [hl, hn, h2] at h1
  exact (Option.some.inj h1).symm
theorem wdsP_num {n i : Nat} {w : List Bool} (h : (wdsP n)[i]? = some w) : num w = i := by
  have hs := wdsP_size (List.mem_of_getElem? h)
  have hi := (List.getElem?_eq_some_iff.mp h).1
  rw [wdsP_len] at hi
  -- the words are told one by one
  have : ∀ n i w, (wdsP n)[i]? = some w → num w = i := by
    intro n
    induction n with
    | zero =>
      intro i w h
      have := (List.getElem?_eq_some_iff.mp h).1
      have hi : i = 0 := by simpa [wdsP] using this
      subst hi
      have : w = [] := by simpa [wdsP] using h.symm
      rw [this]; rfl
    | succ n ih =>
      intro i w h
      have e : (wdsP n).length = 2 ^ n := wdsP_len _
      have h' : ((wdsP n).map (false :: ·) ++ (wdsP n).map (true :: ·))[i]? = some w := h
      by_cases c : i < 2 ^ n
      · rw [List.getElem?_append_left (by rw [List.length_map]; omega), List.getElem?_map] at h'
        obtain ⟨v, hv, rfl⟩ := Option.map_eq_some_iff.mp h'
        rw [num_cons, if_neg (by decide), ih i v hv, Nat.zero_add]
      · rw [List.getElem?_append_right (by rw [List.length_map]; omega), List.length_map, e, List.getElem?_map] at h'
        obtain ⟨v, hv, rfl⟩ := Option.map_eq_some_iff.mp h'
        rw [num_cons, if_pos rfl, ih _ v hv, wdsP_size (List.mem_of_getElem? hv)]
        omega
  exact this n i w h
theorem first_of {n : Nat} {p : List Bool → Bool} {m : List Bool} {r : List (List Bool)} (h : (wdsP n).filter p = m :: r) : m.length = n ∧ p m = true ∧ ∀ m', m'.length = n → num m' < num m → p m' = false := by
  have h1 : (wdsP n).find? p = some m := by rw [← List.head?_filter, h]; rfl
  have hm := List.mem_of_find?_eq_some h1
  refine ⟨wdsP_size hm, List.find?_some h1, fun m' hl hn => ?_⟩
  obtain ⟨_, i, hi, e1, e2⟩ := List.find?_eq_some_iff_getElem.mp h1
  have ei : num m = i := wdsP_num (n := n) (by rw [List.getElem?_eq_getElem hi, e1])
  have h3 := wdsP_at m'
  rw [hl] at h3
  obtain ⟨h4, h5⟩ := List.getElem?_eq_some_iff.mp h3
  have := e2 (num m') (by omega)
  rw [h5] at this
  simpa using this
theorem none_of {n : Nat} {p : List Bool → Bool} (h : (wdsP n).filter p = []) : ∀ m', m'.length = n → p m' = false := fun m' hl => by
  have h3 := wdsP_at m'
  rw [hl] at h3
  have := List.filter_eq_nil_iff.mp h m' (List.mem_of_getElem? h3)
  simpa using this
def wdsV (ws : List (List Bool)) : List V := ws.map fun w => V.str (W w)
def wdsD (ws : List (List Bool)) : List PyData := ws.map fun w => PyData.str (W w)
theorem wdsV_len (ws : List (List Bool)) : (wdsV ws).length = ws.length := List.length_map _
theorem wdsV_app (a b : List (List Bool)) : wdsV (a ++ b) = wdsV a ++ wdsV b := List.map_append
theorem wdsV_get {ws : List (List Bool)} {i : Nat} {x : V} (h : (wdsV ws)[i]? = some x) : ∃ w, ws[i]? = some w ∧ x = .str (W w) := by
  unfold wdsV at h
  rw [List.getElem?_map] at h
  obtain ⟨w, hw, rfl⟩ := Option.map_eq_some_iff.mp h
  exact ⟨w, hw, rfl⟩
theorem dp_wds {K : PySem.W.Frag} {H : Hp} : ∀ ws : List (List Bool), DpAll K H (wdsV ws) (wdsD ws)
  | [] => .nil
  | w :: r => .cons (.str _) (dp_wds r)
theorem ok_W (l : List Bool) : PyData.strOk (W l) = true := by
  unfold PyData.strOk
  show ((l.map bt).toArray.all _) = true
  rw [List.all_toArray, List.all_map, List.all_eq_true]
  intro b _
  cases b <;> rfl
theorem lay_wds : ∀ ws : List (List Bool), PyData.canLayAll0 (wdsD ws) = true ∧ PyData.depthAll (wdsD ws) = 0
  | [] => by simp [wdsD, PyData.canLayAll0, PyData.depthAll]
  | w :: r => by
    obtain ⟨h1, h2⟩ := lay_wds r
    show PyData.canLayAll0 (PyData.str (W w) :: wdsD r) = true ∧ PyData.depthAll (PyData.str (W w) :: wdsD r) = 0
    rw [PyData.canLayAll0, PyData.depthAll, h1, h2, PyData.canLay0, PyData.depth, ok_W]
    exact ⟨rfl, rfl⟩
theorem shaped_wds (ws : List (List Bool)) : SeqAt.shaped (.list (wdsD ws)) = true := by
  unfold SeqAt.shaped
  rw [PyData.canLay0, (lay_wds ws).1, PyData.depth, (lay_wds ws).2]
  rfl
theorem eqv_wnil (ws : List (List Bool)) : PyData.eqv (.list (wdsD ws)) (.list []) = ws.isEmpty := by
  cases ws with
  | nil => simp [wdsD, PyData.eqv, PyData.eqvAll]
  | cons w r => simp [wdsD, PyData.eqv, PyData.eqvAll]
def spWordsP : Sp := fun vs H Q _ => ∃ n : Nat, vs = [.int n] ∧ n ≤ 12 ∧ ∀ l H', H l = none → Same H H' → H' l = some (.lst (wdsV (wdsP n))) → Q (.ref l) H'
section
variable {P : Program} {w : World} {K : PySem.W.Frag} {mg : Str → Option Value} {base : Heap}
end
end U
set_option maxRecDepth 100000
set_option maxHeartbeats 4000000
namespace U
open PySem PySem.Spec PyProof.Rows
open L2 hiding Fun CX0 E0 pass0 Fun.binds
open C8 Lx SX StX
def cM (ss : List Stf) (t : List Bool) (b : Bool) : Nat := (itP ss 40 (t ++ [b])).length - (t.length + 1)
def nM (ss : List Stf) (t : List Bool) (b : Bool) : List Bool := tl (longM ss) (itP ss 40 (t ++ [b]))
def costM (ss : List Stf) : List Bool → List Bool → Nat
  | _, [] => 0
  | t, b :: m => cM ss t b + costM ss (nM ss t b) m
def bstM (ss : List Stf) : Nat → List Bool → Nat
  | 0, _ => 0
  | k + 1, t => max (cM ss t false + bstM ss k (nM ss t false)) (cM ss t true + bstM ss k (nM ss t true))
theorem cost_le {ss : List Stf} : ∀ {m t : List Bool}, costM ss t m ≤ bstM ss m.length t
  | [], _ => Nat.le_refl _
  | b :: m, t => by
    have := cost_le (ss := ss) (m := m) (t := nM ss t b)
    show cM ss t b + costM ss (nM ss t b) m ≤ max _ _
    cases b <;> omega
def dearM (ss : List Stf) : Nat → List Bool → List Bool
  | 0, _ => []
  | k + 1, t => if cM ss t false + bstM ss k (nM ss t false) = bstM ss (k + 1) t then false :: dearM ss k (nM ss t false) else true :: dearM ss k (nM ss t true)
theorem dear_len {ss : List Stf} : ∀ {k : Nat} {t : List Bool}, (dearM ss k t).length = k
  | 0, _ => rfl
  | k + 1, t => by
    unfold dearM
    split <;> rw [List.length_cons, dear_len]
theorem dear_cost {ss : List Stf} : ∀ {k : Nat} {t : List Bool}, costM ss t (dearM ss k t) = bstM ss k t
  | 0, _ => rfl
  | k + 1, t => by
    unfold dearM
    split
    · rename_i h
      rw [← h]
      show cM ss t false + costM ss (nM ss t false) (dearM ss k _) = _
      rw [dear_cost]
    · rename_i h
      show cM ss t true + costM ss (nM ss t true) (dearM ss k _) = _
      rw [dear_cost]
      have e : bstM ss (k + 1) t = max (cM ss t false + bstM ss k (nM ss t false)) (cM ss t true + bstM ss k (nM ss t true)) := rfl
      omega
theorem dear_least {ss : List Stf} : ∀ {m t : List Bool}, costM ss t m = bstM ss m.length t → num (dearM ss m.length t) ≤ num m
  | [], _, _ => Nat.le_refl _
  | b :: m, t, h => by
    have h' : cM ss t b + costM ss (nM ss t b) m = bstM ss (m.length + 1) t := h
    have e : bstM ss (m.length + 1) t = max (cM ss t false + bstM ss m.length (nM ss t false)) (cM ss t true + bstM ss m.length (nM ss t true)) := rfl
    have hc := cost_le (ss := ss) (m := m) (t := nM ss t b)
    show num (dearM ss (m.length + 1) t) ≤ _
    unfold dearM
    split
    · rename_i hf
      cases b with
      | false =>
        have := dear_least (ss := ss) (m := m) (t := nM ss t false) (by omega)
        rw [num_cons, num_cons, dear_len]
        omega
      | true =>
        rw [num_cons, num_cons]
        have := num_lt (dearM ss m.length (nM ss t false))
        rw [dear_len] at this
        simp
        omega
    · rename_i hf
      cases b with
      | false => exact absurd (by omega) hf
      | true =>
        have := dear_least (ss := ss) (m := m) (t := nM ss t true) (by omega)
        rw [num_cons, num_cons, dear_len]
        omega
theorem body_cost {ss : List Stf} (o : OkN 39 ss) : ∀ (m m0 : List Bool), (bodyF ss (m0 ++ m)).length = (bodyF ss m0).length + m.length + costM ss (tl (longM ss) (bodyF ss m0)) m
  | [], m0 => by rw [List.append_nil]; rfl
  | b :: m, m0 => by
    have ih := body_cost o m (m0 ++ [b])
    rw [List.append_assoc] at ih
    have hL : ∀ s ∈ ss, s.1.length ≤ longM ss := fun s hs => longM_le hs
    obtain ⟨x, hx, hl, eb⟩ := ins40 o m0 b
    have et : tl (longM ss) (bodyF ss m0 ++ [b]) = tl (longM ss) (tl (longM ss) (bodyF ss m0) ++ [b]) := tl_app (tl_tl (Nat.le_refl _) _).symm [b]
    have hx2 : Ins ss (tl (longM ss) (bodyF ss m0) ++ [b]) x := hx.tl hL et
    have e40 : itP ss 40 (tl (longM ss) (bodyF ss m0) ++ [b]) = tl (longM ss) (bodyF ss m0) ++ [b] ++ x := by rw [hx2.itP, List.take_of_length_le (by omega)]
    have ec : cM ss (tl (longM ss) (bodyF ss m0)) b = x.length := by
      unfold cM
      rw [e40, List.length_append, List.length_append]
      simp
    have en : nM ss (tl (longM ss) (bodyF ss m0)) b = tl (longM ss) (bodyF ss (m0 ++ [b])) := by
      unfold nM
      rw [e40, eb]
      exact (tl_app et x).symm
    show (bodyF ss (m0 ++ ([b] ++ m))).length = (bodyF ss m0).length + (m.length + 1) + (cM ss (tl (longM ss) (bodyF ss m0)) b + costM ss (nM ss (tl (longM ss) (bodyF ss m0)) b) m)
    rw [ih, ec, en, eb, List.length_append, List.length_append]
    simp
    omega
end U
set_option maxRecDepth 100000
set_option maxHeartbeats 4000000
namespace U
open PySem PySem.Spec PyProof.Rows
open L2 hiding Fun CX0 E0 pass0 Fun.binds
open C8 Lx SX StX
def kvw (ws : List (List Bool)) (g : List Bool → V) : List (Key × V) := ws.map fun w => (Sum.inr (W w), g w)
def ug {α : Type} (g : List Bool → α) (w : List Bool) (v : α) : List Bool → α := fun u => if u = w then v else g u
theorem ug_same {α : Type} {g : List Bool → α} {w : List Bool} {v : α} : ug g w v w = v := if_pos rfl
theorem ug_ne {α : Type} {g : List Bool → α} {w u : List Bool} {v : α} (h : u ≠ w) : ug g w v u = g u := if_neg h
theorem key_iff {a b : List Bool} : ((Sum.inr (W a) : Key) = Sum.inr (W b)) ↔ a = b := ⟨fun h => W_inj (Sum.inr.inj h), fun h => by rw [h]⟩
theorem kvw_len (ws : List (List Bool)) (g : List Bool → V) : (kvw ws g).length = ws.length := List.length_map _
theorem kvw_congr {ws : List (List Bool)} {g h : List Bool → V} (e : ∀ w ∈ ws, g w = h w) : kvw ws g = kvw ws h := List.map_congr_left fun w hw => by rw [e w hw]
theorem kvw_val {g : List Bool → V} {w : List Bool} : ∀ {ws : List (List Bool)}, valV (kvw ws g) (Sum.inr (W w)) = if w ∈ ws then some (g w) else none
  | [] => rfl
  | u :: r => by
    show valV ((Sum.inr (W u), g u) :: kvw r g) (Sum.inr (W w)) = _
    by_cases c : u = w
    · subst c
      rw [valV_pos rfl, if_pos List.mem_cons_self]
    · have e : valV ((Sum.inr (W u), g u) :: kvw r g) (Sum.inr (W w)) = valV (kvw r g) (Sum.inr (W w)) := by
        unfold valV
        rw [List.find?_cons_of_neg (by rw [decide_eq_true_iff]; exact fun z => c (key_iff.mp z))]
      rw [e, kvw_val]
      by_cases d : w ∈ r
      · rw [if_pos d, if_pos (List.mem_cons_of_mem _ d)]
      · rw [if_neg d, if_neg (fun z => (List.mem_cons.mp z).elim (fun z => c z.symm) d)]
theorem kvw_any {ws : List (List Bool)} {g : List Bool → V} {w : List Bool} : ((kvw ws g).any fun kv => decide (kv.1 = Sum.inr (W w))) = true ↔ w ∈ ws := by
  unfold kvw
  rw [List.any_map, List.any_eq_true]
  constructor
  · rintro ⟨u, hu, e⟩
    rw [← key_iff.mp (of_decide_eq_true e)]
    exact hu
  · exact fun h => ⟨w, h, decide_eq_true rfl⟩
theorem kvw_put {ws : List (List Bool)} {g : List Bool → V} {w : List Bool} {v : V} (h : w ∈ ws) : putK (kvw ws g) (Sum.inr (W w)) v = kvw ws (ug g w v) := by
  unfold putK
  rw [if_pos (kvw_any.mpr h)]
  unfold kvw
  rw [List.map_map]
  refine List.map_congr_left fun u hu => ?_
  show (if (Sum.inr (W u) : Key) = Sum.inr (W w) then ((Sum.inr (W u) : Key), v) else (Sum.inr (W u), g u)) = _
  by_cases c : u = w
  · rw [if_pos (key_iff.mpr c), c, ug_same]
  · rw [if_neg (fun z => c (key_iff.mp z)), ug_ne c]
theorem kvw_new {ws : List (List Bool)} {g : List Bool → V} {w : List Bool} {v : V} (h : w ∉ ws) : putK (kvw ws g) (Sum.inr (W w)) v = kvw (ws ++ [w]) (ug g w v) := by
  unfold putK
  rw [if_neg (fun z => h (kvw_any.mp z))]
  unfold kvw
  rw [List.map_append]
  congr 1
  · exact List.map_congr_left fun u hu => by
      have c : u ≠ w := fun z => h (by rw [← z]; exact hu)
      rw [ug_ne c]
  · show _ = [(Sum.inr (W w), ug g w v w)]
    rw [ug_same]
end U
set_option maxRecDepth 100000
set_option maxHeartbeats 4000000
namespace U
open PySem PySem.Spec PyProof.Rows
open L2 hiding Fun CX0 E0 pass0 Fun.binds
open C8 Lx SX StX
section
variable {J : It} {n : Nat} {G : Hp → Prop} {Y : Nat → Hp → V → Hp → Prop}
theorem dc_it (w : Walk J n G Y) {g : TG} {tt : TT} {tk tv : TE} {vs : List Nat} {σ : L2.St} {H1 : Hp} {D : Addr} {Qd : Hp → Prop} (Pv : Nat → Hp → Prop) (h0 : Pv 0 (upd H1 D (.dK []))) (hG : ∀ i H, i ≤ n → Pv i H → G H)
    (hs : ∀ i x H H', i < n → Pv i H → Y i H x H' → g x (wipe σ vs) H' fun σ2 H2 => wipe σ2 vs = wipe σ vs ∧ tt σ2 H2 fun b H3 =>
      if b = true then tk σ2 H3 fun y H4 => tv σ2 H4 fun z H5 => ∃ kvs k, y = kV k ∧ H5 D = some (.dK kvs) ∧ kvs.length < sizeLine ∧ Pv (i + 1) (upd H5 D (.dK (putK kvs k z))) else Pv (i + 1) H3) (hd : ∀ H, Pv n H → Qd H) :
    ∃ W : Nat → Nat → Hp → Prop, (∃ m, W 0 m (upd H1 D (.dK []))) ∧ ∀ i m H, W i m H →
      (J.stop i H ∧ Qd H) ∨ (J.go i H ∧ ∃ Nx : Hp → Prop, (∀ H', Nx H' → ∃ m', m' < m ∧ W (i + 1) m' H') ∧ ∀ x H', J.yld i H x H' → g x (wipe σ vs) H' fun σ2 H2 => wipe σ2 vs = wipe σ vs ∧ tt σ2 H2 fun b H3 =>
        if b = true then tk σ2 H3 fun y H4 => tv σ2 H4 fun z H5 => ∃ kvs k, y = kV k ∧ H5 D = some (.dK kvs) ∧ kvs.length < sizeLine ∧ Nx (upd H5 D (.dK (putK kvs k z))) else Nx H3) := by
  refine ⟨fun i m H => m = n - i ∧ i ≤ n ∧ Pv i H, ⟨n, by simp, Nat.zero_le _, h0⟩, ?_⟩
  rintro i m H ⟨rfl, hi, p⟩
  have q := hG i H hi p
  by_cases hlt : i < n
  · refine .inr ⟨w.goes i H hlt q, Pv (i + 1), fun H' p' => ⟨n - (i + 1), by omega, rfl, hlt, p'⟩, fun x H' y => hs i x H H' hlt p (w.yields i H x H' hlt q y)⟩
  · have e : i = n := by omega
    subst e
    exact .inl ⟨w.stops H q, hd H p⟩
end
theorem rd_same {H H' : Hp} {d : Addr} {o : HO} (h : Rd H d o) (s : Same H H') : Rd H' d o := by
  rcases h with h | ⟨od, h⟩
  · exact .inl (s _ _ h)
  · exact .inr ⟨od, s _ _ h⟩
theorem same_unlock {H H' : Hp} {d : Addr} {u o : HO} (h : Same (upd H d o) H') (hd : H d = some u) : Same H (upd H' d u) := fun c x e => by
  by_cases n : c = d
  · rw [n, upd_same, ← hd, ← n, e]
  · rw [upd_ne n]
    exact h _ _ (by rw [upd_ne n]; exact e)
theorem kvw_get {ws : List (List Bool)} {g : List Bool → V} {i : Nat} {k : Key} {v : V} (h : (kvw ws g)[i]? = some (k, v)) : ∃ w, ws[i]? = some w ∧ k = Sum.inr (W w) ∧ v = g w := by
  unfold kvw at h
  rw [List.getElem?_map] at h
  obtain ⟨w, hw, e⟩ := Option.map_eq_some_iff.mp h
  cases e
  exact ⟨w, hw, rfl, rfl⟩
theorem kvw_snoc {ws : List (List Bool)} {g : List Bool → V} {w : List Bool} {v : V} (h : w ∉ ws) (e : v = g w) : putK (kvw ws g) (Sum.inr (W w)) v = kvw (ws ++ [w]) g := by
  rw [kvw_new h]
  refine kvw_congr fun u hu => ?_
  by_cases c : u = w
  · rw [c, ug_same, e]
  · exact ug_ne c
theorem nodup_take {α : Type} {ws : List α} {i : Nat} {u : α} (h : ws.Nodup) (hu : ws[i]? = some u) : u ∉ ws.take i := fun z => by
  obtain ⟨j, hj⟩ := List.getElem?_of_mem z
  have hj2 := (List.getElem?_eq_some_iff.mp hj).1
  rw [List.length_take] at hj2
  rw [List.getElem?_take, if_pos (by omega)] at hj
  obtain ⟨a1, a2⟩ := List.getElem?_eq_some_iff.mp hu
  obtain ⟨b1, b2⟩ := List.getElem?_eq_some_iff.mp hj
  have := (List.nodup_iff_pairwise_ne.mp h)
  have hne := List.pairwise_iff_getElem.mp this j i b1 a1 (by omega)
  exact hne (by rw [b2, a2])
theorem take_snoc {α : Type} {ws : List α} {i : Nat} {u : α} (hu : ws[i]? = some u) : ws.take (i + 1) = ws.take i ++ [u] := by
  rw [List.take_add_one, hu]; rfl
end U
set_option maxRecDepth 100000
set_option maxHeartbeats 1000000
namespace U
open PySem PySem.Spec PyProof.Rows
open L2 hiding Fun CX0 E0 pass0 Fun.binds
open C8 Lx SX StX
def allM (ss : List Stf) : Nat → List Bool → Nat
  | 0, _ => 0
  | k + 1, t => (2 ^ k * cM ss t false + allM ss k (nM ss t false)) + (2 ^ k * cM ss t true + allM ss k (nM ss t true))
theorem sum_add {α : Type} (f g : α → Nat) : ∀ l : List α, (l.map fun x => f x + g x).sum = (l.map f).sum + (l.map g).sum
  | [] => rfl
  | x :: r => by
    rw [List.map_cons, List.map_cons, List.map_cons, List.sum_cons, List.sum_cons, List.sum_cons, sum_add f g r]
    omega
theorem sum_const {α : Type} (c : Nat) : ∀ l : List α, (l.map fun _ => c).sum = l.length * c
  | [] => by simp
  | x :: r => by
    rw [List.map_cons, List.sum_cons, sum_const c r, List.length_cons, Nat.succ_mul]
    omega
theorem all_sum {ss : List Stf} : ∀ {n : Nat} {t : List Bool}, ((wdsP n).map (costM ss t)).sum = allM ss n t
  | 0, _ => rfl
  | n + 1, t => by
    have h : ∀ b, (((wdsP n).map (b :: ·)).map (costM ss t)).sum = 2 ^ n * cM ss t b + allM ss n (nM ss t b) := fun b => by
      rw [List.map_map]
      have e : (costM ss t ∘ (b :: ·)) = fun m => cM ss t b + costM ss (nM ss t b) m := rfl
      rw [e, sum_add, sum_const, wdsP_len, all_sum]
    show (((wdsP n).map (false :: ·) ++ (wdsP n).map (true :: ·)).map (costM ss t)).sum = _
    rw [List.map_append, List.sum_append, h, h]
    rfl
def restS (ss : List Stf) (k : Nat) (ws : List (List Bool)) (c : List Bool → Nat) : Nat := (ws.map fun w => c w * allM ss k w).sum
def cntAt (ws : List (List Bool)) (c : List Bool → Nat) (w : List Bool) : Nat := if w ∈ ws then c w else 0
theorem rest_ug {ss : List Stf} {k : Nat} {w : List Bool} {v : Nat} {c : List Bool → Nat} : ∀ {ws : List (List Bool)}, ws.Nodup → w ∈ ws → restS ss k ws (ug c w v) + c w * allM ss k w = restS ss k ws c + v * allM ss k w
  | [], _, h => by cases h
  | u :: r, hn, h => by
    obtain ⟨h1, h2⟩ := List.nodup_cons.mp hn
    unfold restS
    rw [List.map_cons, List.map_cons, List.sum_cons, List.sum_cons]
    rcases List.mem_cons.mp h with e | hm
    · subst e
      have er : (r.map fun x => ug c w v x * allM ss k x) = r.map fun x => c x * allM ss k x := List.map_congr_left fun x hx => by rw [ug_ne (fun z : x = _ => h1 (by rw [← z]; exact hx))]
      rw [er, ug_same]
      omega
    · have := rest_ug (ss := ss) (k := k) (w := w) (v := v) (c := c) h2 hm
      unfold restS at this
      rw [ug_ne (fun z => h1 (by rw [z]; exact hm))]
      omega
theorem rest_new {ss : List Stf} {k : Nat} {w : List Bool} {v : Nat} {c : List Bool → Nat} {ws : List (List Bool)} (h : w ∉ ws) : restS ss k (ws ++ [w]) (ug c w v) = restS ss k ws c + v * allM ss k w := by
  unfold restS
  rw [List.map_append, List.sum_append]
  have er : (ws.map fun x => ug c w v x * allM ss k x) = ws.map fun x => c x * allM ss k x := List.map_congr_left fun x hx => by rw [ug_ne (fun z : x = _ => h (by rw [← z]; exact hx))]
  rw [er]
  show _ + ((ug c w v w * allM ss k w) + 0) = _
  rw [ug_same, Nat.add_zero]
def addW (ws : List (List Bool)) (w : List Bool) : List (List Bool) := if w ∈ ws then ws else ws ++ [w]
theorem addW_mem {ws : List (List Bool)} {w u : List Bool} (h : u ∈ addW ws w) : u ∈ ws ∨ u = w := by
  unfold addW at h
  split at h
  · exact .inl h
  · rcases List.mem_append.mp h with h | h
    · exact .inl h
    · exact .inr (List.mem_singleton.mp h)
theorem addW_in {ws : List (List Bool)} {w : List Bool} : w ∈ addW ws w := by
  unfold addW
  split
  · assumption
  · exact List.mem_append_right _ (List.mem_singleton.mpr rfl)
theorem addW_old {ws : List (List Bool)} {w u : List Bool} (h : u ∈ ws) : u ∈ addW ws w := by
  unfold addW
  split
  · exact h
  · exact List.mem_append_left _ h
theorem addW_nd {ws : List (List Bool)} {w : List Bool} (h : ws.Nodup) : (addW ws w).Nodup := by
  unfold addW
  split
  · exact h
  · rename_i hm
    rw [List.nodup_append]
    exact ⟨h, List.nodup_cons.mpr ⟨List.not_mem_nil, List.nodup_nil⟩, fun a ha b hb z => hm (by rw [List.mem_singleton.mp hb] at z; rw [← z]; exact ha)⟩
theorem kvw_upd {ws : List (List Bool)} {g : List Bool → V} {w : List Bool} {v : V} : putK (kvw ws g) (Sum.inr (W w)) v = kvw (addW ws w) (ug g w v) := by
  unfold addW
  split
  · rename_i h; exact kvw_put h
  · rename_i h; exact kvw_new h
theorem rest_upd {ss : List Stf} {k : Nat} {w : List Bool} {v : Nat} {c : List Bool → Nat} {ws : List (List Bool)} (hn : ws.Nodup) : restS ss k (addW ws w) (ug c w (cntAt ws c w + v)) = restS ss k ws c + v * allM ss k w := by
  unfold addW cntAt
  by_cases h : w ∈ ws
  · rw [if_pos h, if_pos h]
    have := rest_ug (ss := ss) (k := k) (w := w) (v := c w + v) (c := c) hn h
    rw [Nat.add_mul] at this
    omega
  · rw [if_neg h, if_neg h, Nat.zero_add, rest_new h]
theorem rest_take {ss : List Stf} {k i : Nat} {w : List Bool} {c : List Bool → Nat} {ws : List (List Bool)} (h : ws[i]? = some w) : restS ss k (ws.take (i + 1)) c = restS ss k (ws.take i) c + c w * allM ss k w := by
  unfold restS
  rw [List.take_add_one, h, List.map_append, List.sum_append]
  simp
end U
set_option maxRecDepth 100000
set_option maxHeartbeats 4000000
namespace U
open PySem PySem.Spec PyProof.Rows
open L2 hiding Fun CX0 E0 pass0 Fun.binds
open C8 Lx SX StX
def spMove (C : Addr) : Sp := fun vs H Q _ => ∃ (a : Addr) (f : List Bool) (ss : List Stf) (t : List Bool) (b : Bool) (x : List Bool), vs = [.ref a, .str (W t), .str (W [b])] ∧ RuAt C H a f ss ∧ StOk ss ∧ t.length ≤ 1000 ∧ Ins ss (t ++ [b]) x ∧ x.length ≤ 39 ∧
  ∀ p H', H p = none → Same H H' → H' p = some (.tup [.int (cM ss t b : Nat), .str (W (nM ss t b))]) → Q (.ref p) H'
def MvE (H : Hp) (ss : List Stf) (w : List Bool) (l : Addr) : Prop := ∃ p0 p1 : Addr, H l = some (.lst [.ref p0, .ref p1]) ∧ H p0 = some (.tup [.int (cM ss w false : Nat), .str (W (nM ss w false))]) ∧ H p1 = some (.tup [.int (cM ss w true : Nat), .str (W (nM ss w true))])
def MvD (H : Hp) (ss : List Stf) (ws : List (List Bool)) (lo : List Bool → Addr) : Prop := ∀ w ∈ ws, MvE H ss w (lo w)
def kvr (ws : List (List Bool)) (lo : List Bool → Addr) : List (Key × V) := kvw ws fun w => .ref (lo w)
def MvAt (H : Hp) (d : Addr) (ss : List Stf) (ws : List (List Bool)) : Prop := ∃ lo : List Bool → Addr, H d = some (.dK (kvr ws lo)) ∧ MvD H ss ws lo
theorem MvE.same {H H' : Hp} {ss : List Stf} {w : List Bool} {l : Addr} (h : MvE H ss w l) (e : Same H H') : MvE H' ss w l := by
  obtain ⟨p0, p1, h1, h2, h3⟩ := h
  exact ⟨p0, p1, e _ _ h1, e _ _ h2, e _ _ h3⟩
theorem MvE.dk {H : Hp} {ss : List Stf} {w : List Bool} {l d : Addr} {u o : HO} (h : MvE H ss w l) (hd : H d = some u) (n1 : ∀ xs, u ≠ .lst xs) (n2 : ∀ xs, u ≠ .tup xs) : MvE (upd H d o) ss w l := by
  obtain ⟨p0, p1, h1, h2, h3⟩ := h
  have a1 : l ≠ d := fun z => by rw [z, hd] at h1; exact n1 _ (Option.some.inj h1)
  have a2 : p0 ≠ d := fun z => by rw [z, hd] at h2; exact n2 _ (Option.some.inj h2)
  have a3 : p1 ≠ d := fun z => by rw [z, hd] at h3; exact n2 _ (Option.some.inj h3)
  exact ⟨p0, p1, by rw [upd_ne a1]; exact h1, by rw [upd_ne a2]; exact h2, by rw [upd_ne a3]; exact h3⟩
theorem MvD.same {H H' : Hp} {ss : List Stf} {ws : List (List Bool)} {lo : List Bool → Addr} (h : MvD H ss ws lo) (e : Same H H') : MvD H' ss ws lo := fun w hw => (h w hw).same e
theorem MvD.dk {H : Hp} {ss : List Stf} {ws : List (List Bool)} {lo : List Bool → Addr} {d : Addr} {u o : HO} (h : MvD H ss ws lo) (hd : H d = some u) (n1 : ∀ xs, u ≠ .lst xs) (n2 : ∀ xs, u ≠ .tup xs) : MvD (upd H d o) ss ws lo := fun w hw => (h w hw).dk hd n1 n2
theorem MvAt.same {H H' : Hp} {d : Addr} {ss : List Stf} {ws : List (List Bool)} (h : MvAt H d ss ws) (e : Same H H') : MvAt H' d ss ws := by
  obtain ⟨lo, h1, h2⟩ := h
  exact ⟨lo, e _ _ h1, h2.same e⟩
theorem kvr_val {lo : List Bool → Addr} {w : List Bool} {ws : List (List Bool)} (h : w ∈ ws) : valV (kvr ws lo) (Sum.inr (W w)) = some (.ref (lo w)) := by
  unfold kvr
  rw [kvw_val, if_pos h]
theorem kvr_new {ws : List (List Bool)} {lo : List Bool → Addr} {w : List Bool} {l : Addr} (h : w ∉ ws) : putK (kvr ws lo) (Sum.inr (W w)) (.ref l) = kvr (ws ++ [w]) (ug lo w l) := by
  unfold kvr
  rw [kvw_new h]
  congr 1
  funext u
  unfold ug
  split <;> rfl
theorem kvr_len (ws : List (List Bool)) (lo : List Bool → Addr) : (kvr ws lo).length = ws.length := kvw_len _ _
theorem MvD.add {H : Hp} {ss : List Stf} {ws : List (List Bool)} {lo : List Bool → Addr} {w : List Bool} {l : Addr} (h : MvD H ss ws lo) (n : w ∉ ws) (hl : MvE H ss w l) : MvD H ss (ws ++ [w]) (ug lo w l) := fun u hu => by
  by_cases c : u = w
  · rw [c, ug_same]; exact hl
  · rw [ug_ne c]
    rcases List.mem_append.mp hu with m | m
    · exact h u m
    · exact absurd (List.mem_singleton.mp m) c
structure Mvs (ss : List Stf) (ws : List (List Bool)) : Prop where
  nd : ws.Nodup
  nil : [] ∈ ws
  cl : ∀ w ∈ ws, ∀ b, nM ss w b ∈ ws
  g : ∀ w ∈ ws, ∃ m, w = tl (longM ss) (bodyF ss m)
def spMovesOf (C : Addr) : Sp := fun vs H Q _ => ∃ (a : Addr) (f : List Bool) (ss : List Stf), vs = [.ref a] ∧ RuAt C H a f ss ∧ StOk ss ∧ OkN 39 ss ∧
  ∀ d ws H', H d = none → Same H H' → MvAt H' d ss ws → Mvs ss ws → Q (.ref d) H'
theorem stand_ins {ss : List Stf} (o : OkN 39 ss) (m : List Bool) (b : Bool) : ∃ x, Ins ss (tl (longM ss) (bodyF ss m) ++ [b]) x ∧ x.length ≤ 39 ∧ nM ss (tl (longM ss) (bodyF ss m)) b = tl (longM ss) (bodyF ss (m ++ [b])) := by
  have hL : ∀ s ∈ ss, s.1.length ≤ longM ss := fun s hs => longM_le hs
  obtain ⟨x, hx, hl, eb⟩ := ins40 o m b
  have et : tl (longM ss) (bodyF ss m ++ [b]) = tl (longM ss) (tl (longM ss) (bodyF ss m) ++ [b]) := tl_app (tl_tl (Nat.le_refl _) _).symm [b]
  have hx2 : Ins ss (tl (longM ss) (bodyF ss m) ++ [b]) x := hx.tl hL et
  refine ⟨x, hx2, hl, ?_⟩
  unfold nM
  rw [hx2.itP, List.take_of_length_le (by omega), eb]
  exact (tl_app et x).symm
structure MvI (ss : List Stf) (ws wt : List (List Bool)) (n : Nat) : Prop where
  nd : ws.Nodup
  hd : [] ∈ wt
  done : ∀ j u, j < n → wt[j]? = some u → u ∈ ws
  nx : ∀ w ∈ ws, ∀ b, nM ss w b ∈ wt
  g : ∀ u ∈ wt, ∃ m, u = tl (longM ss) (bodyF ss m)
  gs : ∀ u ∈ ws, u ∈ wt
  len : wt.length = 1 + 2 * ws.length
  le : n ≤ wt.length
theorem MvI.end {ss : List Stf} {ws wt : List (List Bool)} {n : Nat} (h : MvI ss ws wt n) (e : wt.length ≤ n) : Mvs ss ws := by
  have all : ∀ u ∈ wt, u ∈ ws := fun u hu => by
    obtain ⟨j, hj⟩ := List.getElem?_of_mem hu
    exact h.done j u (Nat.lt_of_lt_of_le (List.getElem?_eq_some_iff.mp hj).1 e) hj
  exact ⟨h.nd, all _ h.hd, fun w hw b => all _ (h.nx w hw b), fun w hw => h.g w (h.gs w hw)⟩
theorem MvI.few {ss : List Stf} {ws wt : List (List Bool)} {n : Nat} (h : MvI ss ws wt n) (hl : longM ss ≤ 9) : ws.length ≤ 1023 := by
  have := words_le h.nd (n := longM ss) fun w hw => by
    obtain ⟨m, rfl⟩ := h.g w (h.gs w hw)
    exact tl_le _ _
  have hp : 2 ^ (longM ss + 1) ≤ 1024 := Nat.le_trans (Nat.pow_le_pow_right (by decide) (show longM ss + 1 ≤ 10 by omega)) (by decide)
  omega
theorem MvI.skip {ss : List Stf} {ws wt : List (List Bool)} {n : Nat} (h : MvI ss ws wt n) {u : List Bool} (hu : wt[n]? = some u) (hm : u ∈ ws) : MvI ss ws wt (n + 1) := by
  refine ⟨h.nd, h.hd, fun j v hj hv => ?_, h.nx, h.g, h.gs, h.len, (List.getElem?_eq_some_iff.mp hu).1⟩
  rcases Nat.lt_or_ge j n with c | c
  · exact h.done j v c hv
  · have : j = n := by omega
    subst this
    rw [hu] at hv
    rw [← Option.some.inj hv]
    exact hm
theorem MvI.add {ss : List Stf} {ws wt : List (List Bool)} {n : Nat} (o : OkN 39 ss) (h : MvI ss ws wt n) {u : List Bool} (hu : wt[n]? = some u) (hm : u ∉ ws) : MvI ss (ws ++ [u]) (wt ++ [nM ss u false, nM ss u true]) (n + 1) := by
  have hn := (List.getElem?_eq_some_iff.mp hu).1
  have hut := List.mem_of_getElem? hu
  refine ⟨?_, List.mem_append_left _ h.hd, fun j v hj hv => ?_, fun w hw b => ?_, fun v hv => ?_, fun v hv => ?_, ?_, ?_⟩
  · rw [List.nodup_append]
    exact ⟨h.nd, List.nodup_cons.mpr ⟨List.not_mem_nil, List.nodup_nil⟩, fun a ha b hb z => hm (by rw [List.mem_singleton.mp hb] at z; rw [← z]; exact ha)⟩
  · rw [List.getElem?_append_left (by omega)] at hv
    rcases Nat.lt_or_ge j n with c | c
    · exact List.mem_append_left _ (h.done j v c hv)
    · have : j = n := by omega
      subst this
      rw [hu] at hv
      rw [← Option.some.inj hv]
      exact List.mem_append_right _ (List.mem_singleton.mpr rfl)
  · rcases List.mem_append.mp hw with c | c
    · exact List.mem_append_left _ (h.nx w c b)
    · rw [List.mem_singleton.mp c]
      refine List.mem_append_right _ ?_
      cases b <;> simp
  · rcases List.mem_append.mp hv with c | c
    · exact h.g v c
    · obtain ⟨m, rfl⟩ := h.g u hut
      obtain ⟨_, _, _, e0⟩ := stand_ins o m false
      obtain ⟨_, _, _, e1⟩ := stand_ins o m true
      rcases List.mem_cons.mp c with c | c
      · exact ⟨m ++ [false], by rw [c, e0]⟩
      · exact ⟨m ++ [true], by rw [List.mem_singleton.mp c, e1]⟩
  · rcases List.mem_append.mp hv with c | c
    · exact List.mem_append_left _ (h.gs v c)
    · rw [List.mem_singleton.mp c]
      exact List.mem_append_left _ hut
  · rw [List.length_append, List.length_append, h.len]
    show 1 + 2 * ws.length + 2 = 1 + 2 * (ws.length + 1)
    omega
  · rw [List.length_append]; omega
section
variable {P : Program} {w : World} {K : PySem.W.Frag} {mg : Str → Option Value} {base : Heap}
theorem sc_move : FnScope ["rule", "standing", "bit", "more"] ["rule", "standing", "bit"] (fnScope s_move) := fnScope_by (by decide +kernel)
theorem cal_move {f C : Addr} {fd : FuncData} (F : Def K mg "move" s_move f fd) (b : Binds K fd ["rule", "standing", "bit"] []) (T : Tx mg) (RT : RuT K C) (c_put_in : Met P w K mg base 3 C "put_in" (spPutIn C) []) (c_tail : Cal P w K mg base 1 "tail" spTail []) (p_longest : Prp P w K mg base 1 C "longest" (spLongest C)) : Cal P w K mg base 4 "move" (spMove C) [] := by
  refine cal0 F b .nil sc_move (fun vs H Q E h => ?_) (fun cdv A outer s H vs Q E hr h => ?_)
  · obtain ⟨_, _, _, _, _, _, rfl, _⟩ := h; rfl
  · obtain ⟨a, fl, ss, t, b, x, rfl, hR, ok, lt, hx, lx, k⟩ := h
    refine ⟨_, (pss_cons (ps_set (i := 3) sc_move.nd rfl (.inl rfl) (pe_mt (pl := _) c_put_in hr (by decide) (pv 0) (pa_cons (pe_op op_add_str (pv 1) (pv 2)) pa_nil)))
    (pss_cons (ps_if (pt_cmpR op_isN (pv 3) pe_non (nomark _)) (pss_one (ps_ret pe_non)) pss_nil)
    (pss_one (ps_ret (pe_tup (pa_cons (pe_callB call_len_str (by rfl) T.b_len (by decide +kernel) (pa_cons (pv 3) pa_nil)) (pa_cons (pe_c c_tail hr (by decide) rfl (pa_cons (pe_op op_add_str (pe_op op_add_str (pv 1) (pv 2)) (pv 3)) (pa_cons (pe_pr p_longest hr (by decide) (pv 0)) pa_nil))) pa_nil))))))), ?_⟩
    obtain ⟨da, ta, _, _, ha, _⟩ := id hR
    have lwt : (W t).length = t.length := W_len _
    have lwb : (W [b]).length = 1 := W_len _
    have lwx : (W x).length = x.length := W_len _
    have e1 : W t ++ W [b] = W (t ++ [b]) := W_cat _ _
    refine ⟨_, rfl, a, da, _, rfl, ha, ruF_no _ _ (by decide +kernel) (by decide +kernel), _, rfl, _, rfl, _, _, rfl, rfl, by rw [lwt, lwb]; exact sl_len (by omega), ?_⟩
    rw [e1]
    have lt1 : (t ++ [b]).length = t.length + 1 := by rw [List.length_append]; rfl
    refine ⟨a, fl, ss, t ++ [b], x, rfl, hR, ok.few, ok.long, by omega, hx, fun H1 s1 => ?_⟩
    refine ⟨_, rfl, rfl, _, rfl, iteF ?_⟩
    refine ⟨_, rfl, _, rfl, by rw [lwx]; exact sl_len (by omega), ?_⟩
    refine ⟨_, rfl, _, rfl, _, _, rfl, rfl, by rw [lwt, lwb]; exact sl_len (by omega), ?_⟩
    rw [e1]
    refine ⟨_, rfl, _, _, rfl, rfl, by rw [W_len, lwx]; exact sl_len (by omega), ?_⟩
    rw [W_cat]
    have hR1 := hR.same s1
    obtain ⟨d1, t1, _, _, ha1, _⟩ := id hR1
    refine ⟨_, rfl, a, d1, _, rfl, ha1, a, fl, ss, rfl, hR1, ok.few, fun s hs => Nat.le_trans (ok.l9 s hs) (by decide), fun H2 s2 => ?_⟩
    refine ⟨t ++ [b] ++ x, longM ss, rfl, by rw [List.length_append]; omega, by show 2 ≤ sizeLine; decide, fun p np => ?_⟩
    have e40 : itP ss 40 (t ++ [b]) = t ++ [b] ++ x := by rw [hx.itP, List.take_of_length_le (by omega)]
    refine k p _ ((s1.trans s2).free np) ((s1.trans s2).trans (same_upd np)) ?_
    rw [upd_same, W_len]
    unfold cM nM
    rw [e40, List.length_append, lt1]
    congr 4
    omega
end
end U
set_option maxRecDepth 100000
set_option maxHeartbeats 4000000
namespace U
open PySem PySem.Spec PyProof.Rows
open L2 hiding Fun CX0 E0 pass0 Fun.binds
open C8 Lx SX StX
theorem MvI.start {ss : List Stf} : MvI ss [] [[]] 0 := by
  refine ⟨List.nodup_nil, List.mem_singleton.mpr rfl, fun j u hj => absurd hj (Nat.not_lt_zero _), fun w hw => (by cases hw), fun u hu => ⟨[], ?_⟩, fun u hu => (by cases hu), rfl, Nat.zero_le _⟩
  rw [List.mem_singleton.mp hu]
  exact (tl_id (Nat.zero_le _)).symm
theorem same_lst {H H' : Hp} {q : Addr} {xs : List V} {o : HO} (h : Same H H') (hq : H q = none) : Same H (upd H' q o) := same_mut' h hq
section
variable {P : Program} {w : World} {K : PySem.W.Frag} {mg : Str → Option Value} {base : Heap}
theorem sc_moves_of : FnScope ["rule", "found", "waiting", "at", "here", "bit", "many", "there"] ["rule"] (fnScope s_moves_of) := fnScope_by (by decide +kernel)
theorem cal_moves_of {f C : Addr} {fd : FuncData} {tB : Tok} (F : Def K mg "moves_of" s_moves_of f fd) (b : Binds K fd ["rule"] []) (T : Tx mg) (g_BITS : mg "BITS" = some (.str "01" tB)) (c_move : Cal P w K mg base 4 "move" (spMove C) []) : Cal P w K mg base 5 "moves_of" (spMovesOf C) [] := by
  refine cal0 F b .nil sc_moves_of (fun vs H Q E h => ?_) (fun cdv A outer s H vs Q E hr h => ?_)
  · obtain ⟨_, _, _, rfl, _⟩ := h; rfl
  · obtain ⟨a, fl, ss, rfl, hR, ok, o, k⟩ := h
    refine ⟨_, (pss_cons (ps_par3 (i := 1) (j := 2) (l := 3) (by rfl) sc_moves_of.nd rfl rfl rfl (by decide) (by decide) (by decide) rfl rfl rfl (pa_cons pe_dnewK (pa_cons (pe_lst (pa_cons pe_str pa_nil)) (pa_cons pe_int pa_nil))) (by rfl))
    (pss_cons (ps_while PassesOwn.never (pt_cmpR op_lt (pv 3) (pe_callB call_len_seq (by rfl) T.b_len (by decide +kernel) (pa_cons (pv 2) pa_nil)) (nomark _))
    (pss_cons (ps_set (i := 4) sc_moves_of.nd rfl (.inr rfl) (pe_ix ix_list (pv 2) (pv 3) (fun _ _ => rfl)))
    (pss_cons (ps_aug (i := 3) sc_moves_of.nd rfl (.inl rfl) pe_int ip_add)
    (pss_one (ps_if (pt_cmp (pc_dnotin (hu_of hr) (pv 4) (pv 1))) (pss_cons (ps_dput (hu_of hr) (pv 1) (pv 4) (pe_lc (own := [("bit", 5)]) (g := gName 5) (by rfl) sc_moves_of.nd (pi_str (pe_glob (v := .str "01") (by rfl) g_BITS ⟨_, rfl⟩)) (blkOk_by (own := [("bit", 5)]) (N := ["rule", "found", "waiting", "at", "here", "bit", "many", "there"]) (sc := fnScope s_moves_of) (by decide +kernel)) (fun _ _ _ _ _ => (pg_name (i := 5) sc_moves_of.nd rfl (.inl rfl))) (fun _ _ _ _ _ => pts_nil) (fun _ _ _ _ _ => (pe_c c_move hr (by decide) rfl (pa_cons (pv 0) (pa_cons (pv 4) (pa_cons (pv 5) pa_nil)))))) rfl)
    (pss_one (ps_expr (pe_bm PySem.F.plainAttrs_list PySem.F.slot_list_extend PySem.F.type_list_extend mt_extend (pv 2) (pa_cons (pe_lc (own := [("many", 6), ("there", 7)]) (g := gTup K 2 (gCons (gName 6) (gCons (gName 7) gNil))) (by rfl) sc_moves_of.nd (pi_list (pe_dget (hu_of hr) (pv 1) (pv 4) (fun _ _ => rfl))) (blkOk_by (own := [("many", 6), ("there", 7)]) (N := ["rule", "found", "waiting", "at", "here", "bit", "many", "there"]) (sc := fnScope s_moves_of) (by decide +kernel)) (fun _ _ _ _ _ => (pg_tup rfl (pgs_cons (pg_name (i := 6) sc_moves_of.nd rfl (.inl rfl)) (pgs_cons (pg_name (i := 7) sc_moves_of.nd rfl (.inl rfl)) pgs_nil)))) (fun _ _ _ _ _ => pts_nil) (fun _ _ _ _ _ => (pv 7))) pa_nil))))) pss_nil)))))
    (pss_one (ps_ret (pv 1))))), ?_⟩
    have lg := ok.long
    refine fun d nd => ⟨by show 1 ≤ sizeLine; decide, fun q nq => ⟨_, _, _, rfl, ?_⟩⟩
    have sd := same_upd (o := .dK []) nd
    have hd0 : upd H d (.dK []) d = some (.dK (kvr [] fun _ => d)) := upd_same
    generalize upd H d (.dK []) = H0 at nq sd hd0 ⊢
    have sq := same_upd (o := .lst [.str ""]) nq
    have hq1 : upd H0 q (.lst [.str ""]) q = some (.lst (wdsV [[]])) := by rw [upd_same, W_nil]; rfl
    have hd1 := sq _ _ hd0
    have nqH : H q = none := sd.free nq
    have sS := sd.trans sq
    generalize upd H0 q (.lst [.str ""]) = H1 at hq1 hd1 sS ⊢
    refine ⟨fun m σ H3 => ∃ (n : Nat) (ws wt : List (List Bool)) (lo : List Bool → Addr) (v4 v5 v6 v7 : Option V), σ = [some (.ref a), some (.ref d), some (.ref q), some (.int (n : Nat)), v4, v5, v6, v7] ∧ Same H H3 ∧ H3 d = some (.dK (kvr ws lo)) ∧ MvD H3 ss ws lo ∧ H3 q = some (.lst (wdsV wt)) ∧ MvI ss ws wt n ∧ n + m = 3000,
      ⟨3000, 0, [], [[]], fun _ => d, none, none, none, none, rfl, sS, hd1, fun w hw => (by cases hw), hq1, .start, rfl⟩, ?_⟩
    rintro m σ H3 ⟨n, ws, wt, lo, v4, v5, v6, v7, rfl, s3, hd3, hM3, hq3, hI, hm⟩
    have few := hI.few lg
    have lwt := hI.len
    refine ⟨_, rfl, _, rfl, q, _, rfl, .inl (SqL.of hq3), _, _, rfl, rfl, _, rfl, ?_⟩
    rw [wdsV_len]
    by_cases hlt : n < wt.length
    · refine iteDT (by omega) ?_
      refine ⟨fun σ' H' => ∃ m', m' < m ∧ ∃ (n : Nat) (ws wt : List (List Bool)) (lo : List Bool → Addr) (v4 v5 v6 v7 : Option V), σ' = [some (.ref a), some (.ref d), some (.ref q), some (.int (n : Nat)), v4, v5, v6, v7] ∧ Same H H' ∧ H' d = some (.dK (kvr ws lo)) ∧ MvD H' ss ws lo ∧ H' q = some (.lst (wdsV wt)) ∧ MvI ss ws wt n ∧ n + m' = 3000, fun _ _ h => h, ?_⟩
      have hnw : wt[n]? = some wt[n] := List.getElem?_eq_getElem hlt
      generalize wt[n] = u at hnw
      have hum := List.mem_of_getElem? hnw
      refine ⟨_, rfl, _, rfl, q, _, _, _, rfl, rfl, SqL.of hq3, atI_nat (by unfold wdsV; rw [List.getElem?_map, hnw]; rfl), ?_⟩
      refine ⟨_, rfl, _, _, rfl, rfl, ?_⟩
      refine ⟨_, rfl, _, rfl, d, _, rfl, DGet.k (k := .inr (W u)) hd3, _, rfl, ?_⟩
      by_cases hin : u ∈ ws
      · refine iteBF (by rw [kvr_val hin]; rfl) ?_
        exact ⟨m - 1, by omega, n + 1, ws, wt, lo, _, _, _, _, rfl, s3, hd3, hM3, hq3, hI.skip hnw hin, by omega⟩
      · refine iteBT (by unfold kvr; rw [kvw_val, if_neg hin]; rfl) ?_
        have hge := hI.g u hum
        have lu : u.length ≤ 9 := by
          obtain ⟨mm, rfl⟩ := hge
          exact Nat.le_trans (tl_le _ _) lg
        refine ⟨_, rfl, fun D nD => ?_⟩
        refine lc_it walk_str (fun j H4 => ∃ ps : List Addr, Same H3 H4 ∧ H4 D = some (.lst (ps.map V.ref)) ∧ ps.length = j ∧ ∀ i p, ps[i]? = some p → H4 p = some (.tup [.int (cM ss u (decide (i = 1)) : Nat), .str (W (nM ss u (decide (i = 1))))]))
          ⟨[], same_upd nD, upd_same, rfl, fun i p h => by simp at h⟩ (fun _ _ _ _ => trivial) ?_ ?_
        · rintro j x H4 H4' hj ⟨ps, s4, hD, lps, hps⟩ ⟨rfl, ch, hch, rfl⟩
          rw [show ("01" : Str) = W [false, true] by decide +kernel] at hch
          obtain ⟨bb, hbb, rfl⟩ := W_get hch
          have hj2 : j < 2 := (List.getElem?_eq_some_iff.mp hbb).1
          have ebb : bb = decide (j = 1) := by
            match j, hj2, hbb with
            | 0, _, h => exact (Option.some.inj h).symm
            | 1, _, h => exact (Option.some.inj h).symm
          obtain ⟨x, hx, lx⟩ : ∃ x, Ins ss (u ++ [bb]) x ∧ x.length ≤ 39 := by
            obtain ⟨mm, rfl⟩ := hge
            obtain ⟨x, h1, h2, _⟩ := stand_ins o mm bb
            exact ⟨x, h1, h2⟩
          refine ⟨rfl, _, rfl, _, rfl, _, rfl, a, fl, ss, u, bb, x, rfl, hR.same (s3.trans s4), ok, by omega, hx, lx, fun p H5 np s5 hp => ?_⟩
          have hD5 := s5 _ _ hD
          have npD : p ≠ D := ne_of hp hD5 (by intro z; cases z)
          refine ⟨_, hD5, by rw [List.length_map]; exact sl_lt (by omega), ps ++ [p], same_mut' (s4.trans s5) nD, by rw [upd_same, List.map_append]; rfl, by rw [List.length_append, lps]; rfl, fun i p' hi => ?_⟩
          by_cases c : i < ps.length
          · rw [List.getElem?_append_left c] at hi
            have h1 := s5 _ _ (hps i p' hi)
            rw [upd_ne (ne_of h1 hD5 (by intro z; cases z))]
            exact h1
          · rw [List.getElem?_append_right (by omega)] at hi
            have l0 : i - ps.length = 0 := by
              have := (List.getElem?_eq_some_iff.mp hi).1
              simp only [List.length_cons, List.length_nil] at this
              omega
            rw [l0] at hi
            have ep : p = p' := Option.some.inj hi
            have ei : i = j := by omega
            rw [← ep, upd_ne npD, ei, ← ebb]
            exact hp
        · rintro H4 ⟨ps, s4, hD, lps, hps⟩
          have l2 : ps.length = 2 := by rw [lps, show ("01" : Str) = W [false, true] by decide +kernel, W_size]; rfl
          match ps, l2, hD, hps with
          | [p0, p1], _, hD, hps =>
            have hE : MvE H4 ss u D := ⟨p0, p1, hD, hps 0 p0 rfl, hps 1 p1 rfl⟩
            have s34 := s3.trans s4
            have hd4 := s4 _ _ hd3
            have hM4 := (hM3.same s4).add hin hE
            have hq4 := s4 _ _ hq3
            have ndH : H d = none := nd
            refine ⟨_, rfl, _, rfl, d, _, rfl, DPut.k (k := .inr (W u)) hd4 (by rw [kvr_len]; exact sl_lt (by omega)), ?_⟩
            rw [kvr_new hin]
            have s5 : Same H (upd H4 d (.dK (kvr (ws ++ [u]) (ug lo u D)))) := same_mut' s34 ndH
            have hd5 : upd H4 d (.dK (kvr (ws ++ [u]) (ug lo u D))) d = some (.dK (kvr (ws ++ [u]) (ug lo u D))) := upd_same
            have hM5 := hM4.dk (o := .dK (kvr (ws ++ [u]) (ug lo u D))) hd4 (fun _ z => by cases z) (fun _ z => by cases z)
            have hE5 := hE.dk (o := .dK (kvr (ws ++ [u]) (ug lo u D))) hd4 (fun _ z => by cases z) (fun _ z => by cases z)
            have hq5 : upd H4 d (.dK (kvr (ws ++ [u]) (ug lo u D))) q = some (.lst (wdsV wt)) := by rw [upd_ne (ne_of hq4 hd4 (by intro z; cases z))]; exact hq4
            generalize upd H4 d (.dK (kvr (ws ++ [u]) (ug lo u D))) = H5 at s5 hd5 hM5 hE5 hq5 ⊢
            clear hM4 hM3 hd4 hq4 hD hps hE
            obtain ⟨r0, r1, hD5, h0, h1⟩ := hE5
            refine ⟨_, rfl, .inl ⟨rfl, _, SqL.of hq5⟩, ?_⟩
            have hum2 : u ∈ ws ++ [u] := List.mem_append_right _ (List.mem_singleton.mpr rfl)
            refine ⟨_, rfl, _, rfl, d, _, rfl, by have := DGet.k (k := .inr (W u)) hd5; rw [kvr_val hum2, ug_same] at this; exact this, D, rfl, ⟨_, SqL.of hD5⟩, fun D2 nD2 => ?_⟩
            have nD2q : D2 ≠ q := (ne_of_none hq5 nD2).symm
            refine lc_it (walk_list (xs := [.ref r0, .ref r1])) (fun j H6 => Same H5 H6 ∧ H6 D2 = some (.lst (wdsV ([nM ss u false, nM ss u true].take j)))) ⟨same_upd nD2, upd_same⟩ (fun j H6 _ h6 => SqL.of (h6.1 _ _ hD5)) ?_ ?_
            · rintro j x H6 H6' hj ⟨s6, hD2⟩ ⟨rfl, hx⟩
              match j, hj, hx with
              | 0, _, hx =>
                cases hx
                exact ⟨r0, _, rfl, SqT.of (s6 _ _ h0), rfl, _, _, rfl, _, _, rfl, rfl, rfl, _, rfl, _, hD2, by show 0 < sizeLine; decide, same_mut' s6 nD2, upd_same⟩
              | 1, _, hx =>
                cases hx
                exact ⟨r1, _, rfl, SqT.of (s6 _ _ h1), rfl, _, _, rfl, _, _, rfl, rfl, rfl, _, rfl, _, hD2, by show 1 < sizeLine; decide, same_mut' s6 nD2, upd_same⟩
            · rintro H6 ⟨s6, hD2⟩
              have s56 := s5.trans s6
              refine ⟨q, D2, _, _, rfl, rfl, s6 _ _ hq5, hD2, by rw [wdsV_len, wdsV_len]; show wt.length + 2 ≤ sizeLine; exact sl_len (by omega), ?_⟩
              rw [← wdsV_app]
              have hq6 := s6 _ _ hq5
              refine ⟨m - 1, by omega, n + 1, ws ++ [u], wt ++ [nM ss u false, nM ss u true], ug lo u D, _, _, _, _, rfl, same_mut' s56 nqH, ?_, ?_, upd_same, hI.add o hnw hin, by omega⟩
              · rw [upd_ne (ne_of (s6 _ _ hd5) hq6 (by intro z; cases z))]
                exact s6 _ _ hd5
              · intro w hw
                obtain ⟨t0, t1, g0, g1, g2⟩ := (hM5 w hw).same s6
                by_cases clq : ug lo u D w = q
                · exfalso
                  rw [clq, hq6] at g0
                  have := HO.lst.inj (Option.some.inj g0)
                  unfold wdsV at this
                  cases wt with
                  | nil => cases this
                  | cons x r => rw [List.map_cons] at this; cases this
                · exact ⟨t0, t1, by rw [upd_ne clq]; exact g0, by rw [upd_ne (ne_of g1 hq6 (by intro z; cases z))]; exact g1, by rw [upd_ne (ne_of g2 hq6 (by intro z; cases z))]; exact g2⟩
    · refine iteDF (by omega) ?_
      exact ⟨_, rfl, k d ws H3 nd s3 ⟨lo, hd3, hM3⟩ (hI.end (by omega))⟩
end
end U
set_option maxRecDepth 100000
set_option maxHeartbeats 4000000
namespace U
open PySem PySem.Spec PyProof.Rows
open L2 hiding Fun CX0 E0 pass0 Fun.binds
open C8 Lx SX StX
def blD (ss : List Stf) (ws : List (List Bool)) (i : Nat) : List (Key × V) := kvw ws fun w => .int (bstM ss i w : Nat)
def BlL (H : Hp) (ss : List Stf) (ws : List (List Bool)) (ds : List Addr) : Prop := ∀ i d, ds[i]? = some d → H d = some (.dK (blD ss ws i))
theorem BlL.same {H H' : Hp} {ss : List Stf} {ws : List (List Bool)} {ds : List Addr} (h : BlL H ss ws ds) (e : Same H H') : BlL H' ss ws ds := fun i d hd => e _ _ (h i d hd)
theorem bl_val {ss : List Stf} {ws : List (List Bool)} {i : Nat} {w : List Bool} (h : w ∈ ws) : valV (blD ss ws i) (Sum.inr (W w)) = some (.int (bstM ss i w : Nat)) := by
  unfold blD
  rw [kvw_val, if_pos h]
def spBestLeft : Sp := fun vs H Q _ => ∃ (d : Addr) (ss : List Stf) (ws : List (List Bool)) (n : Nat), vs = [.ref d, .int n] ∧ MvAt H d ss ws ∧ Mvs ss ws ∧ ws.length ≤ 1100 ∧ n ≤ 10000 ∧
  ∀ l ds H', H l = none → Same H H' → H' l = some (.lst (ds.map V.ref)) → ds.length = n + 1 → BlL H' ss ws ds → Q (.ref l) H'
section
variable {P : Program} {w : World} {K : PySem.W.Frag} {mg : Str → Option Value} {base : Heap}
end
end U
set_option maxRecDepth 100000
set_option maxHeartbeats 4000000
namespace U
open PySem PySem.Spec PyProof.Rows
open L2 hiding Fun CX0 E0 pass0 Fun.binds
open C8 Lx SX StX
theorem Mvs.few {ss : List Stf} {ws : List (List Bool)} (h : Mvs ss ws) (hl : longM ss ≤ 9) : ws.length ≤ 1023 := by
  have := words_le h.nd (n := longM ss) fun w hw => by
    obtain ⟨m, rfl⟩ := h.g w hw
    exact tl_le _ _
  have hp : 2 ^ (longM ss + 1) ≤ 1024 := Nat.le_trans (Nat.pow_le_pow_right (by decide) (show longM ss + 1 ≤ 10 by omega)) (by decide)
  omega
theorem bl_get {H : Hp} {ss : List Stf} {ws : List (List Bool)} {ds : List Addr} {n i : Nat} (hB : BlL H ss ws ds) (hl : ds.length = n + 1) (hi : i ≤ n) : ∃ d, ds[i]? = some d ∧ (ds.map V.ref)[i]? = some (.ref d) ∧ H d = some (.dK (blD ss ws i)) := by
  have h : ds[i]? = some ds[i] := List.getElem?_eq_getElem (by omega)
  exact ⟨_, h, by rw [List.getElem?_map, h]; rfl, hB i _ h⟩
def spMostPut (C : Addr) : Sp := fun vs H Q _ => ∃ (a : Addr) (f : List Bool) (ss : List Stf) (n : Nat), vs = [.ref a, .int n] ∧ RuAt C H a f ss ∧ StOk ss ∧ OkN 39 ss ∧ n ≤ 10000 ∧ ∀ H', Same H H' → Q (.int (bstM ss n [] : Nat)) H'
def spDearest (C : Addr) : Sp := fun vs H Q _ => ∃ (a : Addr) (f : List Bool) (ss : List Stf) (n : Nat), vs = [.ref a, .int n] ∧ RuAt C H a f ss ∧ StOk ss ∧ OkN 39 ss ∧ n ≤ 10000 ∧ ∀ H', Same H H' → Q (.str (W (dearM ss n []))) H'
def spAllPut (C : Addr) : Sp := fun vs H Q _ => ∃ (a : Addr) (f : List Bool) (ss : List Stf) (n : Nat), vs = [.ref a, .int n] ∧ RuAt C H a f ss ∧ StOk ss ∧ OkN 39 ss ∧ n ≤ 10000 ∧ ∀ H', Same H H' → Q (.int (allM ss n [] : Nat)) H'
section
variable {P : Program} {w : World} {K : PySem.W.Frag} {mg : Str → Option Value} {base : Heap}
end
end U
set_option maxRecDepth 100000
set_option maxHeartbeats 4000000
namespace U
open PySem PySem.Spec PyProof.Rows
open L2 hiding Fun CX0 E0 pass0 Fun.binds
open C8 Lx SX StX
def kvi (ws : List (List Bool)) (c : List Bool → Nat) : List (Key × V) := kvw ws fun w => .int (c w : Nat)
theorem kvi_upd {ws : List (List Bool)} {c : List Bool → Nat} {w : List Bool} {v : Nat} : putK (kvi ws c) (Sum.inr (W w)) (.int (v : Nat)) = kvi (addW ws w) (ug c w v) := by
  unfold kvi
  rw [kvw_upd]
  congr 1
  funext u
  unfold ug
  split <;> rfl
theorem kvi_val {ws : List (List Bool)} {c : List Bool → Nat} {w : List Bool} : (valV (kvi ws c) (Sum.inr (W w))).getD (.int 0) = .int (cntAt ws c w : Nat) := by
  unfold kvi cntAt
  rw [kvw_val]
  split <;> rfl
theorem kvi_len (ws : List (List Bool)) (c : List Bool → Nat) : (kvi ws c).length = ws.length := kvw_len _ _
theorem rd_lock {H : Hp} {d cd : Addr} {u u2 : HO} {od : Obj} (h : H d = some u) (hc : H cd = some u2) : Rd (upd H cd (.frz od u2)) d u := by
  by_cases c : d = cd
  · rw [c, hc] at h
    exact .inr ⟨od, by rw [c, upd_same, Option.some.inj h]⟩
  · exact .inl (by rw [upd_ne c]; exact h)
theorem MvI.cM_le {ss : List Stf} (o : OkN 39 ss) {w : List Bool} (h : ∃ m, w = tl (longM ss) (bodyF ss m)) (b : Bool) : cM ss w b ≤ 39 := by
  obtain ⟨m, rfl⟩ := h
  obtain ⟨x, hx, hl, _⟩ := stand_ins o m b
  unfold cM
  rw [hx.itP, List.take_of_length_le (by omega), List.length_append, List.length_append]
  simp
  omega
theorem rest0 {ss : List Stf} {ks : List (List Bool)} {c : List Bool → Nat} : restS ss 0 ks c = 0 := by
  unfold restS
  induction ks with
  | nil => rfl
  | cons w r ih =>
    rw [List.map_cons, List.sum_cons, ih]
    show c w * 0 + 0 = 0
    omega
section
variable {P : Program} {w : World} {K : PySem.W.Frag} {mg : Str → Option Value} {base : Heap}
end
end U
set_option maxRecDepth 100000
set_option maxHeartbeats 1000000
namespace U
def stF (ss : List Stf) (t m : List Bool) : List Bool := m.foldl (nM ss) t
theorem stF_app (ss : List Stf) (t a b : List Bool) : stF ss t (a ++ b) = stF ss (stF ss t a) b := List.foldl_append
theorem cost_app (ss : List Stf) : ∀ (t a b : List Bool), costM ss t (a ++ b) = costM ss t a + costM ss (stF ss t a) b
  | t, [], b => by show costM ss t b = 0 + costM ss t b; omega
  | t, x :: a, b => by
    show cM ss t x + costM ss (nM ss t x) (a ++ b) = cM ss t x + costM ss (nM ss t x) a + costM ss (stF ss (nM ss t x) a) b
    rw [cost_app ss (nM ss t x) a b]
    omega
theorem stF_in {ss : List Stf} {ws : List (List Bool)} (h : Mvs ss ws) : ∀ {m t : List Bool}, t ∈ ws → stF ss t m ∈ ws
  | [], _, ht => ht
  | b :: m, t, ht => stF_in h (m := m) (t := nM ss t b) (h.cl t ht b)
theorem stF_body {ss : List Stf} (o : OkN 39 ss) (m : List Bool) : stF ss [] m = tl (longM ss) (bodyF ss m) := by
  have key : ∀ k (m : List Bool), m.length = k → stF ss [] m = tl (longM ss) (bodyF ss m) := fun k => by
    induction k with
    | zero =>
      intro m hm
      rw [List.length_eq_zero_iff.mp hm]
      exact (tl_id (Nat.zero_le _)).symm
    | succ k ih =>
      intro m hm
      rcases List.eq_nil_or_concat m with z | ⟨v, b, z⟩
      · rw [z] at hm; cases hm
      · rw [List.concat_eq_append] at z
        subst z
        rw [stF_app, ih v (by rw [List.length_append] at hm; simpa using hm)]
        obtain ⟨_, _, _, e⟩ := stand_ins o v b
        exact e
  exact key _ m rfl
theorem reach_of {ss : List Stf} {ws : List (List Bool)} (o : OkN 39 ss) (h : Mvs ss ws) {w : List Bool} (hw : w ∈ ws) : ∃ m, stF ss [] m = w := by
  obtain ⟨m, e⟩ := h.g w hw
  exact ⟨m, by rw [stF_body o, e]⟩
def exc (ss : List Stf) (p q : Int) (t m : List Bool) : Int := q * (costM ss t m : Nat) - p * (m.length : Nat)
theorem exc_app {ss : List Stf} {p q : Int} (t a b : List Bool) : exc ss p q t (a ++ b) = exc ss p q t a + exc ss p q (stF ss t a) b := by
  unfold exc
  rw [cost_app, List.length_append, Int.natCast_add, Int.natCast_add, Int.mul_add, Int.mul_add]
  omega
theorem exc_nil {ss : List Stf} {p q : Int} (t : List Bool) : exc ss p q t [] = 0 := by
  unfold exc
  show q * ((0 : Nat) : Int) - p * ((0 : Nat) : Int) = 0
  simp
theorem cut_of {ss : List Stf} {ws : List (List Bool)} (h : Mvs ss ws) {t m : List Bool} (ht : t ∈ ws) (hm : ws.length ≤ m.length) : ∃ a b c, m = a ++ b ++ c ∧ b ≠ [] ∧ (a ++ b).length ≤ ws.length ∧ stF ss t (a ++ b) = stF ss t a := by
  refine Classical.byContradiction fun hn => ?_
  have nd : ((List.range (ws.length + 1)).map fun i => stF ss t (m.take i)).Nodup := by
    rw [List.nodup_iff_pairwise_ne, List.pairwise_map]
    refine List.Pairwise.imp_of_mem ?_ List.pairwise_lt_range
    intro i j hi hj hij e
    have hj' := List.mem_range.mp hj
    refine hn ⟨m.take i, (m.take j).drop i, m.drop j, ?_, ?_, ?_, ?_⟩
    · have e1 : m.take i ++ (m.take j).drop i = m.take j := by
        have := List.take_append_drop i (m.take j)
        rw [List.take_take, Nat.min_eq_left (by omega)] at this
        exact this
      rw [e1, List.take_append_drop]
    · intro z
      have := congrArg List.length z
      rw [List.length_drop, List.length_take] at this
      simp at this
      omega
    · rw [List.length_append, List.length_drop, List.length_take, List.length_take]; omega
    · have e1 : m.take i ++ (m.take j).drop i = m.take j := by
        have := List.take_append_drop i (m.take j)
        rw [List.take_take, Nat.min_eq_left (by omega)] at this
        exact this
      rw [e1, e]
  have := nodup_le nd fun x hx => by
    obtain ⟨i, _, rfl⟩ := List.mem_map.mp hx
    exact stF_in h ht
  rw [List.length_map, List.length_range] at this
  omega
def NoPos (ss : List Stf) (ws : List (List Bool)) (p q : Int) : Prop := ∀ w ∈ ws, ∀ m, m ≠ [] → stF ss w m = w → exc ss p q w m ≤ 0
theorem dom {ss : List Stf} {ws : List (List Bool)} (h : Mvs ss ws) {p q : Int} (np : NoPos ss ws p q) {t : List Bool} (ht : t ∈ ws) : ∀ (k : Nat) (m : List Bool), m.length ≤ k → ∃ m', m'.length < ws.length ∧ stF ss t m' = stF ss t m ∧ exc ss p q t m ≤ exc ss p q t m' := fun k => by
  induction k with
  | zero =>
    intro m hm
    have := List.length_pos_of_mem ht
    exact ⟨m, by omega, rfl, Int.le_refl _⟩
  | succ k ih =>
    intro m hm
    by_cases c : m.length < ws.length
    · exact ⟨m, c, rfl, Int.le_refl _⟩
    · obtain ⟨a, b, d, rfl, hb, hl, e⟩ := cut_of h ht (by omega : ws.length ≤ m.length)
      have hbl := List.length_pos_iff.mpr hb
      rw [List.length_append, List.length_append] at hm
      obtain ⟨m', h1, h2, h3⟩ := ih (a ++ d) (by rw [List.length_append]; omega)
      have e2 : stF ss t (a ++ b ++ d) = stF ss t (a ++ d) := by rw [stF_app, e, ← stF_app]
      refine ⟨m', h1, by rw [h2, e2], ?_⟩
      have hr := np _ (stF_in h (m := a) ht) b hb (by rw [← stF_app, e])
      have x1 := exc_app (ss := ss) (p := p) (q := q) t (a ++ b) d
      have x2 := exc_app (ss := ss) (p := p) (q := q) t a b
      have x3 := exc_app (ss := ss) (p := p) (q := q) t a d
      rw [e] at x1
      omega
theorem list_max {α : Type} (f : α → Int) : ∀ {l : List α}, l ≠ [] → ∃ x ∈ l, ∀ y ∈ l, f y ≤ f x
  | [], h => absurd rfl h
  | [x], _ => ⟨x, List.mem_cons_self, fun y hy => by rw [List.mem_singleton.mp hy]; exact Int.le_refl _⟩
  | x :: z :: r, _ => by
    obtain ⟨y, hy, h⟩ := list_max f (l := z :: r) (List.cons_ne_nil _ _)
    by_cases c : f y ≤ f x
    · exact ⟨x, List.mem_cons_self, fun u hu => by
        rcases List.mem_cons.mp hu with rfl | hu
        · exact Int.le_refl _
        · exact Int.le_trans (h u hu) c⟩
    · exact ⟨y, List.mem_cons_of_mem _ hy, fun u hu => by
        rcases List.mem_cons.mp hu with rfl | hu
        · omega
        · exact h u hu⟩
theorem frac_tr {a b c d e f : Nat} (hd : 0 < d) (h1 : a * d ≤ c * b) (h2 : c * f ≤ e * d) : a * f ≤ e * b := by
  refine Nat.le_of_mul_le_mul_right (c := d) ?_ hd
  calc a * f * d = a * d * f := Nat.mul_right_comm _ _ _
    _ ≤ c * b * f := Nat.mul_le_mul_right _ h1
    _ = c * f * b := Nat.mul_right_comm _ _ _
    _ ≤ e * d * b := Nat.mul_le_mul_right _ h2
    _ = e * b * d := Nat.mul_right_comm _ _ _
theorem frac_max {α : Type} (a b : α → Nat) : ∀ {l : List α}, l ≠ [] → (∀ x ∈ l, 0 < b x) → ∃ x ∈ l, ∀ y ∈ l, a y * b x ≤ a x * b y
  | [], h, _ => absurd rfl h
  | [x], _, _ => ⟨x, List.mem_cons_self, fun y hy => by rw [List.mem_singleton.mp hy]; exact Nat.le_refl _⟩
  | x :: z :: r, _, hb => by
    obtain ⟨y, hy, h⟩ := frac_max a b (l := z :: r) (List.cons_ne_nil _ _) fun u hu => hb u (List.mem_cons_of_mem _ hu)
    have by0 := hb y (List.mem_cons_of_mem _ hy)
    have bx0 := hb x List.mem_cons_self
    by_cases c : a y * b x ≤ a x * b y
    · exact ⟨x, List.mem_cons_self, fun u hu => by
        rcases List.mem_cons.mp hu with rfl | hu
        · exact Nat.le_refl _
        · exact frac_tr by0 (h u hu) c⟩
    · exact ⟨y, List.mem_cons_of_mem _ hy, fun u hu => by
        rcases List.mem_cons.mp hu with rfl | hu
        · omega
        · exact h u hu⟩
theorem exc_le {ss : List Stf} {P Q : Nat} {t m : List Bool} : exc ss P Q t m ≤ 0 ↔ costM ss t m * Q ≤ P * m.length := by
  unfold exc
  have e1 : (Q : Int) * (costM ss t m : Nat) = ((costM ss t m * Q : Nat) : Int) := by rw [Int.natCast_mul, Int.mul_comm]
  have e2 : (P : Int) * (m.length : Nat) = ((P * m.length : Nat) : Int) := by rw [Int.natCast_mul]
  rw [e1, e2]
  omega
theorem ring_max {ss : List Stf} {ws : List (List Bool)} (h : Mvs ss ws) : ∃ w0 ∈ ws, ∃ m0, m0 ≠ [] ∧ stF ss w0 m0 = w0 ∧ NoPos ss ws (costM ss w0 m0 : Nat) (m0.length : Nat) := by
  let L : List (List Bool × List Bool) := ((ws.map fun w => (allW ws.length).map fun m => (w, m)).flatten).filter fun x => decide (x.2 ≠ []) && decide (stF ss x.1 x.2 = x.1)
  have memL : ∀ w m, w ∈ ws → m.length ≤ ws.length → m ≠ [] → stF ss w m = w → (w, m) ∈ L := fun w m hw hm hn he => by
    refine List.mem_filter.mpr ⟨List.mem_flatten.mpr ⟨_, List.mem_map_of_mem hw, List.mem_map_of_mem (mem_allW hm)⟩, ?_⟩
    rw [Bool.and_eq_true, decide_eq_true_iff, decide_eq_true_iff]
    exact ⟨hn, he⟩
  have ofL : ∀ x ∈ L, x.1 ∈ ws ∧ x.2 ≠ [] ∧ stF ss x.1 x.2 = x.1 := fun x hx => by
    obtain ⟨h1, h2⟩ := List.mem_filter.mp hx
    rw [Bool.and_eq_true, decide_eq_true_iff, decide_eq_true_iff] at h2
    obtain ⟨l, hl, hxl⟩ := List.mem_flatten.mp h1
    obtain ⟨w, hw, rfl⟩ := List.mem_map.mp hl
    obtain ⟨m, _, rfl⟩ := List.mem_map.mp hxl
    exact ⟨hw, h2.1, h2.2⟩
  have neL : L ≠ [] := by
    obtain ⟨a, b, c, e, hb, hl, es⟩ := cut_of h (m := List.replicate ws.length false) h.nil (by rw [List.length_replicate]; exact Nat.le_refl _)
    rw [List.length_append] at hl
    exact List.ne_nil_of_mem (memL (stF ss [] a) b (stF_in h h.nil) (by omega) hb (by rw [← stF_app, es]))
  obtain ⟨⟨w0, m0⟩, hx, hmax⟩ := frac_max (fun x : List Bool × List Bool => costM ss x.1 x.2) (fun x => x.2.length) neL fun x hx => List.length_pos_iff.mpr (ofL x hx).2.1
  obtain ⟨hw0, hm0, hr0⟩ := ofL _ hx
  refine ⟨w0, hw0, m0, hm0, hr0, ?_⟩
  have all : ∀ (k : Nat) (w : List Bool), w ∈ ws → ∀ m, m.length ≤ k → m ≠ [] → stF ss w m = w → exc ss (costM ss w0 m0 : Nat) (m0.length : Nat) w m ≤ 0 := fun k => by
    induction k with
    | zero => intro w hw m hm hn; exact absurd (List.length_eq_zero_iff.mp (by omega)) hn
    | succ k ih =>
      intro w hw m hm hn he
      by_cases c : m.length ≤ ws.length
      · exact exc_le.mpr (hmax (w, m) (memL w m hw c hn he))
      · obtain ⟨a, b, d, rfl, hb, hl, es⟩ := cut_of h hw (by omega : ws.length ≤ m.length)
        have hbl := List.length_pos_iff.mpr hb
        rw [List.length_append, List.length_append] at hm c
        rw [List.length_append] at hl
        have e2 : stF ss w (a ++ b ++ d) = stF ss w (a ++ d) := by rw [stF_app, es, ← stF_app]
        have r1 := ih (stF ss w a) (stF_in h hw) b (by omega) hb (by rw [← stF_app, es])
        have r2 := ih w hw (a ++ d) (by rw [List.length_append]; omega) (fun z => by
          have := congrArg List.length z
          rw [List.length_append] at this
          simp only [List.length_nil] at this
          omega) (by rw [← e2, he])
        have x1 := exc_app (ss := ss) (p := (costM ss w0 m0 : Nat)) (q := (m0.length : Nat)) w (a ++ b) d
        have x2 := exc_app (ss := ss) (p := (costM ss w0 m0 : Nat)) (q := (m0.length : Nat)) w a b
        have x3 := exc_app (ss := ss) (p := (costM ss w0 m0 : Nat)) (q := (m0.length : Nat)) w a d
        rw [es] at x1
        omega
  exact fun w hw m hn he => all m.length w hw m (Nat.le_refl _) hn he
theorem heaviest {ss : List Stf} {ws : List (List Bool)} (h : Mvs ss ws) {p q : Int} (np : NoPos ss ws p q) {t w : List Bool} (ht : t ∈ ws) (hw : ∃ m, stF ss t m = w) : ∃ M, stF ss t M = w ∧ ∀ m, stF ss t m = w → exc ss p q t m ≤ exc ss p q t M := by
  obtain ⟨m1, e1⟩ := hw
  obtain ⟨m2, l2, e2, _⟩ := dom h np ht m1.length m1 (Nat.le_refl _)
  have ne : ((allW ws.length).filter fun m => decide (stF ss t m = w)) ≠ [] := List.ne_nil_of_mem (List.mem_filter.mpr ⟨mem_allW (Nat.le_of_lt l2), decide_eq_true (by rw [e2, e1])⟩)
  obtain ⟨M, hM, hmax⟩ := list_max (exc ss p q t) ne
  refine ⟨M, of_decide_eq_true (List.mem_filter.mp hM).2, fun m hm => ?_⟩
  obtain ⟨m', l', e', x'⟩ := dom h np ht m.length m (Nat.le_refl _)
  exact Int.le_trans x' (hmax m' (List.mem_filter.mpr ⟨mem_allW (Nat.le_of_lt l'), decide_eq_true (by rw [e', hm])⟩))
def rep (m : List Bool) : Nat → List Bool
  | 0 => []
  | k + 1 => m ++ rep m k
theorem rep_len (m : List Bool) : ∀ k, (rep m k).length = k * m.length
  | 0 => by show 0 = 0 * _; rw [Nat.zero_mul]
  | k + 1 => by
    show (m ++ rep m k).length = _
    rw [List.length_append, rep_len m k, Nat.succ_mul, Nat.add_comm]
theorem rep_st {ss : List Stf} {w m : List Bool} (h : stF ss w m = w) : ∀ k, stF ss w (rep m k) = w
  | 0 => rfl
  | k + 1 => by
    show stF ss w (m ++ rep m k) = w
    rw [stF_app, h, rep_st h k]
theorem rep_exc {ss : List Stf} {p q : Int} {w m : List Bool} (h : stF ss w m = w) : ∀ k : Nat, exc ss p q w (rep m k) = k * exc ss p q w m
  | 0 => by show exc ss p q w [] = _; rw [exc_nil]; simp
  | k + 1 => by
    show exc ss p q w (m ++ rep m k) = _
    rw [exc_app, h, rep_exc h k, Int.natCast_add, Int.add_mul]
    show _ = _ + 1 * _
    omega
theorem karp_low {ss : List Stf} {ws : List (List Bool)} (o : OkN 39 ss) (h : Mvs ss ws) {w0 m0 : List Bool} (hw : w0 ∈ ws) (hm : m0 ≠ []) (hr : stF ss w0 m0 = w0) (np : NoPos ss ws (costM ss w0 m0 : Nat) (m0.length : Nat)) :
    ∃ x : List Bool, x.length = ws.length ∧ ∀ m, stF ss [] m = stF ss [] x → exc ss (costM ss w0 m0 : Nat) (m0.length : Nat) [] m ≤ exc ss (costM ss w0 m0 : Nat) (m0.length : Nat) [] x := by
  obtain ⟨M, hM, hmax⟩ := heaviest h np h.nil (reach_of o h hw)
  have e0 : exc ss (costM ss w0 m0 : Nat) (m0.length : Nat) w0 m0 = 0 := by
    unfold exc
    rw [Int.mul_comm]
    omega
  have l0 := List.length_pos_iff.mpr hm
  have lX : ws.length ≤ (M ++ rep m0 ws.length).length := by
    rw [List.length_append, rep_len]
    have : ws.length * 1 ≤ ws.length * m0.length := Nat.mul_le_mul_left _ l0
    omega
  have hX : stF ss [] (M ++ rep m0 ws.length) = w0 := by rw [stF_app, hM, rep_st hr]
  have eX : exc ss (costM ss w0 m0 : Nat) (m0.length : Nat) [] (M ++ rep m0 ws.length) = exc ss (costM ss w0 m0 : Nat) (m0.length : Nat) [] M := by
    rw [exc_app, hM, rep_exc hr, e0]
    simp
  generalize M ++ rep m0 ws.length = X at lX hX eX
  refine ⟨X.take ws.length, by rw [List.length_take]; omega, fun m e => ?_⟩
  have hd := List.take_append_drop ws.length X
  have h1 := hmax (m ++ X.drop ws.length) (by rw [stF_app, e, ← stF_app, hd, hX])
  rw [← eX, exc_app, e] at h1
  have h2 := exc_app (ss := ss) (p := (costM ss w0 m0 : Nat)) (q := (m0.length : Nat)) [] (X.take ws.length) (X.drop ws.length)
  rw [hd] at h2
  omega
end U
set_option maxRecDepth 100000
set_option maxHeartbeats 4000000
namespace U
open PySem PySem.Spec PyProof.Rows
open L2 hiding Fun CX0 E0 pass0 Fun.binds
open C8 Lx SX StX
structure Wk (ss : List Stf) (k : Nat) (ks : List (List Bool)) (c : List Bool → Nat) : Prop where
  nd : ks.Nodup
  wit : ∀ w ∈ ks, ∃ m, m.length = k ∧ stF ss [] m = w ∧ costM ss [] m = c w
  all : ∀ m, m.length = k → stF ss [] m ∈ ks ∧ costM ss [] m ≤ c (stF ss [] m)
theorem Wk.start {ss : List Stf} : Wk ss 0 [[]] (fun _ => 0) := by
  refine ⟨List.nodup_cons.mpr ⟨List.not_mem_nil, List.nodup_nil⟩, fun w hw => ⟨[], rfl, (List.mem_singleton.mp hw).symm, rfl⟩, fun m hm => ?_⟩
  rw [List.length_eq_zero_iff.mp hm]
  exact ⟨List.mem_singleton.mpr rfl, Nat.le_refl _⟩
structure Lt (ss : List Stf) (c : List Bool → Nat) (P : List Bool → Bool → Prop) (ks : List (List Bool)) (c2 : List Bool → Nat) : Prop where
  nd : ks.Nodup
  wit : ∀ w ∈ ks, ∃ u b, P u b ∧ nM ss u b = w ∧ c2 w = c u + cM ss u b
  all : ∀ u b, P u b → nM ss u b ∈ ks ∧ c u + cM ss u b ≤ c2 (nM ss u b)
theorem Lt.start {ss : List Stf} {c c2 : List Bool → Nat} : Lt ss c (fun _ _ => False) [] c2 := ⟨List.nodup_nil, fun w hw => (by cases hw), fun _ _ h => h.elim⟩
theorem Lt.congr {ss : List Stf} {c c2 : List Bool → Nat} {P P' : List Bool → Bool → Prop} {ks : List (List Bool)} (h : Lt ss c P ks c2) (e : ∀ u b, P u b ↔ P' u b) : Lt ss c P' ks c2 :=
  ⟨h.nd, fun w hw => by obtain ⟨u, b, h1, h2⟩ := h.wit w hw; exact ⟨u, b, (e u b).mp h1, h2⟩, fun u b hp => h.all u b ((e u b).mpr hp)⟩
theorem Lt.step {ss : List Stf} {c c2 : List Bool → Nat} {P : List Bool → Bool → Prop} {ks : List (List Bool)} (h : Lt ss c P ks c2) (u : List Bool) (b : Bool) :
    Lt ss c (fun x y => P x y ∨ (x = u ∧ y = b)) (addW ks (nM ss u b)) (ug c2 (nM ss u b) (max (cntAt ks c2 (nM ss u b)) (c u + cM ss u b))) := by
  refine ⟨addW_nd h.nd, fun w hw => ?_, fun x y hp => ?_⟩
  · by_cases e : w = nM ss u b
    · subst e
      rw [ug_same]
      by_cases hm : cntAt ks c2 (nM ss u b) ≤ c u + cM ss u b
      · exact ⟨u, b, .inr ⟨rfl, rfl⟩, rfl, by omega⟩
      · unfold cntAt at hm ⊢
        split at hm
        · rename_i hk
          obtain ⟨x, y, h1, h2, h3⟩ := h.wit _ hk
          exact ⟨x, y, .inl h1, h2, by rw [if_pos hk]; omega⟩
        · omega
    · rw [ug_ne e]
      rcases addW_mem hw with hw | hw
      · obtain ⟨x, y, h1, h2⟩ := h.wit w hw
        exact ⟨x, y, .inl h1, h2⟩
      · exact absurd hw e
  · rcases hp with hp | ⟨rfl, rfl⟩
    · obtain ⟨h1, h2⟩ := h.all x y hp
      refine ⟨addW_old h1, ?_⟩
      by_cases e : nM ss x y = nM ss u b
      · rw [e, ug_same]
        unfold cntAt
        rw [if_pos (by rw [← e]; exact h1), ← e]
        omega
      · rw [ug_ne e]; exact h2
    · exact ⟨addW_in, by rw [ug_same]; omega⟩
theorem Wk.next {ss : List Stf} {k : Nat} {ks ks2 : List (List Bool)} {c c2 : List Bool → Nat} (h : Wk ss k ks c) (l : Lt ss c (fun x _ => x ∈ ks) ks2 c2) : Wk ss (k + 1) ks2 c2 := by
  refine ⟨l.nd, fun w hw => ?_, fun m hm => ?_⟩
  · obtain ⟨u, b, hu, e, ec⟩ := l.wit w hw
    obtain ⟨m, h1, h2, h3⟩ := h.wit u hu
    refine ⟨m ++ [b], by rw [List.length_append, h1]; rfl, by rw [stF_app, h2]; exact e, ?_⟩
    rw [cost_app, h2, h3, ec]
    rfl
  · rcases List.eq_nil_or_concat m with z | ⟨v, b, z⟩
    · rw [z] at hm; cases hm
    · rw [List.concat_eq_append] at z
      subst z
      obtain ⟨h1, h2⟩ := h.all v (by rw [List.length_append] at hm; simpa using hm)
      obtain ⟨h3, h4⟩ := l.all _ b h1
      rw [stF_app, cost_app]
      refine ⟨h3, ?_⟩
      show costM ss [] v + (cM ss (stF ss [] v) b + 0) ≤ c2 (nM ss (stF ss [] v) b)
      omega
theorem Wk.sub {ss : List Stf} {ws : List (List Bool)} (hW : Mvs ss ws) {k : Nat} {ks : List (List Bool)} {c : List Bool → Nat} (h : Wk ss k ks c) : ∀ w ∈ ks, w ∈ ws := fun w hw => by
  obtain ⟨m, _, rfl, _⟩ := h.wit w hw
  exact stF_in hW hW.nil
def WkD (H : Hp) (ss : List Stf) (ds : List Addr) : Prop := ∀ i d, ds[i]? = some d → ∃ ks c, H d = some (.dK (kvi ks c)) ∧ Wk ss i ks c
theorem WkD.same {H H' : Hp} {ss : List Stf} {ds : List Addr} (h : WkD H ss ds) (e : Same H H') : WkD H' ss ds := fun i d hd => by
  obtain ⟨ks, c, h1, h2⟩ := h i d hd
  exact ⟨ks, c, e _ _ h1, h2⟩
def spWalks : Sp := fun vs H Q _ => ∃ (d : Addr) (ss : List Stf) (ws : List (List Bool)), vs = [.ref d] ∧ MvAt H d ss ws ∧ Mvs ss ws ∧ ws.length ≤ 1100 ∧
  ∀ l ds H', H l = none → Same H H' → H' l = some (.lst (ds.map V.ref)) → ds.length = ws.length + 1 → WkD H' ss ds → Q (.ref l) H'
def FrQt (H : Hp) (l : Addr) (fs : List (Int × Int)) : Prop := ∃ ts : List Addr, H l = some (.lst (ts.map V.ref)) ∧ Paired (fun t x => H t = some (.tup [.int x.1, .int x.2])) ts fs
def spLeastOf : Sp := fun vs H Q _ => ∃ (l : Addr) (fs : List (Int × Int)), vs = [.ref l] ∧ FrQt H l fs ∧ fs ≠ [] ∧ (∀ x ∈ fs, 0 < x.2 ∧ x.2 ≤ 100000) ∧
  ∀ t x H', Same H H' → H' t = some (.tup [.int x.1, .int x.2]) → x ∈ fs → (∀ y ∈ fs, x.1 * y.2 ≤ y.1 * x.2) → Q (.ref t) H'
theorem pair_get {α β : Type} {F : α → β → Prop} : ∀ {l : List α} {m : List β} {i : Nat} {a : α}, Paired F l m → l[i]? = some a → ∃ b, m[i]? = some b ∧ F a b
  | _, _, i, _, .nil, h => by simp at h
  | _, _, 0, _, .cons x _, h => by cases h; exact ⟨_, rfl, x⟩
  | _, _, i + 1, _, .cons _ t, h => by
    obtain ⟨b, h1, h2⟩ := pair_get (i := i) t h
    exact ⟨b, h1, h2⟩
theorem pair_len {α β : Type} {F : α → β → Prop} : ∀ {l : List α} {m : List β}, Paired F l m → l.length = m.length
  | _, _, .nil => rfl
  | _, _, .cons _ t => by rw [List.length_cons, List.length_cons, pair_len t]
theorem paired_snoc' {α β : Type} {F : α → β → Prop} : ∀ {l : List α} {m : List β} {a : α} {b : β}, Paired F l m → F a b → Paired F (l ++ [a]) (m ++ [b])
  | _, _, _, _, .nil, h => .cons h .nil
  | _, _, _, _, .cons x r, h => .cons x (paired_snoc' r h)
theorem fracI_tr {a b c d e f : Int} (hd : 0 < d) (hf : 0 < f) (hb : 0 < b) (h1 : a * d < c * b) (h2 : c * f ≤ e * d) : a * f ≤ e * b := by
  refine Int.le_of_mul_le_mul_right (a := d) ?_ hd
  calc a * f * d = a * d * f := Int.mul_right_comm _ _ _
    _ ≤ c * b * f := Int.mul_le_mul_of_nonneg_right (Int.le_of_lt h1) (Int.le_of_lt hf)
    _ = c * f * b := Int.mul_right_comm _ _ _
    _ ≤ e * d * b := Int.mul_le_mul_of_nonneg_right h2 (Int.le_of_lt hb)
    _ = e * b * d := Int.mul_right_comm _ _ _
section
variable {P : Program} {w : World} {K : PySem.W.Frag} {mg : Str → Option Value} {base : Heap}
theorem sc_walks : FnScope ["moves", "found", "turn", "later", "here", "whole", "many", "there"] ["moves"] (fnScope s_walks) := fnScope_by (by decide +kernel)
theorem cal_walks {f : Addr} {fd : FuncData} (F : Def K mg "walks" s_walks f fd) (b : Binds K fd ["moves"] []) (T : Tx mg) : Cal P w K mg base 1 "walks" spWalks [] := by
  refine cal0 F b .nil sc_walks (fun vs H Q E h => ?_) (fun cdv A outer s H vs Q E hr h => ?_)
  · obtain ⟨_, _, _, rfl, _⟩ := h; rfl
  · obtain ⟨d, ss, ws, rfl, ⟨lo, hd, hM⟩, hW, few, k⟩ := h
    refine ⟨_, (pss_cons (ps_set (i := 1) sc_walks.nd rfl (.inl rfl) (pe_lst (pa_cons (pe_disp (pps_cons pe_str pe_int pps_nil) (by rfl) (by rfl) (fun z => by cases z) (by decide)) pa_nil)))
    (pss_cons (ps_for PassesOwn.never rfl (pi_range1 (by rfl) T.b_range (pa_cons (pe_callB call_lenD (by rfl) T.b_len (by decide +kernel) (pa_cons (pv 0) pa_nil)) pa_nil)) (pg_name (i := 2) sc_walks.nd rfl (.inl rfl))
    (pss_cons (ps_set (i := 3) sc_walks.nd rfl (.inl rfl) pe_dnewK)
    (pss_cons (ps_lock (ps_for PassesOwn.never rfl (pi_items (pe_ix ix_list (pv 1) (pe_un un_neg pe_int) (fun _ _ => rfl))) (pg_tup rfl (pgs_cons (pg_name (i := 4) sc_walks.nd rfl (.inl rfl)) (pgs_cons (pg_name (i := 5) sc_walks.nd rfl (.inl rfl)) pgs_nil)))
    (pss_one (ps_for PassesOwn.never rfl (pi_list (pe_dget (hu_of hr) (pv 0) (pv 4) (fun _ _ => rfl))) (pg_tup rfl (pgs_cons (pg_name (i := 6) sc_walks.nd rfl (.inl rfl)) (pgs_cons (pg_name (i := 7) sc_walks.nd rfl (.inl rfl)) pgs_nil)))
    (pss_one (ps_dput (hu_of hr) (pv 3) (pv 7) (pe_callB (call_max2 rfl) (by rfl) T.b_max (by decide +kernel) (pa_cons (pe_callTy call_int1 (by rfl) T.b_int (by decide +kernel) (pa_cons (pe_dget2 (hu_of hr) (pv 3) (pv 7) pe_int ⟨rfl, rfl, rfl, rfl⟩) pa_nil)) (pa_cons (pe_callTy call_int1 (by rfl) T.b_int (by decide +kernel) (pa_cons (pe_op op_add (pv 5) (pv 6)) pa_nil)) pa_nil))) rfl))))))
    (pss_one (ps_expr (pe_bm PySem.F.plainAttrs_list PySem.F.slot_list_append PySem.F.type_list_append mt_append (pv 1) (pa_cons (pv 3) pa_nil)))))))
    (pss_one (ps_ret (pv 1))))), ?_⟩
    refine fun c0 nc0 => ⟨upd_same, [(.inr "", .int 0)], rfl, by decide, by show 1 ≤ sizeLine; decide, fun l nl => ?_⟩
    have e1 : mergeK [] [((.inr "" : Key), V.int 0)] = kvi [[]] (fun _ => 0) := by unfold kvi kvw; rw [List.map_cons, List.map_nil, ← W_nil]; rfl
    rw [e1] at nl ⊢
    have s1 : Same H (upd (upd H c0 (.dK [])) c0 (.dK (kvi [[]] fun _ => 0))) := same_mut' (same_upd nc0) nc0
    have hc0 : upd (upd H c0 (.dK [])) c0 (.dK (kvi [[]] fun _ => 0)) c0 = some (.dK (kvi [[]] fun _ => 0)) := upd_same
    generalize upd (upd H c0 (.dK [])) c0 (.dK (kvi [[]] fun _ => 0)) = H1 at s1 hc0 nl ⊢
    have sl := same_upd (o := .lst [.ref c0]) nl
    have hl : upd H1 l (.lst [.ref c0]) l = some (.lst ([c0].map V.ref)) := upd_same
    have nlH : H l = none := s1.free nl
    have hc1 := sl _ _ hc0
    have s2 := s1.trans sl
    generalize upd H1 l (.lst [.ref c0]) = H2 at hl hc1 s2 ⊢
    have lkr : (kvr ws lo).length = ws.length := kvr_len _ _
    refine ⟨_, rfl, d, _, rfl, s2 _ _ hd, _, rfl, by omega, by omega, ?_⟩
    refine for_it (walk_range (lo := 0) (n := (((kvr ws lo).length : Nat) : Int).toNat)) (fun i σ H3 => ∃ (ds : List Addr) (v2 v3 v4 v5 v6 v7 : Option V), σ = [some (.ref d), some (.ref l), v2, v3, v4, v5, v6, v7] ∧ Same H H3 ∧ H3 l = some (.lst (ds.map V.ref)) ∧ ds.length = i + 1 ∧ WkD H3 ss ds)
      ⟨[c0], _, _, _, _, _, _, rfl, s2, hl, rfl, fun i d' h => by
        match i, h with
        | 0, h => cases h; exact ⟨_, _, hc1, .start⟩
        | i + 1, h => simp at h⟩ (fun _ _ _ _ _ => trivial) ?_ ?_
    · rintro i x σ H3' H3 hi ⟨ds, v2, v3, v4, v5, v6, v7, rfl, s3, hl3, lds, hK⟩ ⟨rfl, rfl⟩
      have hi' : i < ws.length := by rw [lkr] at hi; omega
      obtain ⟨ds', cd, rfl⟩ : ∃ ds' dl, ds = ds' ++ [dl] := by
        rcases List.eq_nil_or_concat ds with e0 | ⟨a1, a2, e0⟩
        · rw [e0] at lds; cases lds
        · exact ⟨a1, a2, by rw [e0, List.concat_eq_append]⟩
      have lds' : ds'.length = i := by rw [List.length_append] at lds; simpa using lds
      obtain ⟨ks, c, hcd, hWk⟩ := hK i cd (by rw [List.getElem?_append_right (by omega), lds', Nat.sub_self]; rfl)
      have hsub := hWk.sub hW
      refine fun d2 nd2 => ?_
      have n2c : d2 ≠ cd := (ne_of_none hcd nd2).symm
      have hcd4 : upd H3 d2 (.dK []) cd = some (.dK (kvi ks c)) := by rw [upd_ne n2c.symm]; exact hcd
      refine ⟨cd, _, hcd4, trivial, fun od => ?_⟩
      have hL2 : upd H3 cd (.frz od (.dK (kvi ks c))) d2 = none := by rw [upd_ne n2c]; exact nd2
      have hLc : upd H3 cd (.frz od (.dK (kvi ks c))) cd = some (.frz od (.dK (kvi ks c))) := upd_same
      have hLd : Rd (upd H3 cd (.frz od (.dK (kvi ks c)))) d (.dK (kvr ws lo)) := rd_lock (s3 _ _ hd) hcd
      have hLM : MvD (upd H3 cd (.frz od (.dK (kvi ks c)))) ss ws lo := (hM.same s3).dk hcd (fun _ z => by cases z) (fun _ z => by cases z)
      have hLl : upd H3 cd (.frz od (.dK (kvi ks c))) l = some (.lst ((ds' ++ [cd]).map V.ref)) := by rw [upd_ne (ne_of hl3 hcd (by intro z; cases z))]; exact hl3
      have hLu : ∀ {H'}, Same (upd H3 cd (.frz od (.dK (kvi ks c)))) H' → Same H3 (upd H' cd (.dK (kvi ks c))) := fun s => same_unlock s hcd
      have sL : Same (upd H3 cd (.frz od (.dK (kvi ks c)))) (upd (upd H3 d2 (.dK [])) cd (.frz od (.dK (kvi ks c)))) := fun x o e => by
        by_cases q : x = cd
        · rw [q, upd_same] at e ⊢; exact e
        · rw [upd_ne q] at e ⊢
          rw [upd_ne (ne_of_none e nd2)]; exact e
      have hd2 : upd (upd H3 d2 (.dK [])) cd (.frz od (.dK (kvi ks c))) d2 = some (.dK (kvi [] c)) := by rw [upd_ne n2c, upd_same]; rfl
      generalize upd (upd H3 d2 (.dK [])) cd (.frz od (.dK (kvi ks c))) = H4 at sL hd2 ⊢
      generalize upd H3 cd (.frz od (.dK (kvi ks c))) = HL at sL hL2 hLc hLd hLM hLu hLl
      refine ⟨_, rfl, _, rfl, l, _, _, _, rfl, rfl, SqL.of (sL _ _ hLl), by rw [List.map_append]; exact atI_last _ _, cd, od, kvi ks c, rfl, sL _ _ hLc, ?_⟩
      refine for_it (walk_items (kvs := kvi ks c)) (fun j σ H5 => ∃ (ks2 : List (List Bool)) (c2 : List Bool → Nat) (v4 v5 v6 v7 : Option V), σ = [some (.ref d), some (.ref l), some (.int (0 + (i : Int))), some (.ref d2), v4, v5, v6, v7] ∧ Same HL H5 ∧ H5 d2 = some (.dK (kvi ks2 c2)) ∧ Lt ss c (fun x _ => x ∈ ks.take j) ks2 c2)
        ⟨[], c, _, _, _, _, rfl, sL, hd2, Lt.start.congr fun u b => ⟨fun z => z.elim, fun z => by cases z⟩⟩ (fun j σ H5 _ h5 => by obtain ⟨_, _, _, _, _, _, _, h5, _⟩ := h5; exact h5 _ _ hLc) ?_ ?_
      · rintro j x σ H5 H5' hj ⟨ks2, c2, v4, v5, v6, v7, rfl, s5, hd5, hLt⟩ ⟨T', y1, y2, rfl, nT, rfl, ek, ev⟩
        obtain ⟨u, hu⟩ : ∃ u, ks[j]? = some u := ⟨ks[j]'(by rw [kvi_len] at hj; exact hj), List.getElem?_eq_getElem _⟩
        have ekv : (kvi ks c)[j]? = some (Sum.inr (W u), .int (c u : Nat)) := by unfold kvi kvw; rw [List.getElem?_map, hu]; rfl
        have ek : (kvi ks c)[j]?.map (fun kv => kV kv.1) = some y1 := ek
        have ev : (kvi ks c)[j]?.map Prod.snd = some y2 := ev
        rw [ekv] at ek ev
        cases ek
        cases ev
        have hum := hsub u (List.mem_of_getElem? hu)
        have sT := same_upd (o := .tup [.str (W u), .int (c u : Nat)]) nT
        have eT : upd H5 T' (.tup [.str (W u), .int (c u : Nat)]) T' = some (.tup [.str (W u), .int (c u : Nat)]) := upd_same
        have s6 := s5.trans sT
        have hd6 := sT _ _ hd5
        refine ⟨T', _, rfl, SqT.of eT, rfl, _, _, rfl, _, _, rfl, rfl, ?_⟩
        show tFor _ _ _ _ _ (upd H5 T' (.tup [.str (W u), .int (c u : Nat)]))
        generalize upd H5 T' (.tup [.str (W u), .int (c u : Nat)]) = H6 at s6 hd6 ⊢
        obtain ⟨p0, p1, hlo, hp0, hp1⟩ := (hLM.same s6) u hum
        have hloL : HL (lo u) = some (.lst [.ref p0, .ref p1]) := by
          obtain ⟨q0, q1, w1, _, _⟩ := hLM u hum
          have := s6 _ _ w1
          rw [hlo] at this
          rw [w1, ← this]
        refine ⟨_, rfl, _, rfl, d, _, rfl, .inl ⟨kvr ws lo, .inr (W u), rd_same hLd s6, rfl, (kvr_val hum).symm⟩, lo u, rfl, ⟨_, SqL.of hlo⟩, ?_⟩
        refine for_it (walk_list (xs := [.ref p0, .ref p1])) (fun e σ H7 => ∃ (ks2 : List (List Bool)) (c2 : List Bool → Nat) (v6 v7 : Option V), σ = [some (.ref d), some (.ref l), some (.int (0 + (i : Int))), some (.ref d2), some (.str (W u)), some (.int (c u : Nat)), v6, v7] ∧ Same HL H7 ∧ H7 d2 = some (.dK (kvi ks2 c2)) ∧ Lt ss c (fun x y => x ∈ ks.take j ∨ (x = u ∧ y ∈ [false, true].take e)) ks2 c2)
          ⟨ks2, c2, _, _, rfl, s6, hd6, hLt.congr fun u b => ⟨.inl, fun z => z.elim id fun z => by cases z.2⟩⟩ (fun e σ H7 _ h7 => by obtain ⟨_, _, _, _, _, h7, _⟩ := h7; exact SqL.of (h7 _ _ hloL)) ?_ ?_
        · rintro e x σ H7' H7 he ⟨ks2, c2, v6, v7, rfl, s7, hd7, hLt7⟩ ⟨rfl, hx⟩
          have hp : ∃ (b : Bool) (p : Addr), x = .ref p ∧ [false, true][e]? = some b ∧ H7 p = some (.tup [.int (cM ss u b : Nat), .str (W (nM ss u b))]) := by
            obtain ⟨q0, q1, w1, w2, w3⟩ := hLM u hum
            rw [hloL] at w1
            have hq := HO.lst.inj (Option.some.inj w1)
            match e, he, hx with
            | 0, _, hx => cases hx; cases hq; exact ⟨false, p0, rfl, rfl, s7 _ _ w2⟩
            | 1, _, hx => cases hx; cases hq; exact ⟨true, p1, rfl, rfl, s7 _ _ w3⟩
          obtain ⟨b, p, rfl, hb, hp⟩ := hp
          refine ⟨p, _, rfl, SqT.of hp, rfl, _, _, rfl, _, _, rfl, rfl, ?_⟩
          refine ⟨_, rfl, d2, rfl, .inl ⟨_, .inl hd7⟩, _, rfl, _, DGet.k (k := .inr (W (nM ss u b))) hd7, .inl ⟨((cntAt ks2 c2 (nM ss u b) : Nat) : Int), congrArg (fun z => [z]) kvi_val, ?_⟩⟩
          refine ⟨_, rfl, _, rfl, _, _, rfl, rfl, .inl ⟨_, rfl, _, _, rfl, ?_⟩⟩
          have l2 : ks2.length ≤ 1100 := Nat.le_trans (nodup_le hLt7.nd fun z hz => by
            obtain ⟨u', b', h1, h2, _⟩ := hLt7.wit z hz
            rw [← h2]
            refine hW.cl _ ?_ _
            rcases h1 with h1 | ⟨rfl, _⟩
            · exact hsub _ (List.mem_of_mem_take h1)
            · exact hum) few
          refine ⟨_, rfl, _, rfl, d2, _, rfl, DPut.k (k := .inr (W (nM ss u b))) hd7 (by rw [kvi_len]; exact sl_lt (by omega)), ?_⟩
          have emax : (if ((c u : Nat) : Int) + ((cM ss u b : Nat) : Int) > ((cntAt ks2 c2 (nM ss u b) : Nat) : Int) then ((c u : Nat) : Int) + ((cM ss u b : Nat) : Int) else ((cntAt ks2 c2 (nM ss u b) : Nat) : Int)) = ((max (cntAt ks2 c2 (nM ss u b)) (c u + cM ss u b) : Nat) : Int) := by split <;> omega
          rw [emax, kvi_upd]
          refine ⟨addW ks2 (nM ss u b), _, _, _, rfl, same_mut' s7 hL2, upd_same, (hLt7.step u b).congr fun x y => ?_⟩
          rw [take_snoc hb, List.mem_append, List.mem_singleton]
          constructor
          · rintro ((h | ⟨h1, h2⟩) | ⟨h1, h2⟩)
            · exact .inl h
            · exact .inr ⟨h1, .inl h2⟩
            · exact .inr ⟨h1, .inr h2⟩
          · rintro (h | ⟨h1, h2 | h2⟩)
            · exact .inl (.inl h)
            · exact .inl (.inr ⟨h1, h2⟩)
            · exact .inr ⟨h1, h2⟩
        · rintro σ H7 ⟨ks2, c2, v6, v7, rfl, s7, hd7, hLt7⟩
          refine ⟨ks2, c2, _, _, _, _, rfl, s7, hd7, hLt7.congr fun x y => ?_⟩
          rw [take_snoc hu, List.mem_append, List.mem_singleton]
          exact ⟨fun z => z.elim .inl fun z => .inr z.1, fun z => z.elim .inl fun z => .inr ⟨z, by show y ∈ [false, true].take 2; cases y <;> decide⟩⟩
      · rintro σ H5 ⟨ks2, c2, v4, v5, v6, v7, rfl, s5, hd5, hLt⟩
        rw [kvi_len, List.take_length] at hLt
        have hWk2 := hWk.next hLt
        have s6 := hLu s5
        have hd6 : upd H5 cd (.dK (kvi ks c)) d2 = some (.dK (kvi ks2 c2)) := by rw [upd_ne n2c]; exact hd5
        have hl6 := s6 _ _ hl3
        refine ⟨s5 _ _ hLc, ?_⟩
        generalize upd H5 cd (.dK (kvi ks c)) = H6 at s6 hd6 hl6 ⊢
        refine ⟨_, rfl, .inl ⟨rfl, _, SqL.of hl6⟩, _, rfl, l, _, _, rfl, rfl, hl6, by rw [List.length_map]; exact sl_lt (by omega), ?_⟩
        refine ⟨ds' ++ [cd] ++ [d2], _, _, _, _, _, _, rfl, same_mut' (s3.trans s6) nlH, by rw [upd_same, List.map_append (l₂ := [d2])]; rfl, by rw [List.length_append, lds]; rfl, fun i2 dd h2 => ?_⟩
        have key : ∃ ks c, H6 dd = some (.dK (kvi ks c)) ∧ Wk ss i2 ks c := by
          by_cases q : i2 < (ds' ++ [cd]).length
          · rw [List.getElem?_append_left q] at h2
            exact (hK.same s6) i2 dd h2
          · rw [List.getElem?_append_right (by omega)] at h2
            have l0 : i2 - (ds' ++ [cd]).length = 0 := by
              have := (List.getElem?_eq_some_iff.mp h2).1
              simp only [List.length_cons, List.length_nil] at this
              omega
            rw [l0] at h2
            have ed : d2 = dd := Option.some.inj h2
            have ei : i2 = i + 1 := by omega
            rw [← ed, ei]
            exact ⟨ks2, c2, hd6, hWk2⟩
        obtain ⟨k1, c1, h1, h2'⟩ := key
        exact ⟨k1, c1, by rw [upd_ne (ne_of h1 hl6 (by intro z; cases z))]; exact h1, h2'⟩
    · rintro σ H3 ⟨ds, v2, v3, v4, v5, v6, v7, rfl, s3, hl3, lds, hK⟩
      rw [lkr, Int.toNat_natCast] at lds
      exact ⟨_, rfl, k l ds H3 nlH s3 hl3 lds hK⟩
theorem sc_least_of : FnScope ["values", "found", "p", "q"] ["values"] (fnScope s_least_of) := fnScope_by (by decide +kernel)
theorem cal_least_of {f : Addr} {fd : FuncData} (F : Def K mg "least_of" s_least_of f fd) (b : Binds K fd ["values"] []) (T : Tx mg) : Cal P w K mg base 1 "least_of" spLeastOf [] := by
  refine cal0 F b .nil sc_least_of (fun vs H Q E h => ?_) (fun cdv A outer s H vs Q E hr h => ?_)
  · obtain ⟨_, _, rfl, _⟩ := h; rfl
  · obtain ⟨l, fs, rfl, ⟨ts, hl, hP⟩, hne, hpos, k⟩ := h
    refine ⟨_, (pss_cons (ps_set (i := 1) sc_least_of.nd rfl (.inl rfl) (pe_ix ix_list (pv 0) pe_int (fun _ _ => rfl)))
    (pss_cons (ps_for PassesOwn.never rfl (pi_list (pv 0)) (pg_tup rfl (pgs_cons (pg_name (i := 2) sc_least_of.nd rfl (.inl rfl)) (pgs_cons (pg_name (i := 3) sc_least_of.nd rfl (.inl rfl)) pgs_nil)))
    (pss_one (ps_if (pt_cmpR op_lt (pe_op op_mul (pv 2) (pe_ix ix_tup (pv 1) pe_int (fun _ _ => rfl))) (pe_op op_mul (pe_ix ix_tup (pv 1) pe_int (fun _ _ => rfl)) (pv 3)) (nomark _)) (pss_one (ps_set (i := 1) sc_least_of.nd rfl (.inl rfl) (pe_tup (pa_cons (pv 2) (pa_cons (pv 3) pa_nil))))) pss_nil)))
    (pss_one (ps_ret (pv 1))))), ?_⟩
    have lts := pair_len hP
    have l0 := List.length_pos_iff.mpr hne
    have h0 : ts[0]? = some (ts[0]'(by omega)) := List.getElem?_eq_getElem (by omega)
    generalize ts[0]'(by omega) = t0 at h0
    obtain ⟨x0, g0, ht0⟩ := pair_get hP h0
    refine ⟨_, rfl, l, _, _, _, rfl, rfl, SqL.of hl, atI_nat (j := 0) (by rw [List.getElem?_map, h0]; rfl), ?_⟩
    refine ⟨_, rfl, l, rfl, ⟨_, SqL.of hl⟩, ?_⟩
    refine for_it (walk_list (xs := ts.map V.ref)) (fun i σ H2 => ∃ (t : Addr) (x : Int × Int) (v2 v3 : Option V), σ = [some (.ref l), some (.ref t), v2, v3] ∧ Same H H2 ∧ H2 t = some (.tup [.int x.1, .int x.2]) ∧ x ∈ fs ∧ ∀ j y, j < i → fs[j]? = some y → x.1 * y.2 ≤ y.1 * x.2)
      ⟨t0, x0, _, _, rfl, Same.refl _, ht0, List.mem_of_getElem? g0, fun j y hj => absurd hj (Nat.not_lt_zero _)⟩ (fun i σ H2 _ h2 => by obtain ⟨_, _, _, _, _, h2, _⟩ := h2; exact SqL.of (h2 _ _ hl)) ?_ ?_
    · rintro i z σ H2' H2 hi ⟨t, x, v2, v3, rfl, s2, ht, hx, hle⟩ ⟨rfl, hz⟩
      rw [List.getElem?_map] at hz
      obtain ⟨tz, hz', rfl⟩ := Option.map_eq_some_iff.mp hz
      obtain ⟨y, gy, hty⟩ := pair_get hP hz'
      have hty := s2 _ _ hty
      obtain ⟨px, bx⟩ := hpos x hx
      obtain ⟨py, by'⟩ := hpos y (List.mem_of_getElem? gy)
      refine ⟨tz, _, rfl, SqT.of hty, rfl, _, _, rfl, _, _, rfl, rfl, ?_⟩
      refine ⟨_, rfl, _, rfl, t, _, _, _, rfl, rfl, SqT.of ht, atI_nat (j := 1) rfl, _, _, rfl, rfl, .inr ⟨by omega, by omega⟩, ?_⟩
      refine ⟨_, rfl, t, _, _, _, rfl, rfl, SqT.of ht, atI_nat (j := 0) rfl, _, rfl, _, _, rfl, rfl, .inr ⟨by omega, by omega⟩, ?_⟩
      refine ⟨_, _, rfl, rfl, _, rfl, ?_⟩
      by_cases c : y.1 * x.2 < x.1 * y.2
      · refine iteDT c ?_
        refine ⟨_, rfl, _, rfl, by show 2 ≤ sizeLine; decide, fun tn ntn => ?_⟩
        refine ⟨tn, y, _, _, rfl, s2.trans (same_upd ntn), upd_same, List.mem_of_getElem? gy, fun j v hj hv => ?_⟩
        rcases Nat.lt_or_ge j i with q | q
        · exact fracI_tr px (hpos v (List.mem_of_getElem? hv)).1 py c (hle j v q hv)
        · have : j = i := by omega
          subst this
          rw [gy] at hv
          rw [← Option.some.inj hv]
          exact Int.le_refl _
      · refine iteDF c ?_
        refine ⟨t, x, _, _, rfl, s2, ht, hx, fun j v hj hv => ?_⟩
        rcases Nat.lt_or_ge j i with q | q
        · exact hle j v q hv
        · have : j = i := by omega
          subst this
          rw [gy] at hv
          rw [← Option.some.inj hv]
          omega
    · rintro σ H2 ⟨t, x, v2, v3, rfl, s2, ht, hx, hle⟩
      refine ⟨_, rfl, k t x H2 s2 ht hx fun y hy => ?_⟩
      obtain ⟨j, hj⟩ := List.getElem?_of_mem hy
      refine hle j y ?_ hj
      rw [List.length_map, lts]
      exact (List.getElem?_eq_some_iff.mp hj).1
end
end U
set_option maxRecDepth 100000
set_option maxHeartbeats 1000000
namespace U
def MinV (ss : List Stf) (n : Nat) (v : List Bool) (p q : Int) : Prop := ∃ x : List Bool, x.length = n ∧ stF ss [] x = v ∧ (∀ y, y.length = n → stF ss [] y = v → costM ss [] y ≤ costM ss [] x) ∧
  (∃ m : List Bool, m.length < n ∧ stF ss [] m = v ∧ q = (n : Int) - m.length ∧ p = (costM ss [] x : Int) - (costM ss [] m : Nat)) ∧
  ∀ m : List Bool, m.length < n → stF ss [] m = v → p * ((n : Int) - m.length) ≤ ((costM ss [] x : Int) - (costM ss [] m : Nat)) * q
theorem MinV.pos {ss : List Stf} {n : Nat} {v : List Bool} {p q : Int} (h : MinV ss n v p q) : 0 < q := by
  obtain ⟨_, _, _, _, ⟨m, h1, _, rfl, _⟩, _⟩ := h
  omega
structure RateR (ss : List Stf) (p q : Nat) : Prop where
  pos : 0 < q
  le : ∀ u m, m ≠ [] → stF ss (stF ss [] u) m = stF ss [] u → costM ss (stF ss [] u) m * q ≤ p * m.length
  eq : ∃ u m, m ≠ [] ∧ stF ss (stF ss [] u) m = stF ss [] u ∧ costM ss (stF ss [] u) m * q = p * m.length
theorem mulI_tr {a b c d e f : Int} (hd : 0 < d) (hf : 0 ≤ f) (hb : 0 ≤ b) (h1 : a * d ≤ c * b) (h2 : c * f ≤ e * d) : a * f ≤ e * b := by
  refine Int.le_of_mul_le_mul_right (a := d) ?_ hd
  calc a * f * d = a * d * f := Int.mul_right_comm _ _ _
    _ ≤ c * b * f := Int.mul_le_mul_of_nonneg_right h1 hf
    _ = c * f * b := Int.mul_right_comm _ _ _
    _ ≤ e * d * b := Int.mul_le_mul_of_nonneg_right h2 hb
    _ = e * b * d := Int.mul_right_comm _ _ _
theorem karp {ss : List Stf} {ws : List (List Bool)} (o : OkN 39 ss) (h : Mvs ss ws) {p q : Nat} (hq : 0 < q) (h1 : (p = 0 ∧ q = 1) ∨ ∃ v, MinV ss ws.length v p q)
    (h2 : ∀ x : List Bool, x.length = ws.length → ∃ p' q', MinV ss ws.length (stF ss [] x) p' q' ∧ p' * (q : Int) ≤ p * q') : RateR ss p q := by
  obtain ⟨w0, hw0, m0, hm0, hr0, np⟩ := ring_max h
  have l0 := List.length_pos_iff.mpr hm0
  obtain ⟨u0, hu0⟩ := reach_of o h hw0
  -- no less
  have lo : (costM ss w0 m0 : Int) * q ≤ p * (m0.length : Nat) := by
    obtain ⟨x, hx, hmax⟩ := karp_low o h hw0 hm0 hr0 np
    obtain ⟨p', q', hV, hpq⟩ := h2 x hx
    have pq' := hV.pos
    obtain ⟨y, hy1, hy2, hy3, ⟨m, k1, k2, k3, k4⟩, _⟩ := hV
    have e1 := hmax m k2
    have e2 := hmax y hy2
    have hxy := hy3 x hx rfl
    have e3 : (costM ss w0 m0 : Int) * q' ≤ p' * (m0.length : Nat) := by
      unfold exc at e1
      rw [hx] at e1
      rw [k3, k4, Int.mul_sub, Int.sub_mul]
      have hxy' : ((m0.length : Nat) : Int) * (costM ss [] x : Nat) ≤ ((m0.length : Nat) : Int) * (costM ss [] y : Nat) := Int.mul_le_mul_of_nonneg_left (by omega) (by omega)
      rw [Int.mul_comm ((costM ss [] y : Nat) : Int), Int.mul_comm ((costM ss [] m : Nat) : Int)]
      omega
    exact mulI_tr pq' (by omega) (by omega) e3 hpq
  -- no more
  have hi : (p : Int) * (m0.length : Nat) ≤ (costM ss w0 m0 : Nat) * q := by
    rcases h1 with ⟨rfl, rfl⟩ | ⟨v, hV⟩
    · have : (0 : Int) ≤ (costM ss w0 m0 : Nat) * ((1 : Nat) : Int) := by omega
      omega
    · obtain ⟨x, hx1, hx2, _, _, hmin⟩ := hV
      obtain ⟨a, b, c, rfl, hb, hl, es⟩ := cut_of h (m := x) h.nil (by omega)
      have hbl := List.length_pos_iff.mpr hb
      rw [List.length_append, List.length_append] at hx1
      have e2 : stF ss [] (a ++ b ++ c) = stF ss [] (a ++ c) := by rw [stF_app, es, ← stF_app]
      have k1 := hmin (a ++ c) (by rw [List.length_append]; omega) (by rw [← e2, hx2])
      have k2 := exc_le.mp (np (stF ss [] a) (stF_in h h.nil) b hb (by rw [← stF_app, es]))
      have c1 := cost_app ss [] (a ++ b) c
      have c2 := cost_app ss [] a b
      have c3 := cost_app ss [] a c
      rw [es] at c1
      have ec : (costM ss [] (a ++ b ++ c) : Int) - (costM ss [] (a ++ c) : Nat) = (costM ss (stF ss [] a) b : Nat) := by omega
      have el : (ws.length : Int) - (a ++ c).length = (b.length : Nat) := by rw [List.length_append]; omega
      rw [ec, el] at k1
      have k2' : (costM ss (stF ss [] a) b : Int) * (m0.length : Nat) ≤ (costM ss w0 m0 : Nat) * (b.length : Nat) := by
        rw [← Int.natCast_mul, ← Int.natCast_mul]
        omega
      exact mulI_tr (by omega) (by omega) (by omega) k1 k2'
  have heq : costM ss w0 m0 * q = p * m0.length := by
    have : ((costM ss w0 m0 * q : Nat) : Int) = ((p * m0.length : Nat) : Int) := by
      rw [Int.natCast_mul, Int.natCast_mul]
      omega
    omega
  refine ⟨hq, fun u m hm hr => ?_, ⟨u0, m0, hm0, by rw [hu0]; exact hr0, by rw [hu0]; exact heq⟩⟩
  have k2 := exc_le.mp (np (stF ss [] u) (stF_in h h.nil) m hm hr)
  have k3 : costM ss w0 m0 * q ≤ p * m0.length := by omega
  exact frac_tr l0 k2 k3
theorem RateR.uniq {ss : List Stf} {p q p' q' : Nat} (h : RateR ss p q) (h' : RateR ss p' q') : p * q' = p' * q := by
  have one : ∀ {p q p' q' : Nat}, RateR ss p q → RateR ss p' q' → p * q' ≤ p' * q := fun {p q p' q'} h h' => by
    obtain ⟨u, m, hm, hr, e⟩ := h.eq
    have hl := List.length_pos_iff.mpr hm
    have h2 := h'.le u m hm hr
    refine Nat.le_of_mul_le_mul_right (c := m.length) ?_ hl
    calc p * q' * m.length = p * m.length * q' := Nat.mul_right_comm _ _ _
      _ = costM ss (stF ss [] u) m * q * q' := by rw [e]
      _ = costM ss (stF ss [] u) m * q' * q := Nat.mul_right_comm _ _ _
      _ ≤ p' * m.length * q := Nat.mul_le_mul_right _ h2
      _ = p' * q * m.length := Nat.mul_right_comm _ _ _
  exact Nat.le_antisymm (one h h') (one h' h)
theorem RateR.scale {ss : List Stf} {p q g : Nat} (h : RateR ss (p * g) (q * g)) : RateR ss p q := by
  have hg : 0 < g := Nat.pos_of_ne_zero fun z => by have := h.pos; rw [z, Nat.mul_zero] at this; exact absurd this (Nat.lt_irrefl _)
  refine ⟨Nat.pos_of_ne_zero fun z => by have := h.pos; rw [z, Nat.zero_mul] at this; exact absurd this (Nat.lt_irrefl _), fun u m hm hr => ?_, ?_⟩
  · have := h.le u m hm hr
    refine Nat.le_of_mul_le_mul_right (c := g) ?_ hg
    rw [Nat.mul_assoc, Nat.mul_right_comm]
    exact this
  · obtain ⟨u, m, hm, hr, e⟩ := h.eq
    refine ⟨u, m, hm, hr, Nat.eq_of_mul_eq_mul_right hg ?_⟩
    rw [Nat.mul_assoc, Nat.mul_right_comm]
    exact e
end U
set_option maxRecDepth 100000
set_option maxHeartbeats 4000000
namespace U
open PySem PySem.Spec PyProof.Rows
open L2 hiding Fun CX0 E0 pass0 Fun.binds
open C8 Lx SX StX
def spCommon : Sp := fun vs H Q _ => ∃ p q : Nat, vs = [.int p, .int q] ∧ ∀ H', Same H H' → Q (.int (Nat.gcd p q : Nat)) H'
def spLowest : Sp := fun vs H Q _ => ∃ (p : Int) (q : Nat), vs = [.int p, .int q] ∧ 0 < q ∧ q < 1000000000 ∧
  ∀ t H', H t = none → Same H H' → H' t = some (.tup [.int (p / (Nat.gcd p.natAbs q : Nat)), .int ((q : Int) / (Nat.gcd p.natAbs q : Nat))]) → Q (.ref t) H'
def RateL (ss : List Stf) (p q : Nat) : Prop := RateR ss p q ∧ Nat.gcd p q = 1
theorem RateL.uniq {ss : List Stf} {p q p' q' : Nat} (h : RateL ss p q) (h' : RateL ss p' q') : p = p' ∧ q = q' := by
  have e := h.1.uniq h'.1
  have d1 : q ∣ q' := by
    have : q ∣ p * q' := ⟨p', by rw [e, Nat.mul_comm]⟩
    exact Nat.Coprime.dvd_of_dvd_mul_left (by show Nat.gcd q p = 1; rw [Nat.gcd_comm]; exact h.2) this
  have d2 : q' ∣ q := by
    have : q' ∣ p' * q := ⟨p, by rw [← e, Nat.mul_comm]⟩
    exact Nat.Coprime.dvd_of_dvd_mul_left (by show Nat.gcd q' p' = 1; rw [Nat.gcd_comm]; exact h'.2) this
  have eq := Nat.dvd_antisymm d1 d2
  subst eq
  exact ⟨Nat.eq_of_mul_eq_mul_right h.1.pos e, rfl⟩
def spRate (C : Addr) : Sp := fun vs H Q _ => ∃ (a : Addr) (f : List Bool) (ss : List Stf), vs = [.ref a] ∧ RuAt C H a f ss ∧ StOk ss ∧ OkN 39 ss ∧
  ∀ t p q H', H t = none → Same H H' → H' t = some (.tup [.int (p : Nat), .int (q : Nat)]) → RateL ss p q → q ≤ 1023 → Q (.ref t) H'
structure FrS (ss : List Stf) (n : Nat) (v : List Bool) (D : Nat) (i : Nat) (fs : List (Int × Int)) : Prop where
  wit : ∀ x ∈ fs, ∃ m : List Bool, m.length < i ∧ stF ss [] m = v ∧ x.2 = (n : Int) - m.length ∧ x.1 = (D : Int) - (costM ss [] m : Nat)
  all : ∀ m : List Bool, m.length < i → stF ss [] m = v → ∃ x ∈ fs, x.2 = (n : Int) - m.length ∧ x.1 ≤ (D : Int) - (costM ss [] m : Nat)
theorem FrS.start {ss : List Stf} {n : Nat} {v : List Bool} {D : Nat} : FrS ss n v D 0 [] := ⟨fun x hx => (by cases hx), fun m hm => absurd hm (Nat.not_lt_zero _)⟩
theorem FrS.skip {ss : List Stf} {n i : Nat} {v : List Bool} {D : Nat} {fs : List (Int × Int)} {ks : List (List Bool)} {c : List Bool → Nat} (h : FrS ss n v D i fs) (w : Wk ss i ks c) (hv : v ∉ ks) : FrS ss n v D (i + 1) fs := by
  refine ⟨fun x hx => ?_, fun m hm e => ?_⟩
  · obtain ⟨m, h1, h2⟩ := h.wit x hx
    exact ⟨m, by omega, h2⟩
  · by_cases q : m.length < i
    · exact h.all m q e
    · have := (w.all m (by omega)).1
      rw [e] at this
      exact absurd this hv
theorem FrS.add {ss : List Stf} {n i : Nat} {v : List Bool} {D : Nat} {fs : List (Int × Int)} {ks : List (List Bool)} {c : List Bool → Nat} (h : FrS ss n v D i fs) (w : Wk ss i ks c) (hv : v ∈ ks) : FrS ss n v D (i + 1) (fs ++ [((D : Int) - (c v : Nat), (n : Int) - i)]) := by
  refine ⟨fun x hx => ?_, fun m hm e => ?_⟩
  · rcases List.mem_append.mp hx with hx | hx
    · obtain ⟨m, h1, h2⟩ := h.wit x hx
      exact ⟨m, by omega, h2⟩
    · obtain ⟨m, h1, h2, h3⟩ := w.wit v hv
      rw [List.mem_singleton.mp hx]
      exact ⟨m, by omega, h2, by rw [h1], by rw [h3]⟩
  · by_cases q : m.length < i
    · obtain ⟨x, hx, h1⟩ := h.all m q e
      exact ⟨x, List.mem_append_left _ hx, h1⟩
    · have hm' : m.length = i := by omega
      have := (w.all m hm').2
      rw [e] at this
      exact ⟨_, List.mem_append_right _ (List.mem_singleton.mpr rfl), by rw [hm'], by show (D : Int) - (c v : Nat) ≤ _; omega⟩
structure RtI (ss : List Stf) (n : Nat) (vs : List (List Bool)) (p q : Int) : Prop where
  pos : 0 < q
  nn : 0 ≤ p
  wit : (p = 0 ∧ q = 1) ∨ ∃ v, MinV ss n v p q
  all : ∀ v ∈ vs, ∃ p' q', MinV ss n v p' q' ∧ p' * q ≤ p * q'
theorem MinV.le {ss : List Stf} {n : Nat} {v : List Bool} {p q : Int} (h : MinV ss n v p q) : q ≤ n := by
  obtain ⟨_, _, _, _, ⟨m, h1, _, rfl, _⟩, _⟩ := h
  omega
section
variable {P : Program} {w : World} {K : PySem.W.Frag} {mg : Str → Option Value} {base : Heap}
theorem sc_common : FnScope ["p", "q"] ["p", "q"] (fnScope s_common) := fnScope_by (by decide +kernel)
theorem cal_common {f : Addr} {fd : FuncData} (F : Def K mg "common" s_common f fd) (b : Binds K fd ["p", "q"] []) (T : Tx mg) : Cal P w K mg base 1 "common" spCommon [] := by
  refine cal0 F b .nil sc_common (fun vs H Q E h => ?_) (fun cdv A outer s H vs Q E hr h => ?_)
  · obtain ⟨_, _, rfl, _⟩ := h; rfl
  · obtain ⟨p, q, rfl, k⟩ := h
    refine ⟨_, (pss_cons (ps_while PassesOwn.never (pt_cmpR op_gt (pv 1) pe_int (nomark _))
    (pss_one (ps_par (i := 0) (j := 1) (by rfl) sc_common.nd rfl rfl (by decide) rfl rfl (pa_cons (pv 1) (pa_cons (pe_op op_mod (pv 0) (pv 1)) pa_nil)) (by rfl))))
    (pss_one (ps_ret (pv 0)))), ?_⟩
    refine ⟨fun m σ H3 => ∃ p' q' : Nat, σ = [some (.int p'), some (.int q')] ∧ H3 = H ∧ Nat.gcd p' q' = Nat.gcd p q ∧ m = q', ⟨q, p, q, rfl, rfl, rfl, rfl⟩, ?_⟩
    rintro m σ H3 ⟨p', q', rfl, rfl, hg, rfl⟩
    refine ⟨_, rfl, _, _, rfl, rfl, _, rfl, ?_⟩
    by_cases c : 0 < m
    · refine iteDT (by show (0 : Int) < (m : Nat); omega) ?_
      refine ⟨fun σ' H' => ∃ m', m' < m ∧ ∃ p' q' : Nat, σ' = [some (.int p'), some (.int q')] ∧ H' = H3 ∧ Nat.gcd p' q' = Nat.gcd p q ∧ m' = q', fun _ _ h => h, ?_⟩
      refine ⟨_, rfl, _, rfl, _, rfl, _, _, rfl, rfl, by show (0 : Int) < (m : Nat); omega, _, _, rfl, ?_⟩
      refine ⟨p' % m, Nat.mod_lt _ c, m, p' % m, rfl, rfl, ?_, rfl⟩
      rw [← hg, Nat.gcd_comm p' m, Nat.gcd_rec m p', Nat.gcd_comm]
    · refine iteDF (by show ¬ (0 : Int) < (m : Nat); omega) ?_
      have hm : m = 0 := by omega
      subst hm
      rw [Nat.gcd_zero_right] at hg
      refine ⟨_, rfl, ?_⟩
      rw [hg]
      exact k _ (Same.refl _)
theorem sc_lowest : FnScope ["p", "q", "part"] ["p", "q"] (fnScope s_lowest) := fnScope_by (by decide +kernel)
theorem cal_lowest {f : Addr} {fd : FuncData} (F : Def K mg "lowest" s_lowest f fd) (b : Binds K fd ["p", "q"] []) (T : Tx mg) (c_common : Cal P w K mg base 1 "common" spCommon []) : Cal P w K mg base 2 "lowest" spLowest [] := by
  refine cal0 F b .nil sc_lowest (fun vs H Q E h => ?_) (fun cdv A outer s H vs Q E hr h => ?_)
  · obtain ⟨_, _, rfl, _⟩ := h; rfl
  · obtain ⟨p, q, rfl, q0, q9, k⟩ := h
    refine ⟨_, (pss_cons (ps_set (i := 2) sc_lowest.nd rfl (.inl rfl) (pe_c c_common hr (by decide) rfl (pa_cons (pe_callB call_abs (by rfl) T.b_abs (by decide +kernel) (pa_cons (pv 0) pa_nil)) (pa_cons (pv 1) pa_nil))))
    (pss_one (ps_ret (pe_tup (pa_cons (pe_op op_fdiv (pv 0) (pv 2)) (pa_cons (pe_op op_fdiv (pv 1) (pv 2)) pa_nil)))))), ?_⟩
    have eabs : (if p < 0 then -p else p) = ((p.natAbs : Nat) : Int) := by split <;> omega
    have g0 : 0 < Nat.gcd p.natAbs q := Nat.gcd_pos_of_pos_right _ q0
    have g1 : Nat.gcd p.natAbs q ≤ q := Nat.gcd_le_right _ q0
    refine ⟨_, rfl, _, rfl, _, rfl, p.natAbs, q, by rw [eabs]; rfl, fun H1 s1 => ?_⟩
    refine ⟨_, rfl, _, rfl, _, _, rfl, rfl, ⟨by show (0 : Int) < ((Nat.gcd p.natAbs q : Nat) : Int); omega, by show ((Nat.gcd p.natAbs q : Nat) : Int) < 1073741824; omega⟩, ?_⟩
    refine ⟨_, rfl, _, rfl, _, _, rfl, rfl, ⟨by show (0 : Int) < ((Nat.gcd p.natAbs q : Nat) : Int); omega, by show ((Nat.gcd p.natAbs q : Nat) : Int) < 1073741824; omega⟩, by show 2 ≤ sizeLine; decide, fun t nt => ?_⟩
    exact k t _ (s1.free nt) (s1.trans (same_upd nt)) upd_same
theorem sc_rate : FnScope ["rule", "moves", "told", "found", "size", "there", "whole", "means", "many", "p", "q"] ["rule"] (fnScope s_rate) := fnScope_by (by decide +kernel)
theorem cal_rate {f C : Addr} {fd : FuncData} (F : Def K mg "rate" s_rate f fd) (b : Binds K fd ["rule"] []) (T : Tx mg) (c_moves_of : Cal P w K mg base 5 "moves_of" (spMovesOf C) []) (c_walks : Cal P w K mg base 1 "walks" spWalks []) (c_least_of : Cal P w K mg base 1 "least_of" spLeastOf []) (c_lowest : Cal P w K mg base 2 "lowest" spLowest []) : Cal P w K mg base 6 "rate" (spRate C) [] := by
  refine cal0 F b .nil sc_rate (fun vs H Q E h => ?_) (fun cdv A outer s H vs Q E hr h => ?_)
  · obtain ⟨_, _, _, rfl, _⟩ := h; rfl
  · obtain ⟨a, fl, ss, rfl, hR, ok, o, k⟩ := h
    refine ⟨_, (pss_cons (ps_set (i := 1) sc_rate.nd rfl (.inl rfl) (pe_c c_moves_of hr (by decide) rfl (pa_cons (pv 0) pa_nil)))
    (pss_cons (ps_asg (pe_tup (pa_cons (pe_c c_walks hr (by decide) rfl (pa_cons (pv 1) pa_nil)) (pa_cons (pe_tup (pa_cons pe_int (pa_cons pe_int pa_nil))) pa_nil))) (pg_tup rfl (pgs_cons (pg_name (i := 2) sc_rate.nd rfl (.inr rfl)) (pgs_cons (pg_name (i := 3) sc_rate.nd rfl (.inl rfl)) pgs_nil))))
    (pss_cons (ps_set (i := 4) sc_rate.nd rfl (.inr rfl) (pe_callB call_lenD (by rfl) T.b_len (by decide +kernel) (pa_cons (pv 1) pa_nil)))
    (pss_cons (ps_lock (ps_for PassesOwn.never rfl (pi_items (pe_ix ix_list (pv 2) (pv 4) (fun _ _ => rfl))) (pg_tup rfl (pgs_cons (pg_name (i := 5) sc_rate.nd rfl (.inr rfl)) (pgs_cons (pg_name (i := 6) sc_rate.nd rfl (.inr rfl)) pgs_nil)))
    (pss_cons (ps_setLc (i := 7) (own := [("many", 8)]) (g := gName 8) (by rfl) sc_rate.nd rfl rfl (sw_true rfl rfl rfl (by decide +kernel)) (pi_range1 (by rfl) T.b_range (pa_cons (pv 4) pa_nil)) (blkOk_by (own := [("many", 8)]) (N := ["rule", "moves", "told", "found", "size", "there", "whole", "means", "many", "p", "q"]) (sc := fnScope s_rate) (by decide +kernel)) (fun _ _ _ _ _ => (pg_name (i := 8) sc_rate.nd rfl (.inl rfl))) (fun _ _ _ _ _ => (pts_one (pt_cmp (pc_din (hu_of hr) (pv 5) (pe_ix (show IxR _ (rIxL K) from ix_list) (pv 2) (pv 8) (fun _ _ => rfl)))))) (fun _ _ _ _ _ => (pe_tup (pa_cons (pe_op op_sub (pv 6) (pe_dget (hu_of hr) (pe_ix (show IxR _ (rIxL K) from ix_list) (pv 2) (pv 8) (fun _ _ => rfl)) (pv 5) (fun _ _ => rfl))) (pa_cons (pe_op op_sub (pv 4) (pv 8)) pa_nil)))))
    (pss_cons (ps_asg (pe_c c_least_of hr (by decide) rfl (pa_cons (pv 7) pa_nil)) (pg_tup rfl (pgs_cons (pg_name (i := 9) sc_rate.nd rfl (.inl rfl)) (pgs_cons (pg_name (i := 10) sc_rate.nd rfl (.inl rfl)) pgs_nil))))
    (pss_one (ps_if (pt_cmpR op_gt (pe_op op_mul (pv 9) (pe_ix ix_tup (pv 3) pe_int (fun _ _ => rfl))) (pe_op op_mul (pe_ix ix_tup (pv 3) pe_int (fun _ _ => rfl)) (pv 10)) (nomark _)) (pss_one (ps_set (i := 3) sc_rate.nd rfl (.inl rfl) (pe_tup (pa_cons (pv 9) (pa_cons (pv 10) pa_nil))))) pss_nil))))))
    (pss_one (ps_ret (pe_c c_lowest hr (by decide) rfl (pa_cons (pe_ix ix_tup (pv 3) pe_int (fun _ _ => rfl)) (pa_cons (pe_ix ix_tup (pv 3) pe_int (fun _ _ => rfl)) pa_nil))))))))), ?_⟩
    refine ⟨_, rfl, a, fl, ss, rfl, hR, ok, o, fun d ws H1 nd s1 hM hW => ?_⟩
    have few := hW.few ok.long
    have wpos : 0 < ws.length := List.length_pos_of_mem hW.nil
    refine ⟨_, rfl, d, ss, ws, rfl, hM, hW, by omega, fun l ds H2 nl s2 hl lds hK => ⟨by show 2 ≤ sizeLine; decide, fun t0 nt0 => ⟨by show 2 ≤ sizeLine; decide, fun t1 nt1 => ?_⟩⟩⟩
    have sA := same_upd (o := .tup [.int 0, .int 1]) nt0
    have hA : upd H2 t0 (.tup [.int 0, .int 1]) t0 = some (.tup [.int 0, .int 1]) := upd_same
    have sB := same_upd (o := .tup [.ref l, .ref t0]) nt1
    have hB : upd (upd H2 t0 (.tup [.int 0, .int 1])) t1 (.tup [.ref l, .ref t0]) t1 = some (.tup [.ref l, .ref t0]) := upd_same
    have hA2 := sB _ _ hA
    have s3 := (s2.trans sA).trans sB
    have hl3 := (sA.trans sB) _ _ hl
    have hK3 := hK.same (sA.trans sB)
    generalize upd (upd H2 t0 (.tup [.int 0, .int 1])) t1 (.tup [.ref l, .ref t0]) = H3 at hB hA2 s3 hl3 hK3
    refine ⟨t1, _, rfl, SqT.of hB, rfl, _, _, rfl, _, _, rfl, rfl, ?_⟩
    obtain ⟨lo, hd1, hM1⟩ := hM
    have hd3 := s3 _ _ hd1
    refine ⟨_, rfl, d, _, rfl, hd3, ?_⟩
    rw [kvr_len]
    -- the last of the dicts
    have hdn : ds[ws.length]? = some (ds[ws.length]'(by omega)) := List.getElem?_eq_getElem (by omega)
    generalize ds[ws.length]'(by omega) = dn at hdn
    obtain ⟨ks, c, hcd, hWk⟩ := hK3 _ _ hdn
    refine ⟨dn, _, hcd, trivial, fun od => ?_⟩
    have hLc : upd H3 dn (.frz od (.dK (kvi ks c))) dn = some (.frz od (.dK (kvi ks c))) := upd_same
    have hLl : upd H3 dn (.frz od (.dK (kvi ks c))) l = some (.lst (ds.map V.ref)) := by rw [upd_ne (ne_of hl3 hcd (by intro z; cases z))]; exact hl3
    have hLK : ∀ i d, ds[i]? = some d → ∃ ks2 c2, Rd (upd H3 dn (.frz od (.dK (kvi ks c)))) d (.dK (kvi ks2 c2)) ∧ Wk ss i ks2 c2 := fun i d' h' => by
      obtain ⟨ks2, c2, g1, g2⟩ := hK3 i d' h'
      exact ⟨ks2, c2, rd_lock g1 hcd, g2⟩
    have hL0 : upd H3 dn (.frz od (.dK (kvi ks c))) t0 = some (.tup [.int 0, .int 1]) := by rw [upd_ne (ne_of hA2 hcd (by intro z; cases z))]; exact hA2
    have hLu : ∀ {H'}, Same (upd H3 dn (.frz od (.dK (kvi ks c)))) H' → Same H3 (upd H' dn (.dK (kvi ks c))) := fun s => same_unlock s hcd
    generalize upd H3 dn (.frz od (.dK (kvi ks c))) = HL at hLc hLl hLK hLu hL0 ⊢
    refine ⟨_, rfl, _, rfl, l, _, _, _, rfl, rfl, SqL.of hLl, atI_nat (by rw [List.getElem?_map, hdn]; rfl), dn, od, kvi ks c, rfl, hLc, ?_⟩
    refine for_it (walk_items (kvs := kvi ks c)) (fun j σ H5 => ∃ (tf : Addr) (p q : Int) (v5 v6 v7 v8 v9 v10 : Option V), σ = [some (.ref a), some (.ref d), some (.ref l), some (.ref tf), some (.int (ws.length : Nat)), v5, v6, v7, v8, v9, v10] ∧ Same HL H5 ∧ H5 tf = some (.tup [.int p, .int q]) ∧ q ≤ 1023 ∧ RtI ss ws.length (ks.take j) p q)
      ⟨t0, 0, 1, _, _, _, _, _, _, rfl, Same.refl _, hL0, by decide, by decide, by decide, .inl ⟨rfl, rfl⟩, fun v hv => by cases hv⟩ (fun j σ H5 _ h5 => by obtain ⟨_, _, _, _, _, _, _, _, _, _, h5, _⟩ := h5; exact h5 _ _ hLc) ?_ ?_
    · rintro j x σ H5 H5' hj ⟨tf, p, q, v5, v6, v7, v8, v9, v10, rfl, s5, htf, hq3, hI⟩ ⟨T', y1, y2, rfl, nT, rfl, ek, ev⟩
      obtain ⟨u, hu⟩ : ∃ u, ks[j]? = some u := ⟨ks[j]'(by rw [kvi_len] at hj; exact hj), List.getElem?_eq_getElem _⟩
      have ekv : (kvi ks c)[j]? = some (Sum.inr (W u), .int (c u : Nat)) := by unfold kvi kvw; rw [List.getElem?_map, hu]; rfl
      have ek : (kvi ks c)[j]?.map (fun kv => kV kv.1) = some y1 := ek
      have ev : (kvi ks c)[j]?.map Prod.snd = some y2 := ev
      rw [ekv] at ek ev
      have hy1 : y1 = V.str (W u) := (Option.some.inj ek).symm
      have hy2 : y2 = V.int (c u : Nat) := (Option.some.inj ev).symm
      subst hy1 hy2
      have hum := List.mem_of_getElem? hu
      have sT := same_upd (o := .tup [.str (W u), .int (c u : Nat)]) nT
      have eT : upd H5 T' (.tup [.str (W u), .int (c u : Nat)]) T' = some (.tup [.str (W u), .int (c u : Nat)]) := upd_same
      have s6 := s5.trans sT
      have htf6 := sT _ _ htf
      refine ⟨T', _, rfl, SqT.of eT, rfl, _, _, rfl, _, _, rfl, rfl, ?_⟩
      generalize upd H5 T' (.tup [.str (W u), .int (c u : Nat)]) = H6 at s6 htf6 eT ⊢
      refine ⟨_, rfl, _, rfl, by omega, by omega, fun D nD => ?_⟩
      refine lc_it (walk_range (lo := 0) (n := ((ws.length : Nat) : Int).toNat)) (fun i H7 => ∃ (ts : List Addr) (fs : List (Int × Int)), Same H6 H7 ∧ H7 D = some (.lst (ts.map V.ref)) ∧ Paired (fun t x => H7 t = some (.tup [.int x.1, .int x.2])) ts fs ∧ ts.length ≤ i ∧ FrS ss ws.length u (c u) i fs)
        ⟨[], [], same_upd nD, upd_same, .nil, Nat.le_refl _, .start⟩ (fun _ _ _ _ => trivial) ?_ ?_
      · rintro i z H7' H7 hi ⟨ts, fs, s7, hD, hP, lts, hF⟩ ⟨rfl, rfl⟩
        have hi' : i < ws.length := by omega
        have s67 := s6.trans s7
        have hdi : ds[i]? = some (ds[i]'(by omega)) := List.getElem?_eq_getElem (by omega)
        generalize ds[i]'(by omega) = di at hdi
        obtain ⟨ki, ci, hrd, hWi⟩ := hLK _ _ hdi
        have hrd7 := rd_same hrd s67
        have e0i : (0 + (i : Int)) = ((i : Nat) : Int) := Int.zero_add _
        have hat : atI (ds.map V.ref) (0 + (i : Int)) = some (.ref di) := by rw [e0i]; exact atI_nat (by rw [List.getElem?_map, hdi]; rfl)
        have hl7 := s67 _ _ hLl
        refine ⟨rfl, _, rfl, _, rfl, _, rfl, l, _, _, _, rfl, rfl, SqL.of hl7, hat, di, _, rfl, .inl ⟨kvi ki ci, .inr (W u), hrd7, rfl, rfl⟩, _, rfl, ?_⟩
        have hval : valV (kvi ki ci) (Sum.inr (W u)) = if u ∈ ki then some (.int (ci u : Nat)) else none := by unfold kvi; exact kvw_val
        rw [hval]
        by_cases hin : u ∈ ki
        · rw [if_pos hin] at hval ⊢
          refine iteT ?_
          refine ⟨_, rfl, _, rfl, _, rfl, l, _, _, _, rfl, rfl, SqL.of hl7, hat, _, rfl, di, _, rfl, .inl ⟨kvi ki ci, .inr (W u), hrd7, rfl, hval.symm⟩, _, _, rfl, rfl, ?_⟩
          refine ⟨_, rfl, _, rfl, _, _, rfl, rfl, by show 2 ≤ sizeLine; decide, fun tn ntn => ?_⟩
          have sn := same_upd (o := .tup [.int (((c u : Nat) : Int) - ((ci u : Nat) : Int)), .int (((ws.length : Nat) : Int) - (0 + (i : Int)))]) ntn
          have hn : upd H7 tn (.tup [.int (((c u : Nat) : Int) - ((ci u : Nat) : Int)), .int (((ws.length : Nat) : Int) - (0 + (i : Int)))]) tn = some (.tup [.int (((c u : Nat) : Int) - ((ci u : Nat) : Int)), .int (((ws.length : Nat) : Int) - (0 + (i : Int)))]) := upd_same
          have hDn := sn _ _ hD
          generalize upd H7 tn (.tup [.int (((c u : Nat) : Int) - ((ci u : Nat) : Int)), .int (((ws.length : Nat) : Int) - (0 + (i : Int)))]) = H8 at sn hn hDn ⊢
          refine ⟨_, hDn, by rw [List.length_map]; exact sl_lt (by omega), ts ++ [tn], fs ++ [(((c u : Nat) : Int) - ((ci u : Nat) : Int), ((ws.length : Nat) : Int) - (i : Nat))], same_mut' (s7.trans sn) nD, by rw [upd_same, List.map_append]; rfl, ?_, by rw [List.length_append]; exact Nat.succ_le_succ lts, hF.add hWi hin⟩
          have keep : ∀ {x y}, H8 x = some (.tup y) → upd H8 D (.lst (ts.map V.ref ++ [.ref tn])) x = some (.tup y) := fun hx => by
            rw [upd_ne (ne_of hx hDn (by intro z; cases z))]; exact hx
          refine paired_snoc' (L2.Paired.mapP hP fun _ _ z => keep (sn _ _ z)) ?_
          rw [e0i] at hn
          exact keep hn
        · rw [if_neg hin]
          exact iteF ⟨ts, fs, s7, hD, hP, by omega, hF.skip hWi hin⟩
      · rintro H7 ⟨ts, fs, s7, hD, hP, lts, hF⟩
        rw [Int.toNat_natCast] at hF lts
        have s67 := s6.trans s7
        obtain ⟨xw, x1, x2, x3⟩ := hWk.wit u hum
        have hne : fs ≠ [] := by
          obtain ⟨aa, bb, cc, ex, hb, hll, es⟩ := cut_of hW (m := xw) hW.nil (by omega)
          have hbl := List.length_pos_iff.mpr hb
          have lx : aa.length + bb.length + cc.length = ws.length := by rw [← x1, ex, List.length_append, List.length_append]
          have e2 : stF ss [] (aa ++ cc) = u := by rw [stF_app, ← es, ← stF_app, ← ex, x2]
          obtain ⟨y, hy, _⟩ := hF.all (aa ++ cc) (by rw [List.length_append]; omega) e2
          exact List.ne_nil_of_mem hy
        have hpos : ∀ x ∈ fs, 0 < x.2 ∧ x.2 ≤ 100000 := fun x hx => by
          obtain ⟨m, m1, _, m2, _⟩ := hF.wit x hx
          omega
        refine ⟨_, rfl, D, fs, rfl, ⟨ts, hD, hP⟩, hne, hpos, fun t y H8 s8 ht hy hmin => ?_⟩
        refine ⟨t, _, rfl, SqT.of ht, rfl, _, _, rfl, _, _, rfl, rfl, ?_⟩
        have s68 := s67.trans s8
        have htf8 := (s7.trans s8) _ _ htf6
        have hV : MinV ss ws.length u y.1 y.2 := by
          refine ⟨xw, x1, x2, fun z z1 z2 => ?_, ?_, fun m m1 m2 => ?_⟩
          · have := (hWk.all z z1).2
            rw [z2] at this
            omega
          · obtain ⟨m, m1, m2, m3, m4⟩ := hF.wit y hy
            exact ⟨m, m1, m2, m3, by rw [m4, x3]⟩
          · obtain ⟨z, hz, z1, z2⟩ := hF.all m m1 m2
            have h1 := hmin z hz
            have py := (hpos y hy).1
            rw [← z1, x3]
            exact Int.le_trans h1 (Int.mul_le_mul_of_nonneg_right z2 (by omega))
        have py := (hpos y hy).1
        have ly := hV.le
        have pq := hI.pos
        refine ⟨_, rfl, _, rfl, tf, _, _, _, rfl, rfl, SqT.of htf8, atI_nat (j := 1) rfl, _, _, rfl, rfl, .inr ⟨by omega, by omega⟩, ?_⟩
        refine ⟨_, rfl, tf, _, _, _, rfl, rfl, SqT.of htf8, atI_nat (j := 0) rfl, _, rfl, _, _, rfl, rfl, .inr ⟨by omega, by omega⟩, ?_⟩
        refine ⟨_, _, rfl, rfl, _, rfl, ?_⟩
        by_cases cc : p * y.2 < y.1 * q
        · refine iteDT cc ?_
          refine ⟨_, rfl, _, rfl, by show 2 ≤ sizeLine; decide, fun tn ntn => ?_⟩
          refine ⟨tn, y.1, y.2, _, _, _, _, _, _, rfl, s68.trans (same_upd ntn), upd_same, by omega, py, ?_, .inr ⟨u, hV⟩, fun v hv => ?_⟩
          · have : 0 ≤ p * y.2 := Int.mul_nonneg hI.nn (by omega)
            rcases Int.lt_or_le y.1 0 with z | z
            · have := Int.mul_nonneg_of_nonpos_of_nonpos (a := y.1) (b := -q) (by omega) (by omega)
              rw [Int.mul_neg] at this
              omega
            · exact z
          · rw [take_snoc hu] at hv
            rcases List.mem_append.mp hv with hv | hv
            · obtain ⟨p', q', g1, g2⟩ := hI.all v hv
              exact ⟨p', q', g1, mulI_tr pq (by omega) (by have := g1.pos; omega) g2 (by omega)⟩
            · rw [List.mem_singleton.mp hv]
              exact ⟨y.1, y.2, hV, Int.le_refl _⟩
        · refine iteDF cc ?_
          refine ⟨tf, p, q, _, _, _, _, _, _, rfl, s68, htf8, hq3, pq, hI.nn, hI.wit, fun v hv => ?_⟩
          rw [take_snoc hu] at hv
          rcases List.mem_append.mp hv with hv | hv
          · exact hI.all v hv
          · rw [List.mem_singleton.mp hv]
            exact ⟨y.1, y.2, hV, by omega⟩
    · rintro σ H5 ⟨tf, p, q, v5, v6, v7, v8, v9, v10, rfl, s5, htf, hq3, hI⟩
      rw [kvi_len, List.take_length] at hI
      have s6 := hLu s5
      have ndn : tf ≠ dn := ne_of htf (s5 _ _ hLc) (by intro z; cases z)
      have htf6 : upd H5 dn (.dK (kvi ks c)) tf = some (.tup [.int p, .int q]) := by rw [upd_ne ndn]; exact htf
      refine ⟨s5 _ _ hLc, ?_⟩
      generalize upd H5 dn (.dK (kvi ks c)) = H6 at s6 htf6 ⊢
      have pq := hI.pos
      obtain ⟨pn, rfl⟩ := Int.eq_ofNat_of_zero_le hI.nn
      obtain ⟨qn, rfl⟩ := Int.eq_ofNat_of_zero_le (Int.le_of_lt pq)
      have hRR : RateR ss pn qn := by
        refine karp o hW (by omega) ?_ fun x hx => ?_
        · rcases hI.wit with ⟨w1, w2⟩ | w1
          · exact .inl ⟨by omega, by omega⟩
          · exact .inr w1
        · exact hI.all _ (hWk.all x hx).1
      refine ⟨_, rfl, tf, _, _, _, rfl, rfl, SqT.of htf6, atI_nat (j := 0) rfl, _, rfl, tf, _, _, _, rfl, rfl, SqT.of htf6, atI_nat (j := 1) rfl, pn, qn, rfl, by omega, by omega, fun t H7 nt s7 ht => ?_⟩
      have sAll := (s1.trans s3).trans s6
      rw [Int.natAbs_natCast] at ht
      have g0 : 0 < Nat.gcd pn qn := Nat.gcd_pos_of_pos_right _ (by omega)
      have eg1 : ((pn : Nat) : Int) / ((Nat.gcd pn qn : Nat) : Int) = ((pn / Nat.gcd pn qn : Nat) : Int) := by rw [Int.natCast_ediv]
      have eg2 : ((qn : Nat) : Int) / ((Nat.gcd pn qn : Nat) : Int) = ((qn / Nat.gcd pn qn : Nat) : Int) := by rw [Int.natCast_ediv]
      rw [eg1, eg2] at ht
      refine k t _ _ H7 (sAll.free nt) (sAll.trans s7) ht ⟨?_, Nat.gcd_div_gcd_div_gcd_of_pos_right (by omega)⟩ (Nat.le_trans (Nat.div_le_self _ _) (by omega))
      refine RateR.scale (g := Nat.gcd pn qn) ?_
      rw [Nat.div_mul_cancel (Nat.gcd_dvd_left _ _), Nat.div_mul_cancel (Nat.gcd_dvd_right _ _)]
      exact hRR
end
end U
set_option maxRecDepth 100000
set_option maxHeartbeats 4000000
namespace SrtS
open PySem PySem.Spec PyProof.Rows L2
def rSortedSA (K : PySem.W.Frag) : List V → Hp → VK → Prop := fun vs H Q => ∃ (a : Addr) (xs : List Str), vs = [V.ref a] ∧ SqL K H a (xs.map V.str) ∧ xs.length ≤ sizeLine ∧
  ∀ (ys : List Str) (p : Addr), ys.Perm xs → sortedS ys = true → H p = none → Q (.ref p) (upd H p (.lst (ys.map V.str)))
theorem cr_sortedSA {X : Cx} : CallR X (.builtin "sorted") (rSortedSA X.K) := by
  intro pins s σ H vs us Q I r h
  obtain ⟨a, xs, rfl, hs, h64, q⟩ := h
  obtain ⟨its, rv, hl, _⟩ := I.list hs
  rw [Vals.ref1 r]
  have hlen0 := rv.length
  rw [List.length_map] at hlen0
  refine PyProof.Rows.sorted_strsAny hl.isList rv.strs (by rw [← hlen0]; exact h64) fun out ys h1 h2 h3 => ?_
  obtain ⟨ep, he'⟩ := PyProof.Rows.sortedAll_at s.heap its out
  have hlen : (ys.map V.str).length ≤ sizeLine := by rw [List.length_map, h2.length_eq]; exact h64
  exact ⟨.ref _, upd H (s.heap.objs.size + 1) (.lst (ys.map V.str)), I.laid (t' := s.toks) (fun _ _ => PyProof.Rows.sortedAll_old) (Nat.le_succ _) ⟨hlen, out.toList, ep, vals_of_strs h1, he'⟩, rfl, q ys _ h2 h3 (I.hok.fresh (Nat.le_succ _))⟩
end SrtS
set_option maxRecDepth 100000
set_option maxHeartbeats 1000000
namespace U
theorem exc_one {ss : List Stf} {p q : Int} (t : List Bool) (b : Bool) : exc ss p q t [b] = (cM ss t b : Nat) * q - p := by
  unfold exc
  have e : costM ss t [b] = cM ss t b := by show cM ss t b + 0 = _; omega
  rw [e, Int.mul_comm]
  show _ - p * ((1 : Nat) : Int) = _
  rw [Int.natCast_one, Int.mul_one]
theorem NoPos.of_rate {ss : List Stf} {ws : List (List Bool)} (o : OkN 39 ss) (h : Mvs ss ws) {r s : Nat} (hR : RateR ss r s) {p q : Int} (hq : 0 ≤ q) (hle : (r : Int) * q ≤ p * s) : NoPos ss ws p q := fun w hw m hm e => by
  obtain ⟨u, rfl⟩ := reach_of o h hw
  have h1 := hR.le u m hm e
  have sp := hR.pos
  have h2 : ((costM ss (stF ss [] u) m : Nat) : Int) * s ≤ (r : Int) * (m.length : Nat) := by
    rw [← Int.natCast_mul, ← Int.natCast_mul]; exact Int.ofNat_le.mpr h1
  unfold exc
  generalize ((costM ss (stF ss [] u) m : Nat) : Int) = c2 at h2 ⊢
  have hl : (0 : Int) ≤ (m.length : Nat) := Int.natCast_nonneg _
  have hs : (0 : Int) < (s : Nat) := by omega
  have key := mulI_tr (a := c2) (b := (m.length : Nat)) (c := r) (d := s) (e := p) (f := q) hs hq hl h2 hle
  rw [Int.mul_comm q c2]
  omega
structure BfD (ss : List Stf) (ws : List (List Bool)) (p q : Int) (k : Nat) (Dn : List Bool → Bool → Prop) (h : List Bool → Int) : Prop where
  wit : ∀ v ∈ ws, ∃ u ∈ ws, ∃ m, stF ss u m = v ∧ h v = exc ss p q u m
  all : ∀ u ∈ ws, ∀ m : List Bool, m.length ≤ k → exc ss p q u m ≤ h (stF ss u m)
  nxt : ∀ u ∈ ws, ∀ (m : List Bool) (b : Bool), m.length ≤ k → Dn (stF ss u m) b → exc ss p q u (m ++ [b]) ≤ h (nM ss (stF ss u m) b)
theorem BfD.start {ss : List Stf} {ws : List (List Bool)} {p q : Int} : BfD ss ws p q 0 (fun _ _ => False) (fun _ => 0) := ⟨fun v hv => ⟨v, hv, [], rfl, (exc_nil v).symm⟩,
  fun u _ m hm => by
    rw [List.length_eq_zero_iff.mp (Nat.le_zero.mp hm), exc_nil]
    exact Int.le_refl _, fun _ _ _ _ _ h => h.elim⟩
theorem BfD.congr {ss : List Stf} {ws : List (List Bool)} {p q : Int} {k : Nat} {D E : List Bool → Bool → Prop} {h : List Bool → Int} (H : BfD ss ws p q k D h) (e : ∀ x ∈ ws, ∀ y, E x y → D x y) (hM : Mvs ss ws) : BfD ss ws p q k E h :=
  ⟨H.wit, H.all, fun u hu m b hm hd => H.nxt u hu m b hm (e _ (stF_in hM hu) _ hd)⟩
def rlx (ss : List Stf) (p q : Int) (w : List Bool) (b : Bool) (h : List Bool → Int) : List Bool → Int := ug h (nM ss w b) (max (h (nM ss w b)) (h w + (cM ss w b : Nat) * q - p))
theorem rlx_le {ss : List Stf} {p q : Int} {w : List Bool} {b : Bool} {h : List Bool → Int} (u : List Bool) : h u ≤ rlx ss p q w b h u := by
  unfold rlx
  by_cases c : u = nM ss w b
  · rw [c, ug_same]; omega
  · rw [ug_ne c]; exact Int.le_refl _
theorem stF_one {ss : List Stf} {u m : List Bool} {b : Bool} : stF ss u (m ++ [b]) = nM ss (stF ss u m) b := by rw [stF_app]; rfl
theorem exc_snoc {ss : List Stf} {p q : Int} {u m : List Bool} {b : Bool} : exc ss p q u (m ++ [b]) = exc ss p q u m + ((cM ss (stF ss u m) b : Nat) * q - p) := by rw [exc_app, exc_one]
theorem BfD.step {ss : List Stf} {ws : List (List Bool)} {p q : Int} {k : Nat} {D : List Bool → Bool → Prop} {h : List Bool → Int} (H : BfD ss ws p q k D h) (w : List Bool) (hw : w ∈ ws) (b : Bool) : BfD ss ws p q k (fun x y => D x y ∨ (x = w ∧ y = b)) (rlx ss p q w b h) := by
  refine ⟨fun v hv => ?_, fun u hu m hm => Int.le_trans (H.all u hu m hm) (rlx_le _), fun u hu m c hm hd => ?_⟩
  · by_cases c : v = nM ss w b
    · by_cases d : h (nM ss w b) ≤ h w + (cM ss w b : Nat) * q - p
      · obtain ⟨u, hu, m, e1, e2⟩ := H.wit w hw
        refine ⟨u, hu, m ++ [b], by rw [stF_one, e1, c], ?_⟩
        rw [exc_snoc, e1, c]
        unfold rlx
        rw [ug_same, ← e2]
        omega
      · obtain ⟨u, hu, m, e1, e2⟩ := H.wit v hv
        refine ⟨u, hu, m, e1, ?_⟩
        rw [← e2, c]
        unfold rlx
        rw [ug_same]
        omega
    · obtain ⟨u, hu, m, e1, e2⟩ := H.wit v hv
      refine ⟨u, hu, m, e1, ?_⟩
      rw [← e2]
      exact ug_ne c
  · rcases hd with hd | ⟨h1, rfl⟩
    · exact Int.le_trans (H.nxt u hu m c hm hd) (rlx_le _)
    · have := H.all u hu m hm
      rw [exc_snoc, h1]
      rw [h1] at this
      unfold rlx
      rw [ug_same]
      omega
theorem BfD.round {ss : List Stf} {ws : List (List Bool)} {p q : Int} {k : Nat} {D : List Bool → Bool → Prop} {h : List Bool → Int} (hM : Mvs ss ws) (H : BfD ss ws p q k D h) (hD : ∀ x ∈ ws, ∀ y, D x y) : BfD ss ws p q (k + 1) (fun _ _ => False) h := by
  refine ⟨H.wit, fun u hu m hm => ?_, fun _ _ _ _ _ z => z.elim⟩
  by_cases c : m.length ≤ k
  · exact H.all u hu m c
  · rcases List.eq_nil_or_concat m with z | ⟨v, b, z⟩
    · rw [z] at c; exact absurd (Nat.zero_le _) c
    · rw [List.concat_eq_append] at z
      subst z
      rw [List.length_append] at hm
      have hv : v.length ≤ k := by simpa using hm
      rw [stF_one]
      exact H.nxt u hu v b hv (hD _ (stF_in hM hu) _)
def RightH (ss : List Stf) (ws : List (List Bool)) (p q : Int) (h : List Bool → Int) : Prop := ∀ w ∈ ws, ∀ b, h w + (cM ss w b : Nat) * q - p ≤ h (nM ss w b)
theorem BfD.right {ss : List Stf} {ws : List (List Bool)} {p q : Int} {k : Nat} {D : List Bool → Bool → Prop} {h : List Bool → Int} (hM : Mvs ss ws) (np : NoPos ss ws p q) (H : BfD ss ws p q k D h) (hk : ws.length ≤ k + 1) : RightH ss ws p q h := fun w hw b => by
  obtain ⟨u, hu, m, e1, e2⟩ := H.wit w hw
  obtain ⟨m', h1, h2, h3⟩ := dom hM np hu (m.length + 1) (m ++ [b]) (by simp)
  have h4 := H.all u hu m' (by omega)
  rw [h2, stF_one, e1] at h4
  rw [exc_snoc, e1, ← e2] at h3
  omega
def hP (h : List Bool → Int) (q : Nat) (w : List Bool) : Int := h w / (Nat.gcd (h w).natAbs q : Nat)
def hQ (h : List Bool → Int) (q : Nat) (w : List Bool) : Int := (q : Int) / (Nat.gcd (h w).natAbs q : Nat)
theorem hPQ {h : List Bool → Int} {q : Nat} (q0 : 0 < q) (w : List Bool) : ∃ g : Nat, 0 < g ∧ h w = hP h q w * g ∧ (q : Int) = hQ h q w * g ∧ 0 < hQ h q w ∧ Nat.gcd (hP h q w).natAbs (hQ h q w).natAbs = 1 ∧ hQ h q w ≤ q := by
  have g0 : 0 < Nat.gcd (h w).natAbs q := Nat.gcd_pos_of_pos_right _ q0
  have d1 : ((Nat.gcd (h w).natAbs q : Nat) : Int) ∣ h w := Int.natAbs_dvd_natAbs.mp (by rw [Int.natAbs_natCast]; exact Nat.gcd_dvd_left _ _)
  have d2 : ((Nat.gcd (h w).natAbs q : Nat) : Int) ∣ (q : Int) := Int.natCast_dvd_natCast.mpr (Nat.gcd_dvd_right _ _)
  have e1 : h w = hP h q w * (Nat.gcd (h w).natAbs q : Nat) := (Int.ediv_mul_cancel d1).symm
  have e2 : (q : Int) = hQ h q w * (Nat.gcd (h w).natAbs q : Nat) := (Int.ediv_mul_cancel d2).symm
  have e3 : hQ h q w = ((q / Nat.gcd (h w).natAbs q : Nat) : Int) := (Int.natCast_ediv _ _).symm
  have e4 : (hP h q w).natAbs = (h w).natAbs / Nat.gcd (h w).natAbs q := by
    unfold hP
    rw [Int.natAbs_ediv_of_dvd d1]
    rfl
  refine ⟨_, g0, e1, e2, ?_, ?_, ?_⟩
  · rw [e3]
    have := Nat.div_pos (Nat.gcd_le_right (h w).natAbs q0) g0
    omega
  · rw [e4, e3]
    exact Nat.gcd_div_gcd_div_gcd_of_pos_right q0
  · rw [e3]
    have := Nat.div_le_self q (Nat.gcd (h w).natAbs q)
    omega
theorem kept_iff {a b g1 g2 P1 Q1 P2 Q2 c p q q0 : Int} (h1 : 0 < g1) (h2 : 0 < g2) (e1 : a = P1 * g1) (e2 : q0 = Q1 * g1) (e3 : b = P2 * g2) (e4 : q0 = Q2 * g2) (hq0 : 0 < q0) :
    (P1 * q + (c * q - p) * Q1) * Q2 ≤ P2 * (Q1 * q) ↔ a * q + (c * q - p) * q0 ≤ b * q := by
  have hg : 0 < g1 * g2 := Int.mul_pos h1 h2
  generalize c * q - p = d
  have x1 : (P1 * q + d * Q1) * Q2 * (g1 * g2) = (a * q + d * q0) * q0 := by grind
  have x2 : P2 * (Q1 * q) * (g1 * g2) = b * q * q0 := by grind
  constructor
  · intro z
    have := Int.mul_le_mul_of_nonneg_right z (Int.le_of_lt hg)
    rw [x1, x2] at this
    exact Int.le_of_mul_le_mul_right this hq0
  · intro z
    have := Int.mul_le_mul_of_nonneg_right z (Int.le_of_lt hq0)
    rw [← x1, ← x2] at this
    exact Int.le_of_mul_le_mul_right this hg
end U
set_option maxRecDepth 100000
set_option maxHeartbeats 4000000
namespace U
open PySem PySem.Spec PyProof.Rows
open L2 hiding Fun CX0 E0 pass0 Fun.binds
open C8 Lx SX StX
def spAtMost : Sp := fun vs H Q _ => ∃ (a b : Addr) (p q r s : Int), vs = [.ref a, .ref b] ∧ H a = some (.tup [.int p, .int q]) ∧ H b = some (.tup [.int r, .int s]) ∧ 0 < q ∧ q ≤ 2000000000000000000 ∧ 0 < s ∧ s ≤ 2000000000000000000 ∧ Q (.bl (decide (p * s ≤ r * q))) H
def PapAt (H : Hp) (t : Addr) (ws : List (List Bool)) (P Qf : List Bool → Int) : Prop := ∃ es : List Addr, H t = some (.tup (es.map V.ref)) ∧ es.length = ws.length ∧ ∀ (i : Nat) (e : Addr) (w : List Bool), es[i]? = some e → ws[i]? = some w → ∃ f, H e = some (.tup [.str (W w), .ref f]) ∧ H f = some (.tup [.int (P w), .int (Qf w)])
def spRatePaper (C : Addr) : Sp := fun vs H Q _ => ∃ (a tv : Addr) (f : List Bool) (ss : List Stf) (p : Int) (q : Nat), vs = [.ref a, .ref tv] ∧ RuAt C H a f ss ∧ StOk ss ∧ OkN 39 ss ∧ longM ss ≤ 5 ∧ H tv = some (.tup [.int p, .int q]) ∧ 0 < q ∧ q < 1000000000 ∧
  ∀ r s : Nat, RateL ss r s → s ≤ 1023 →
    ((¬ ((r : Int) * q ≤ p * s) → ∀ H', Same H H' → Q .non H') ∧
     ((r : Int) * q ≤ p * s → ∀ t ws h H', H t = none → Same H H' → Mvs ss ws → RightH ss ws p q h → PapAt H' t ws (hP h q) (hQ h q) → Q (.ref t) H'))
def kvz (ws : List (List Bool)) (h : List Bool → Int) : List (Key × V) := kvw ws fun w => .int (h w)
theorem kvz_put {ws : List (List Bool)} {h : List Bool → Int} {w : List Bool} {v : Int} (hw : w ∈ ws) : putK (kvz ws h) (Sum.inr (W w)) (.int v) = kvz ws (ug h w v) := by
  unfold kvz
  rw [kvw_put hw]
  congr 1
  funext u
  unfold ug
  split <;> rfl
theorem kvz_val {ws : List (List Bool)} {h : List Bool → Int} {w : List Bool} (hw : w ∈ ws) : valV (kvz ws h) (Sum.inr (W w)) = some (.int (h w)) := by
  unfold kvz
  rw [kvw_val, if_pos hw]
theorem kvz_len (ws : List (List Bool)) (h : List Bool → Int) : (kvz ws h).length = ws.length := kvw_len _ _
theorem same_both {H H' : Hp} {d : Addr} {o : HO} (s : Same H H') : Same (upd H d o) (upd H' d o) := fun c x e => by
  by_cases q : c = d
  · rw [q, upd_same] at e ⊢; exact e
  · rw [upd_ne q] at e ⊢; exact s _ _ e
theorem perm_mapx {α β : Type} (g : α → β) {ys zs : List β} (p : ys.Perm zs) : ∀ l : List α, zs = l.map g → ∃ l' : List α, l'.Perm l ∧ ys = l'.map g := by
  induction p with
  | nil =>
    intro l e
    cases l with
    | nil => exact ⟨[], .nil, rfl⟩
    | cons a r => cases e
  | cons x _ ih =>
    intro l e
    cases l with
    | nil => cases e
    | cons a r =>
      rw [List.map_cons] at e
      obtain ⟨e1, e2⟩ := List.cons.inj e
      obtain ⟨l', h1, h2⟩ := ih r e2
      exact ⟨a :: l', h1.cons a, by rw [List.map_cons, ← e1, ← h2]⟩
  | swap x y t =>
    intro l e
    cases l with
    | nil => cases e
    | cons a r =>
      cases r with
      | nil => cases (List.cons.inj e).2
      | cons c r =>
        rw [List.map_cons, List.map_cons] at e
        obtain ⟨e1, e2⟩ := List.cons.inj e
        obtain ⟨e3, e4⟩ := List.cons.inj e2
        exact ⟨c :: a :: r, List.Perm.swap a c r, by rw [List.map_cons, List.map_cons, e1, e3, e4]⟩
  | trans _ _ ih1 ih2 =>
    intro l e
    obtain ⟨l2, h1, h2⟩ := ih2 l e
    obtain ⟨l1, h3, h4⟩ := ih1 l2 h2
    exact ⟨l1, h3.trans h1, h4⟩
section
variable {P : Program} {w : World} {K : PySem.W.Frag} {mg : Str → Option Value} {base : Heap}
theorem sc_is_at_most : FnScope ["one", "two"] ["one", "two"] (fnScope s_is_at_most) := fnScope_by (by decide +kernel)
theorem cal_is_at_most {f : Addr} {fd : FuncData} (F : Def K mg "is_at_most" s_is_at_most f fd) (b : Binds K fd ["one", "two"] []) (T : Tx mg) : Cal P w K mg base 1 "is_at_most" spAtMost [] := by
  refine cal0 F b .nil sc_is_at_most (fun vs H Q E h => ?_) (fun cdv A outer s H vs Q E hr h => ?_)
  · obtain ⟨_, _, _, _, _, _, rfl, _⟩ := h; rfl
  · obtain ⟨a, a2, p, q, r, s, rfl, h1, h2, q0, q9, s0, s9, k⟩ := h
    refine ⟨_, (pss_one (ps_ret (pe_cmpR op_le (pe_op op_mul (pe_ix ix_tup (pv 0) pe_int (fun _ _ => rfl)) (pe_ix ix_tup (pv 1) pe_int (fun _ _ => rfl))) (pe_op op_mul (pe_ix ix_tup (pv 1) pe_int (fun _ _ => rfl)) (pe_ix ix_tup (pv 0) pe_int (fun _ _ => rfl))) (nomark _)))), ?_⟩
    refine ⟨_, rfl, a, _, _, _, rfl, rfl, SqT.of h1, atI_nat (j := 0) rfl, _, rfl, a2, _, _, _, rfl, rfl, SqT.of h2, atI_nat (j := 1) rfl, _, _, rfl, rfl, .inr ⟨by omega, by omega⟩, ?_⟩
    refine ⟨_, rfl, a2, _, _, _, rfl, rfl, SqT.of h2, atI_nat (j := 0) rfl, _, rfl, a, _, _, _, rfl, rfl, SqT.of h1, atI_nat (j := 1) rfl, _, _, rfl, rfl, .inr ⟨by omega, by omega⟩, ?_⟩
    exact ⟨_, _, rfl, rfl, k⟩
theorem sc_rate_paper : FnScope ["rule", "value", "moves", "heights", "here", "turn", "many", "there"] ["rule", "value"] (fnScope s_rate_paper) := fnScope_by (by decide +kernel)
theorem cal_rate_paper {f C : Addr} {fd : FuncData} (F : Def K mg "rate_paper" s_rate_paper f fd) (b : Binds K fd ["rule", "value"] []) (T : Tx mg) (c_is_at_most : Cal P w K mg base 1 "is_at_most" spAtMost []) (c_rate : Cal P w K mg base 6 "rate" (spRate C) []) (c_moves_of : Cal P w K mg base 5 "moves_of" (spMovesOf C) []) (c_lowest : Cal P w K mg base 2 "lowest" spLowest []) : Cal P w K mg base 7 "rate_paper" (spRatePaper C) [] := by
  refine cal0 F b .nil sc_rate_paper (fun vs H Q E h => ?_) (fun cdv A outer s H vs Q E hr h => ?_)
  · obtain ⟨_, _, _, _, _, _, rfl, _⟩ := h; rfl
  · obtain ⟨a, tv, fl, ss, p, q, rfl, hR, ok, o, l5, htv, q0, q9, k⟩ := h
    refine ⟨_, (pss_cons (ps_if (pt_not (pt_val (pe_c c_is_at_most hr (by decide) rfl (pa_cons (pe_c c_rate hr (by decide) rfl (pa_cons (pv 0) pa_nil)) (pa_cons (pv 1) pa_nil))))) (pss_one (ps_ret pe_non)) pss_nil)
    (pss_cons (ps_set (i := 2) sc_rate_paper.nd rfl (.inl rfl) (pe_c c_moves_of hr (by decide) rfl (pa_cons (pv 0) pa_nil)))
    (pss_cons (ps_set (i := 3) sc_rate_paper.nd rfl (.inr rfl) (pe_lock (pe_dc (own := [("here", 4)]) (g := gName 4) (by rfl) sc_rate_paper.nd (pi_keys (pv 2)) (blkOk_by (own := [("here", 4)]) (N := ["rule", "value", "moves", "heights", "here", "turn", "many", "there"]) (sc := fnScope s_rate_paper) (by decide +kernel)) (fun _ _ _ _ _ => (pg_name (i := 4) sc_rate_paper.nd rfl (.inl rfl))) (fun _ _ _ _ _ => pts_nil) (fun _ _ _ _ _ => (pv 4)) (fun _ _ _ _ _ => pe_int))))
    (pss_cons (ps_for PassesOwn.never rfl (pi_range1 (by rfl) T.b_range (pa_cons (pe_callB call_lenD (by rfl) T.b_len (by decide +kernel) (pa_cons (pv 2) pa_nil)) pa_nil)) (pg_name (i := 5) sc_rate_paper.nd rfl (.inl rfl))
    (pss_one (ps_lock (ps_for PassesOwn.never rfl (pi_keys (pv 2)) (pg_name (i := 4) sc_rate_paper.nd rfl (.inl rfl))
    (pss_one (ps_for PassesOwn.never rfl (pi_list (pe_dget (hu_of hr) (pv 2) (pv 4) (fun _ _ => rfl))) (pg_tup rfl (pgs_cons (pg_name (i := 6) sc_rate_paper.nd rfl (.inl rfl)) (pgs_cons (pg_name (i := 7) sc_rate_paper.nd rfl (.inl rfl)) pgs_nil)))
    (pss_one (ps_dput (hu_of hr) (pv 3) (pv 7) (pe_callB (call_max2 rfl) (by rfl) T.b_max (by decide +kernel) (pa_cons (pe_callTy call_int1 (by rfl) T.b_int (by decide +kernel) (pa_cons (pe_dget (hu_of hr) (pv 3) (pv 7) (fun _ _ => rfl)) pa_nil)) (pa_cons (pe_callTy call_int1 (by rfl) T.b_int (by decide +kernel) (pa_cons (pe_op op_sub (pe_op op_add (pe_dget (hu_of hr) (pv 3) (pv 4) (fun _ _ => rfl)) (pe_op op_mul (pv 6) (pe_ix ix_tup (pv 1) pe_int (fun _ _ => rfl)))) (pe_ix ix_tup (pv 1) pe_int (fun _ _ => rfl))) pa_nil)) pa_nil))) rfl))))))))
    (pss_one (ps_ret (pe_callTy call_tuple_of (by rfl) T.b_tuple (by decide +kernel) (pa_cons (pe_lc (own := [("here", 4)]) (g := gName 4) (by rfl) sc_rate_paper.nd (pi_list (pe_callB (call_sortedD rfl) (by rfl) T.b_sorted (by decide +kernel) (pa_cons (pv 3) pa_nil))) (blkOk_by (own := [("here", 4)]) (N := ["rule", "value", "moves", "heights", "here", "turn", "many", "there"]) (sc := fnScope s_rate_paper) (by decide +kernel)) (fun _ _ _ _ _ => (pg_name (i := 4) sc_rate_paper.nd rfl (.inl rfl))) (fun _ _ _ _ _ => pts_nil) (fun _ _ _ _ _ => (pe_tup (pa_cons (pv 4) (pa_cons (pe_c c_lowest hr (by decide) rfl (pa_cons (pe_dget (hu_of hr) (pv 3) (pv 4) (fun _ _ => rfl)) (pa_cons (pe_ix (show IxR _ (rIxT K) from ix_tup) (pv 1) pe_int (fun _ _ => rfl)) pa_nil))) pa_nil))))) pa_nil)))))))), ?_⟩
    refine ⟨_, rfl, a, fl, ss, rfl, hR, ok, o, fun t r s' H1 nt s1 ht hL hs => ?_⟩
    have sp := hL.1.pos
    refine ⟨_, rfl, t, tv, r, s', p, q, rfl, ht, s1 _ _ htv, by omega, by omega, by omega, by omega, ?_⟩
    by_cases c : (r : Int) * q ≤ p * s'
    rotate_left
    · refine ⟨_, rfl, iteBT (by rw [decide_eq_false c]; rfl) ?_⟩
      exact (k r s' hL hs).1 c H1 s1
    refine ⟨_, rfl, iteBF (by rw [decide_eq_true c]; rfl) ?_⟩
    refine ⟨_, rfl, a, fl, ss, rfl, hR.same s1, ok, o, fun d ws H2 nd s2 hM hW => ?_⟩
    obtain ⟨lo, hd, hD⟩ := hM
    refine ⟨d, _, hd, trivial, fun od => ?_⟩
    have s12 := s1.trans s2
    have hdf : upd H2 d (.frz od (.dK (kvr ws lo))) d = some (.frz od (.dK (kvr ws lo))) := upd_same
    have un1 : ∀ {H'}, Same (upd H2 d (.frz od (.dK (kvr ws lo)))) H' → Same H2 (upd H' d (.dK (kvr ws lo))) := fun s => same_unlock s hd
    have nn : ∀ x, upd H2 d (.frz od (.dK (kvr ws lo))) x = none → H2 x = none := fun x e => by
      by_cases z : x = d
      · rw [z, upd_same] at e; cases e
      · rw [upd_ne z] at e; exact e
    generalize upd H2 d (.frz od (.dK (kvr ws lo))) = H3 at hdf un1 nn ⊢
    refine ⟨_, rfl, d, od, rfl, .inl ⟨_, hdf, fun D nD => ?_⟩⟩
    have nD2 := nn D nD
    have lkv : (kvr ws lo).length = ws.length := kvr_len _ _
    have few := hW.few (by omega)
    refine dc_it (walk_keys (kvs := kvr ws lo)) (fun i H4 => Same H3 H4 ∧ H4 D = some (.dK (kvz (ws.take i) fun _ => 0))) ⟨same_upd nD, upd_same⟩ (fun i H4 _ h4 => h4.1 _ _ hdf) ?_ ?_
    · rintro i x H4' H4 hi ⟨s4, hDi⟩ ⟨rfl, kk, vv, hkv, rfl⟩
      obtain ⟨u, hu, rfl, rfl⟩ := kvw_get hkv
      refine ⟨rfl, _, rfl, _, .inr (W u), rfl, hDi, by rw [kvz_len, List.length_take]; exact sl_lt (by omega), same_mut' s4 nD, ?_⟩
      rw [upd_same]
      unfold kvz
      rw [kvw_snoc (g := fun _ => V.int 0) (v := V.int 0) (nodup_take hW.nd hu) rfl, take_snoc hu]
    rintro H4 ⟨s4, hD4⟩
    rw [lkv, List.take_length] at hD4
    refine ⟨s4 _ _ hdf, ?_⟩
    have s5 := un1 s4
    have nDd : D ≠ d := (ne_of_none hd nD2).symm
    have hD5 : upd H4 d (.dK (kvr ws lo)) D = some (.dK (kvz ws fun _ => 0)) := by rw [upd_ne nDd]; exact hD4
    generalize upd H4 d (.dK (kvr ws lo)) = H5 at s5 hD5 ⊢
    refine ⟨_, rfl, d, _, rfl, s5 _ _ hd, _, rfl, by omega, by omega, ?_⟩
    refine for_it (walk_range (lo := 0) (n := (((kvr ws lo).length : Nat) : Int).toNat)) (fun i σ H6 => ∃ (h : List Bool → Int) (v4 v5 v6 v7 : Option V), σ = [some (.ref a), some (.ref tv), some (.ref d), some (.ref D), v4, v5, v6, v7] ∧ Same H2 H6 ∧ H6 D = some (.dK (kvz ws h)) ∧ BfD ss ws p q i (fun _ _ => False) h)
      ⟨_, _, _, _, _, rfl, s5, hD5, .start⟩ (fun _ _ _ _ _ => trivial) ?_ ?_
    · rintro i x σ H6' H6 hi ⟨h, v4, v5, v6, v7, rfl, s6, hD6, hB⟩ ⟨rfl, rfl⟩
      have hd6 := s6 _ _ hd
      refine ⟨d, _, hd6, trivial, fun od => ?_⟩
      have hLd : upd H2 d (.frz od (.dK (kvr ws lo))) d = some (.frz od (.dK (kvr ws lo))) := upd_same
      have hLu : ∀ {H'}, Same (upd H2 d (.frz od (.dK (kvr ws lo)))) H' → Same H2 (upd H' d (.dK (kvr ws lo))) := fun s => same_unlock s hd
      have hLM : MvD (upd H2 d (.frz od (.dK (kvr ws lo)))) ss ws lo := hD.dk hd (fun _ z => by cases z) (fun _ z => by cases z)
      have hLD : upd H2 d (.frz od (.dK (kvr ws lo))) D = none := by rw [upd_ne nDd]; exact nD2
      have hLt : upd H2 d (.frz od (.dK (kvr ws lo))) tv = some (.tup [.int p, .int q]) := by rw [upd_ne (ne_of (s12 _ _ htv) hd (by intro z; cases z))]; exact s12 _ _ htv
      have sL : Same (upd H2 d (.frz od (.dK (kvr ws lo)))) (upd H6 d (.frz od (.dK (kvr ws lo)))) := same_both s6
      have hD7 : upd H6 d (.frz od (.dK (kvr ws lo))) D = some (.dK (kvz ws h)) := by rw [upd_ne nDd]; exact hD6
      generalize upd H6 d (.frz od (.dK (kvr ws lo))) = H7 at sL hD7 ⊢
      generalize upd H2 d (.frz od (.dK (kvr ws lo))) = HL at sL hLd hLu hLM hLD hLt
      refine ⟨_, rfl, d, od, rfl, .inl ⟨_, sL _ _ hLd, ?_⟩⟩
      refine for_it (walk_keys (kvs := kvr ws lo)) (fun j σ H8 => ∃ (h : List Bool → Int) (v4 v6 v7 : Option V), σ = [some (.ref a), some (.ref tv), some (.ref d), some (.ref D), v4, some (.int (0 + (i : Int))), v6, v7] ∧ Same HL H8 ∧ H8 D = some (.dK (kvz ws h)) ∧ BfD ss ws p q i (fun x _ => x ∈ ws.take j) h)
        ⟨h, _, _, _, rfl, sL, hD7, hB.congr (fun x _ y z => by cases z) hW⟩ (fun j σ H8 _ h8 => by obtain ⟨_, _, _, _, _, h8, _⟩ := h8; exact h8 _ _ hLd) ?_ ?_
      · rintro j x σ H8' H8 hj ⟨h, v4, v6, v7, rfl, s8, hD8, hB8⟩ ⟨rfl, kk, vv, hkv, rfl⟩
        obtain ⟨u, hu, rfl, rfl⟩ := kvw_get hkv
        have hum := List.mem_of_getElem? hu
        obtain ⟨p0, p1, hloL, hp0, hp1⟩ := hLM u hum
        refine ⟨_, rfl, _, rfl, d, _, rfl, .inl ⟨kvr ws lo, .inr (W u), .inr ⟨od, s8 _ _ hLd⟩, rfl, (kvr_val hum).symm⟩, lo u, rfl, ⟨_, SqL.of (s8 _ _ hloL)⟩, ?_⟩
        refine for_it (walk_list (xs := [.ref p0, .ref p1])) (fun e σ H9 => ∃ (h : List Bool → Int) (v6 v7 : Option V), σ = [some (.ref a), some (.ref tv), some (.ref d), some (.ref D), some (.str (W u)), some (.int (0 + (i : Int))), v6, v7] ∧ Same HL H9 ∧ H9 D = some (.dK (kvz ws h)) ∧ BfD ss ws p q i (fun x y => x ∈ ws.take j ∨ (x = u ∧ y ∈ [false, true].take e)) h)
          ⟨h, _, _, rfl, s8, hD8, hB8.congr (fun x _ y z => z.elim id fun z => by cases z.2) hW⟩ (fun e σ H9 _ h9 => by obtain ⟨_, _, _, _, h9, _⟩ := h9; exact SqL.of (h9 _ _ hloL)) ?_ ?_
        · rintro e x σ H9' H9 he ⟨h, v6, v7, rfl, s9, hD9, hB9⟩ ⟨rfl, hx⟩
          have hp : ∃ (b : Bool) (p : Addr), x = .ref p ∧ [false, true][e]? = some b ∧ H9 p = some (.tup [.int (cM ss u b : Nat), .str (W (nM ss u b))]) := by
            match e, he, hx with
            | 0, _, hx => cases hx; exact ⟨false, p0, rfl, rfl, s9 _ _ hp0⟩
            | 1, _, hx => cases hx; exact ⟨true, p1, rfl, rfl, s9 _ _ hp1⟩
          obtain ⟨b, pt, rfl, hb, hpt⟩ := hp
          have hvm := hW.cl u hum b
          have ht9 := s9 _ _ hLt
          refine ⟨pt, _, rfl, SqT.of hpt, rfl, _, _, rfl, _, _, rfl, rfl, ?_⟩
          have g1 : DGet H9 D (.str (W (nM ss u b))) (some (.int (h (nM ss u b)))) := .inl ⟨_, .inr (W (nM ss u b)), .inl hD9, rfl, (kvz_val hvm).symm⟩
          have g2 : DGet H9 D (.str (W u)) (some (.int (h u))) := .inl ⟨_, .inr (W u), .inl hD9, rfl, (kvz_val hum).symm⟩
          refine ⟨_, rfl, _, rfl, D, _, rfl, g1, .inl ⟨_, rfl, ?_⟩⟩
          refine ⟨_, rfl, _, rfl, D, _, rfl, g2, ?_⟩
          refine ⟨_, rfl, _, rfl, tv, _, _, _, rfl, rfl, SqT.of ht9, atI_nat (j := 1) rfl, _, _, rfl, rfl, .inr ⟨by omega, by omega⟩, ?_⟩
          refine ⟨_, _, rfl, rfl, _, rfl, tv, _, _, _, rfl, rfl, SqT.of ht9, atI_nat (j := 0) rfl, _, _, rfl, rfl, .inl ⟨_, rfl, ?_⟩⟩
          refine ⟨_, _, rfl, ?_⟩
          refine ⟨_, rfl, _, rfl, D, _, rfl, DPut.k (k := .inr (W (nM ss u b))) hD9 (by rw [kvz_len]; exact sl_lt (by omega)), ?_⟩
          have emax : (if h u + ((cM ss u b : Nat) : Int) * q - p > h (nM ss u b) then h u + ((cM ss u b : Nat) : Int) * q - p else h (nM ss u b)) = max (h (nM ss u b)) (h u + ((cM ss u b : Nat) : Int) * q - p) := by split <;> omega
          rw [emax, kvz_put hvm]
          refine ⟨_, _, _, rfl, same_mut' s9 hLD, upd_same, (hB9.step u hum b).congr (fun x _ y z => ?_) hW⟩
          rw [take_snoc hb, List.mem_append, List.mem_singleton] at z
          rcases z with h | ⟨h1, h2 | h2⟩
          · exact .inl (.inl h)
          · exact .inl (.inr ⟨h1, h2⟩)
          · exact .inr ⟨h1, h2⟩
        · rintro σ H9 ⟨h, v6, v7, rfl, s9, hD9, hB9⟩
          refine ⟨h, _, _, _, rfl, s9, hD9, hB9.congr (fun x _ y z => ?_) hW⟩
          rw [take_snoc hu, List.mem_append, List.mem_singleton] at z
          exact z.elim .inl fun z => .inr ⟨z, by show y ∈ [false, true].take 2; cases y <;> decide⟩
      · rintro σ H8 ⟨h, v4, v6, v7, rfl, s8, hD8, hB8⟩
        rw [lkv, List.take_length] at hB8
        refine ⟨s8 _ _ hLd, h, _, _, _, _, rfl, hLu s8, ?_, hB8.round hW fun x hx _ => hx⟩
        rw [upd_ne nDd]; exact hD8
    · rintro σ H6 ⟨h, v4, v5, v6, v7, rfl, s6, hD6, hB⟩
      rw [lkv, Int.toNat_natCast] at hB
      have hRt := hB.right hW (NoPos.of_rate o hW hL.1 (by omega) c) (by omega)
      have nlt : ws.length < 64 := by
        have := words_le hW.nd (n := 5) fun w hw => by
          obtain ⟨m, rfl⟩ := hW.g w hw
          exact Nat.le_trans (tl_le _ _) l5
        have e : 2 ^ (5 + 1) = 64 := rfl
        omega
      refine ⟨_, rfl, D, _, ws.map W, rfl, .inl hD6, ?_, by rw [List.length_map]; exact nlt, fun ys l pm srt nl => ?_⟩
      · unfold kvz kvw; rw [List.map_map, List.map_map]; rfl
      have pm2 : ∃ vs : List (List Bool), ys = vs.map W ∧ vs.Perm ws := by
        obtain ⟨vs, h1, h2⟩ := perm_mapx W pm ws rfl
        exact ⟨vs, h2, h1⟩
      obtain ⟨vs, rfl, pmv⟩ := pm2
      have hV : Mvs ss vs := ⟨pmv.nodup_iff.mpr hW.nd, pmv.mem_iff.mpr hW.nil, fun w hw b => pmv.mem_iff.mpr (hW.cl w (pmv.mem_iff.mp hw) b), fun w hw => hW.g w (pmv.mem_iff.mp hw)⟩
      have hRv : RightH ss vs p q h := fun w hw b => hRt w (pmv.mem_iff.mp hw) b
      have lv : vs.length < 64 := by rw [pmv.length_eq]; exact nlt
      have sl := same_upd (o := .lst ((vs.map W).map V.str)) nl
      have hl : upd H6 l (.lst ((vs.map W).map V.str)) l = some (.lst (wdsV vs)) := by rw [upd_same, List.map_map]; rfl
      have hD7 := sl _ _ hD6
      have s7 := s6.trans sl
      generalize upd H6 l (.lst ((vs.map W).map V.str)) = H7 at hl hD7 s7 ⊢
      refine ⟨l, rfl, ⟨_, SqL.of hl⟩, fun L nL => ?_⟩
      have ht7 := s7 _ _ (s12 _ _ htv)
      refine lc_it (walk_list (xs := wdsV vs)) (fun i H8 => ∃ es : List Addr, Same H7 H8 ∧ H8 L = some (.lst (es.map V.ref)) ∧ es.length = i ∧ ∀ (j : Nat) (e : Addr) (w : List Bool), es[j]? = some e → vs[j]? = some w → ∃ f, H8 e = some (.tup [.str (W w), .ref f]) ∧ H8 f = some (.tup [.int (hP h q w), .int (hQ h q w)]))
        ⟨[], same_upd nL, upd_same, rfl, fun j e w z => by simp at z⟩ (fun i H8 _ h8 => by obtain ⟨_, h8, _⟩ := h8; exact SqL.of (h8 _ _ hl)) ?_ ?_
      · rintro i x H8' H8 hi ⟨es, s8, hL8, les, hE⟩ ⟨rfl, hx⟩
        obtain ⟨u, hu, rfl⟩ := wdsV_get hx
        have hum := pmv.mem_iff.mp (List.mem_of_getElem? hu)
        have g2 : DGet H8 D (.str (W u)) (some (.int (h u))) := .inl ⟨_, .inr (W u), .inl (s8 _ _ hD7), rfl, (kvz_val hum).symm⟩
        refine ⟨rfl, _, rfl, ?_⟩
        refine ⟨_, rfl, _, rfl, D, _, rfl, g2, _, rfl, tv, _, _, _, rfl, rfl, SqT.of (s8 _ _ ht7), atI_nat (j := 1) rfl, h u, q, rfl, q0, q9, fun t2 H9 nt2 s9 ht2 => ⟨by show 2 ≤ sizeLine; decide, fun te nte => ?_⟩⟩
        have se := same_upd (o := .tup [.str (W u), .ref t2]) nte
        have hte : upd H9 te (.tup [.str (W u), .ref t2]) te = some (.tup [.str (W u), .ref t2]) := upd_same
        have ht2' := se _ _ ht2
        have s9' := s9.trans se
        generalize upd H9 te (.tup [.str (W u), .ref t2]) = H10 at hte ht2' s9' ⊢
        have hL10 := s9' _ _ hL8
        refine ⟨_, hL10, by rw [List.length_map]; exact sl_lt (by rw [wdsV_len] at hi; omega), es ++ [te], same_mut' (s8.trans s9') nL, by rw [upd_same, List.map_append]; rfl, by rw [List.length_append, les]; rfl, fun j e w h1 h2 => ?_⟩
        have key : ∃ f, H10 e = some (.tup [.str (W w), .ref f]) ∧ H10 f = some (.tup [.int (hP h q w), .int (hQ h q w)]) := by
          by_cases z : j < es.length
          · rw [List.getElem?_append_left z] at h1
            obtain ⟨f, f1, f2⟩ := hE j e w h1 h2
            exact ⟨f, s9' _ _ f1, s9' _ _ f2⟩
          · have hj := (List.getElem?_eq_some_iff.mp h1).1
            rw [List.length_append] at hj
            have ej : j = i := by
              have : ([te] : List Addr).length = 1 := rfl
              omega
            subst ej
            rw [List.getElem?_append_right (by omega), les, Nat.sub_self] at h1
            have ee : te = e := Option.some.inj h1
            rw [hu] at h2
            have ew : u = w := Option.some.inj h2
            subst ee ew
            exact ⟨t2, hte, ht2'⟩
        obtain ⟨f, f1, f2⟩ := key
        exact ⟨f, by rw [upd_ne (ne_of f1 hL10 (by intro z; cases z))]; exact f1, by rw [upd_ne (ne_of f2 hL10 (by intro z; cases z))]; exact f2⟩
      · rintro H8 ⟨es, s8, hL8, les, hE⟩
        rw [wdsV_len] at les
        refine ⟨L, _, rfl, .inl ⟨SqL.of hL8, fun t nt => ?_⟩⟩
        have st := same_upd (o := .tup (es.map V.ref)) nt
        have hsame := ((s12.trans s7).trans s8).trans st
        exact (k r s' hL hs).2 c t vs h _ (((s12.trans s7).trans s8).free nt) hsame hV hRv ⟨es, upd_same, les, fun j e w h1 h2 => by
          obtain ⟨f, f1, f2⟩ := hE j e w h1 h2
          exact ⟨f, st _ _ f1, st _ _ f2⟩⟩
end
end U
set_option maxRecDepth 100000
set_option maxHeartbeats 1000000
namespace U
theorem suf_rep {p m w : List Bool} (h1 : p <:+ m) (h2 : p <:+ m ++ w) : p <:+ m ++ w ++ w := by
  by_cases c : p.length ≤ w.length
  · have : p <:+ w := List.suffix_of_suffix_length_le h2 (List.suffix_append _ _) c
    exact this.trans (List.suffix_append _ _)
  · obtain ⟨p', rfl⟩ : w <:+ p := List.suffix_of_suffix_length_le (List.suffix_append _ _) h2 (by omega)
    have h3 : p' <:+ m := (List.suffix_append_self_iff.mp h2)
    have h4 : p' <:+ p' ++ w := List.suffix_of_suffix_length_le h3 h1 (by rw [List.length_append]; omega)
    exact List.suffix_append_self_iff.mpr (h4.trans h2)
theorem turns {ss : List Stf} (sf : SufFree ss) {l x : List Bool} (h : Ins ss l x) : ∀ {P Q : List Bool} {b c : Bool}, (P, b) ∈ ss → (Q, c) ∈ ss → P <:+ l → Q <:+ l ++ [b] → P <:+ l ++ [b, c] → Q <:+ l ++ [b] ++ [c, b] → False := by
  induction h with
  | stop h0 =>
    intro P Q b c hP hQ h1 h2 h3 h4
    have := (put_iff sf).mpr ⟨P, hP, h1⟩
    rw [h0] at this
    cases this
  | @more l x b' h0 _ ih =>
    intro P Q b c hP hQ h1 h2 h3 h4
    have := (put_iff sf).mpr ⟨P, hP, h1⟩
    rw [h0] at this
    cases this
    exact ih hQ hP h2 (by rw [List.append_assoc]; exact h3) h4 (by
      have := suf_rep h1 h3
      rw [List.append_assoc] at this
      rw [List.append_assoc, List.append_assoc]
      exact this)
theorem chain3 {ss : List Stf} (sf : SufFree ss) (h2 : ss.length ≤ 2) {l x : List Bool} (h : Ins ss l x) : x.length ≤ 3 := by
  refine Classical.byContradiction fun hn => ?_
  have key : ∀ i, (hi : i < x.length) → ∃ p, (p, x[i]) ∈ ss ∧ p <:+ l ++ x.take i := fun i hi => (put_iff sf).mp (h.at (List.getElem?_eq_getElem hi))
  match x, h, key, hn with
  | a :: b :: c :: d :: r, h, key, _ =>
    obtain ⟨p0, m0, s0⟩ := key 0 (by simp)
    obtain ⟨p1, m1, s1⟩ := key 1 (by simp)
    obtain ⟨p2, m2, s2⟩ := key 2 (by simp)
    obtain ⟨p3, m3, s3⟩ := key 3 (by simp)
    have m0 : (p0, a) ∈ ss := m0
    have m1 : (p1, b) ∈ ss := m1
    have m2 : (p2, c) ∈ ss := m2
    have m3 : (p3, d) ∈ ss := m3
    have t0 : p0 <:+ l ++ [] := s0
    have s1 : p1 <:+ l ++ [a] := s1
    have s2 : p2 <:+ l ++ [a, b] := s2
    have s3 : p3 <:+ l ++ [a, b, c] := s3
    rw [List.append_nil] at t0
    have same : ∀ {l : List Bool} {p : List Bool} {b : Bool} {y : List Bool}, Ins ss l y → (p, b) ∈ ss → p <:+ l → p <:+ l ++ [b] → False := fun {l p b y} hy hm g1 g2 => by
      have g3 := suf_rep g1 g2
      have g4 := suf_rep g2 g3
      rw [List.append_assoc] at g3
      exact turns sf hy hm hm g1 g2 g3 (by rw [List.append_assoc] at g4; exact g4)
    have two : ∀ {x y z : Stf}, x ∈ ss → y ∈ ss → z ∈ ss → x ≠ y → y ≠ z → x = z := fun {x y z} hx hy hz n1 n2 => by
      match ss, h2, hx, hy, hz with
      | [], _, hx, _, _ => cases hx
      | [s], _, hx, hy, _ => exact absurd ((List.mem_singleton.mp hx).trans (List.mem_singleton.mp hy).symm) n1
      | [s, t], _, hx, hy, hz =>
        simp only [List.mem_cons, List.not_mem_nil, or_false] at hx hy hz
        rcases hx with rfl | rfl <;> rcases hy with rfl | rfl <;> rcases hz with rfl | rfl <;> first | rfl | exact absurd rfl n1 | exact absurd rfl n2
    have i0 := h
    have i1 := h.drop (i := 1) (by simp)
    have i2 := h.drop (i := 2) (by simp)
    have i1 : Ins ss (l ++ [a]) (b :: c :: d :: r) := i1
    have i2 : Ins ss (l ++ [a, b]) (c :: d :: r) := i2
    by_cases c0 : (p0, a) = (p1, b)
    · cases c0
      exact same i0 m0 t0 s1
    by_cases c1 : (p1, b) = (p2, c)
    · cases c1
      exact same i1 m1 s1 (by rw [List.append_assoc]; exact s2)
    by_cases c2 : (p2, c) = (p3, d)
    · cases c2
      exact same i2 m2 s2 (by rw [List.append_assoc]; exact s3)
    have e1 := two m0 m1 m2 c0 c1
    have e2 := two m1 m2 m3 c1 c2
    cases e1
    cases e2
    exact turns sf h m0 m1 t0 s1 s2 (by rw [List.append_assoc]; exact s3)
  | [], _, _, hn => exact hn (by simp)
  | [_], _, _, hn => exact hn (by simp)
  | [_, _], _, _, hn => exact hn (by simp)
  | [_, _, _], _, _, hn => exact hn (by simp)
theorem okN3 {n : Nat} {ss : List Stf} (o : OkN n ss) (sf : SufFree ss) (h2 : ss.length ≤ 2) : OkN 3 ss := fun l r b => by
  obtain ⟨x, hx, _⟩ := o l r b
  exact ⟨x, hx, chain3 sf h2 hx⟩
open PySem in
theorem sl_big {n : Nat} (h : n ≤ 16777216) : n ≤ sizeLine := h
open PySem in
theorem sl_big2 {n : Nat} (h : n < 16777216) : n < sizeLine := h
end U
set_option maxRecDepth 100000
set_option maxHeartbeats 4000000
namespace U
open PySem PySem.Spec PyProof.Rows
open L2 hiding Fun CX0 E0 pass0 Fun.binds
open C8 Lx SX StX
def LK (H H' : Hp) : Prop := (∀ a xs, H a = some (.lst xs) → ∃ ys, H' a = some (.lst ys)) ∧ ∀ a o u, H a = some (.frz o u) → H' a = some (.frz o u)
theorem LK.refl (H : Hp) : LK H H := ⟨fun _ xs e => ⟨xs, e⟩, fun _ _ _ e => e⟩
theorem LK.trans {H H1 H2 : Hp} (x : LK H H1) (y : LK H1 H2) : LK H H2 := ⟨fun a xs e => by
  obtain ⟨ys, e1⟩ := x.1 a xs e
  exact y.1 a ys e1, fun a o u e => y.2 a o u (x.2 a o u e)⟩
theorem LK.same {H H' : Hp} (s : Same H H') : LK H H' := ⟨fun a xs e => ⟨xs, s _ _ e⟩, fun a o u e => s _ _ e⟩
theorem LK.up {b : Addr} {H H' : Hp} (hb : Box H b) (u : Up b H H') : LK H H' := by
  obtain ⟨x, y, e0⟩ := hb
  refine ⟨fun a xs e => ?_, fun a o v e => u.1 _ _ e fun z => by rw [z, e0] at e; cases e⟩
  by_cases c : a = b
  · obtain ⟨x', y', e1⟩ := u.2
    exact ⟨_, by rw [c]; exact e1⟩
  · exact ⟨xs, u.1 _ _ e c⟩
theorem LK.lst {H : Hp} {D : Addr} {ys : List V} (h : H D = none ∨ ∃ xs, H D = some (.lst xs)) : LK H (upd H D (.lst ys)) := by
  refine ⟨fun a xs e => ?_, fun a o v e => ?_⟩
  · by_cases c : a = D
    · exact ⟨ys, by rw [c]; exact upd_same⟩
    · exact ⟨xs, by rw [upd_ne c]; exact e⟩
  · have c : a ≠ D := fun z => by
      rw [z] at e
      rcases h with h | ⟨xs, h⟩ <;> rw [h] at e <;> cases e
    rw [upd_ne c]
    exact e
def scalT : V → Bool
  | .non => true
  | .bl _ => true
  | .int i => decide (i.natAbs < 1000)
  | .str z => decide (z.length ≤ 10000) && PyData.strOk z
  | _ => false
inductive AnT (H : Hp) : V → Prop
  | sc {v : V} (h : scalT v = true) : AnT H v
  | ls {a : Addr} {xs : List V} (h : H a = some (.lst xs)) : AnT H (.ref a)
  | tp {a : Addr} {xs : List V} (h : TpX H a xs) (l : xs.length ≤ 1000) (k : ∀ x ∈ xs, AnT H x) : AnT H (.ref a)
theorem AnT.lk {H H' : Hp} (L : LK H H') {v : V} (h : AnT H v) : AnT H' v := by
  induction h with
  | sc h => exact .sc h
  | ls h =>
    obtain ⟨ys, e⟩ := L.1 _ _ h
    exact .ls e
  | tp h l _ ih =>
    obtain ⟨o, e, d⟩ := h
    exact .tp ⟨o, L.2 _ _ _ e, d⟩ l ih
theorem AnT.same {H H' : Hp} (s : Same H H') {v : V} (h : AnT H v) : AnT H' v := h.lk (LK.same s)
def OthT (K : PySem.W.Frag) (H : Hp) (x : V) (ty : String) : Prop := ∃ t, (∀ H', Same H H' → TyX K H' x t) ∧ PySem.W.kitOne K t (.type ty) = some false
theorem OthT.same {K : PySem.W.Frag} {H H' : Hp} {x : V} {ty : String} (h : OthT K H x ty) (s : Same H H') : OthT K H' x ty := by
  obtain ⟨t, h1, h2⟩ := h
  exact ⟨t, fun H2 s2 => h1 H2 (s.trans s2), h2⟩
inductive IntR (K : PySem.W.Frag) (H : Hp) : V → Option Int → Prop
  | int (i : Int) : IntR K H (.int i) (some i)
  | bl (b : Bool) : IntR K H (.bl b) none
  | oth {x : V} (h : OthT K H x "int") : IntR K H x none
theorem IntR.same {K : PySem.W.Frag} {H H' : Hp} {x : V} {r : Option Int} (h : IntR K H x r) (s : Same H H') : IntR K H' x r := by
  cases h with
  | int i => exact .int i
  | bl b => exact .bl b
  | oth h => exact .oth (h.same s)
inductive ValR (K : PySem.W.Frag) (H : Hp) : V → Option (Int × Int) → Prop
  | oth {v : V} (h : OthT K H v "tuple") : ValR K H v none
  | len {a : Addr} {xs : List V} (h : SqT K H a xs) (n : xs.length ≠ 2) (l : xs.length ≤ 1000) : ValR K H (.ref a) none
  | bad {a : Addr} {x y : V} {rx ry : Option Int} (h : SqT K H a [x, y]) (hx : IntR K H x rx) (hy : IntR K H y ry) (n : rx = none ∨ ry = none) : ValR K H (.ref a) none
  | num {a : Addr} {p q : Int} (h : SqT K H a [.int p, .int q]) (q9 : q < 1000000000) : ValR K H (.ref a) (if 0 < q ∧ Nat.gcd p.natAbs q.natAbs = 1 then some (p, q) else none)
theorem ValR.same {K : PySem.W.Frag} {H H' : Hp} {v : V} {r : Option (Int × Int)} (h : ValR K H v r) (s : Same H H') : ValR K H' v r := by
  cases h with
  | oth h => exact .oth (h.same s)
  | len h n l => exact .len (same_tup s h) n l
  | bad h hx hy n => exact .bad (same_tup s h) (hx.same s) (hy.same s) n
  | num h q9 => exact .num (same_tup s h) q9
def entO (sz : Nat) (x : V) (r : Option (Int × Int)) : Option (List Bool × Int × Int) := match x with
  | .str z => if isW z = true ∧ z.length ≤ sz then r.map fun pq => (unW z, pq) else none
  | _ => none
inductive EntR (K : PySem.W.Frag) (H : Hp) (sz : Nat) : V → Option (List Bool × Int × Int) → Prop
  | oth {v : V} (h : OthT K H v "tuple") : EntR K H sz v none
  | len {a : Addr} {xs : List V} (h : SqT K H a xs) (n : xs.length ≠ 2) (l : xs.length ≤ 1000) : EntR K H sz (.ref a) none
  | pair {a : Addr} {x y : V} {r : Option (Int × Int)} (h : SqT K H a [x, y]) (hx : AnyS K H x) (hy : ValR K H y r) : EntR K H sz (.ref a) (entO sz x r)
theorem EntR.same {K : PySem.W.Frag} {H H' : Hp} {sz : Nat} {v : V} {r : Option (List Bool × Int × Int)} (h : EntR K H sz v r) (s : Same H H') : EntR K H' sz v r := by
  cases h with
  | oth h => exact .oth (h.same s)
  | len h n l => exact .len (same_tup s h) n l
  | pair h hx hy => exact .pair (same_tup s h) (hx.same s) (hy.same s)
def allO {α : Type} : List (Option α) → Option (List α)
  | [] => some []
  | none :: _ => none
  | some x :: r => (allO r).map (x :: ·)
theorem allO_isSome {α : Type} : ∀ rs : List (Option α), (allO rs).isSome = rs.all Option.isSome
  | [] => rfl
  | none :: _ => rfl
  | some x :: r => by
    show ((allO r).map (x :: ·)).isSome = _
    rw [Option.isSome_map, allO_isSome r]
    simp
inductive PapR (K : PySem.W.Frag) (H : Hp) (sz : Nat) : V → Option (List (List Bool × Int × Int)) → Prop
  | oth {v : V} (h : OthT K H v "tuple") : PapR K H sz v none
  | tup {a : Addr} {xs : List V} {rs : List (Option (List Bool × Int × Int))} (h : TpX H a xs) (l : xs.length ≤ 1000) (k : Paired (EntR K H sz) xs rs) : PapR K H sz (.ref a) (allO rs)
theorem PapR.same {K : PySem.W.Frag} {H H' : Hp} {sz : Nat} {v : V} {r : Option (List (List Bool × Int × Int))} (h : PapR K H sz v r) (s : Same H H') : PapR K H' sz v r := by
  cases h with
  | oth h => exact .oth (h.same s)
  | tup h l k => exact .tup (h.same s) l (L2.Paired.mapP k fun _ _ z => z.same s)
structure D5 where
  w : List Bool
  e : Addr
  t : Addr
  p : Int
  q : Int
structure EntAt (K : PySem.W.Frag) (H : Hp) (sz : Nat) (d : D5) : Prop where
  he : SqT K H d.e [.str (W d.w), .ref d.t]
  ht : SqT K H d.t [.int d.p, .int d.q]
  q0 : 0 < d.q
  q9 : d.q < 1000000000
  lw : d.w.length ≤ sz
theorem EntAt.same {K : PySem.W.Frag} {H H' : Hp} {sz : Nat} {d : D5} (h : EntAt K H sz d) (s : Same H H') : EntAt K H' sz d := ⟨same_tup s h.he, same_tup s h.ht, h.q0, h.q9, h.lw⟩
def d3 (d : D5) : List Bool × Int × Int := (d.w, d.p, d.q)
def kv5 (d : D5) : Key × V := (.inr (W d.w), .ref d.t)
theorem unW_len {z : Str} (h : isW z = true) : (unW z).length = z.length := by
  have e := isW_un h
  have := congrArg Str.length e
  rw [W_len] at this
  exact this.symm
theorem ValR.told {K : PySem.W.Frag} {H : Hp} {v : V} {p q : Int} (h : ValR K H v (some (p, q))) : ∃ a, v = .ref a ∧ SqT K H a [.int p, .int q] ∧ 0 < q ∧ q < 1000000000 := by
  generalize hr : (some (p, q) : Option (Int × Int)) = r at h
  cases h with
  | oth _ => cases hr
  | len _ _ _ => cases hr
  | bad _ _ _ _ => cases hr
  | @num a p' q' h q9 =>
    split at hr
    · rename_i c
      cases hr
      exact ⟨a, rfl, h, c.1, q9⟩
    · cases hr
theorem EntR.told {K : PySem.W.Frag} {H : Hp} {sz : Nat} {v : V} {x : List Bool × Int × Int} (h : EntR K H sz v (some x)) : ∃ d : D5, v = .ref d.e ∧ x = d3 d ∧ EntAt K H sz d := by
  generalize hr : (some x : Option (List Bool × Int × Int)) = r at h
  cases h with
  | oth _ => cases hr
  | len _ _ _ => cases hr
  | @pair a y z r h hx hy =>
    unfold entO at hr
    split at hr
    · rename_i zz
      split at hr
      · rename_i c
        cases r with
        | none => cases hr
        | some pq =>
          obtain ⟨p, q⟩ := pq
          cases hr
          obtain ⟨t, rfl, ht, q0, q9⟩ := hy.told
          exact ⟨⟨unW zz, a, t, p, q⟩, rfl, rfl, ⟨by rw [← isW_un c.1]; exact h, ht, q0, q9, by rw [unW_len c.1]; exact c.2⟩⟩
      · cases hr
    · cases hr
theorem ents_some {K : PySem.W.Frag} {H : Hp} {sz : Nat} : ∀ {xs : List V} {rs : List (Option (List Bool × Int × Int))} {es : List (List Bool × Int × Int)}, Paired (EntR K H sz) xs rs → allO rs = some es →
    ∃ ds : List D5, xs = ds.map (fun d => V.ref d.e) ∧ es = ds.map d3 ∧ ∀ d ∈ ds, EntAt K H sz d
  | _, _, _, .nil, e => by
    cases e
    exact ⟨[], rfl, rfl, fun _ h => nomatch h⟩
  | _, none :: _, _, .cons h t, e => by cases e
  | _, some x :: r, es, .cons h t, e => by
    have e' : (allO r).map (x :: ·) = some es := e
    cases hr : allO r with
    | none => rw [hr] at e'; cases e'
    | some es' =>
      rw [hr] at e'
      cases e'
      obtain ⟨d, rfl, rfl, hd⟩ := h.told
      obtain ⟨ds, rfl, rfl, hds⟩ := ents_some t hr
      exact ⟨d :: ds, rfl, rfl, fun u hu => (List.mem_cons.mp hu).elim (fun z => z ▸ hd) (hds u)⟩
def KeptB (ss : List Stf) (v0 v1 : Int) (es : List (List Bool × Int × Int)) (e : List Bool × Int × Int) (b : Bool) : Prop :=
  ∃ (x : List Bool) (P Q : Int), Ins ss (e.1 ++ [b]) x ∧ (tl (longM ss) (e.1 ++ [b] ++ x), P, Q) ∈ es ∧ (e.2.1 * v1 + ((x.length : Nat) * v1 - v0) * e.2.2) * Q ≤ P * (e.2.2 * v1)
def HoldP (ss : List Stf) (v0 v1 : Int) (es : List (List Bool × Int × Int)) : Prop := (es.map (·.1)).Nodup ∧ [] ∈ es.map (·.1) ∧ ∀ e ∈ es, ∀ b, KeptB ss v0 v1 es e b
theorem key5_ne {u v : List Bool} (h : u ≠ v) : (.inr (W u) : Key) ≠ .inr (W v) := fun z => h (W_inj (Sum.inr.inj z))
theorem merge_snoc (l : List (Key × V)) (kv : Key × V) : mergeK [] (l ++ [kv]) = putK (mergeK [] l) kv.1 kv.2 := by
  unfold mergeK
  rw [List.foldl_append]
  rfl
theorem put_keys (kvs : List (Key × V)) (k : Key) (v : V) : ∀ x, x ∈ (putK kvs k v).map (·.1) ↔ x ∈ kvs.map (·.1) ∨ x = k := fun x => by
  unfold putK
  split
  · rename_i c
    have hk : k ∈ kvs.map (·.1) := by
      rw [List.any_eq_true] at c
      obtain ⟨p, hp, e⟩ := c
      exact List.mem_map.mpr ⟨p, hp, of_decide_eq_true e⟩
    have e : (kvs.map fun kv => if kv.1 = k then (kv.1, v) else kv).map (·.1) = kvs.map (·.1) := by
      rw [List.map_map]
      refine List.map_congr_left fun p _ => ?_
      show (if p.1 = k then (p.1, v) else p).1 = p.1
      split <;> rfl
    rw [e]
    exact ⟨.inl, fun h => h.elim id fun z => z ▸ hk⟩
  · rw [List.map_append]
    simp
theorem merge_nodup : ∀ (l : List (Key × V)), (l.map (·.1)).Nodup → mergeK [] l = l := by
  have gen : ∀ (l acc : List (Key × V)), ((acc ++ l).map (·.1)).Nodup → mergeK acc l = acc ++ l := by
    intro l
    induction l with
    | nil => intro acc _; rw [List.append_nil]; rfl
    | cons p r ih =>
      intro acc h
      show mergeK (putK acc p.1 p.2) r = _
      have hn : valV acc p.1 = none := by
        cases e : valV acc p.1 with
        | none => rfl
        | some y =>
          have h2 : (acc.any fun kv => decide (kv.1 = p.1)) = true := by rw [valV_any, e]; rfl
          rw [List.any_eq_true] at h2
          obtain ⟨q, hq, e2⟩ := h2
          rw [List.map_append, List.nodup_append] at h
          exact absurd (of_decide_eq_true e2) (h.2.2 q.1 (List.mem_map.mpr ⟨q, hq, rfl⟩) p.1 List.mem_cons_self)
      rw [putK_new _ hn, ih (acc ++ [(p.1, p.2)]) (by rw [List.append_assoc]; exact h), List.append_assoc]
      rfl
  exact fun l h => gen l [] h
theorem merge_len_lt : ∀ (l : List (Key × V)), ¬ (l.map (·.1)).Nodup → (mergeK [] l).length < l.length := by
  have gen : ∀ (l acc : List (Key × V)), (acc.map (·.1)).Nodup → ¬ ((acc ++ l).map (·.1)).Nodup → (mergeK acc l).length < acc.length + l.length := by
    intro l
    induction l with
    | nil => intro acc h1 h2; rw [List.append_nil] at h2; exact absurd h1 h2
    | cons p r ih =>
      intro acc h1 h2
      show (mergeK (putK acc p.1 p.2) r).length < _
      cases e : valV acc p.1 with
      | none =>
        have hn : p.1 ∉ acc.map (·.1) := fun hm => by
          obtain ⟨q, hq, e2⟩ := List.mem_map.mp hm
          have h3 : (acc.any fun kv => decide (kv.1 = p.1)) = true := List.any_eq_true.mpr ⟨q, hq, decide_eq_true e2⟩
          rw [valV_any, e] at h3
          cases h3
        rw [putK_new _ e]
        have := ih (acc ++ [(p.1, p.2)]) (by
          rw [List.map_append, List.nodup_append]
          exact ⟨h1, by simp, fun a ha b hb z => hn (by have e3 := List.mem_singleton.mp hb; rw [z, e3] at ha; exact ha)⟩) (by rw [List.append_assoc]; exact h2)
        rw [List.length_append] at this
        simp only [List.length_cons, List.length_nil] at this ⊢
        omega
      | some y =>
        have h3 : (acc.any fun kv => decide (kv.1 = p.1)) = true := by rw [valV_any, e]; rfl
        have hl : (putK acc p.1 p.2).length = acc.length := by
          unfold putK
          rw [if_pos h3, List.length_map]
        have := length_mergeK r (putK acc p.1 p.2)
        rw [hl] at this
        rw [List.length_cons]
        omega
  exact fun l h => by
    have := gen l [] List.nodup_nil h
    rw [List.length_nil, Nat.zero_add] at this
    exact this
theorem keys5 (ds : List D5) : (ds.map kv5).map (·.1) = (ds.map (·.w)).map fun w => (.inr (W w) : Key) := by rw [List.map_map, List.map_map]; rfl
theorem nodup5 (ds : List D5) : ((ds.map kv5).map (·.1)).Nodup ↔ (ds.map (·.w)).Nodup := by
  rw [keys5]
  refine ⟨fun h => ?_, fun h => ?_⟩
  · rw [List.Nodup, List.pairwise_map] at h
    exact List.Pairwise.imp (fun {a b} hab z => hab (by rw [z])) h
  rw [List.Nodup, List.pairwise_map]
  exact List.Pairwise.imp (fun {a b} hab => key5_ne hab) h
theorem val5_in : ∀ {ds : List D5} {d : D5}, (ds.map (·.w)).Nodup → d ∈ ds → valV (ds.map kv5) (.inr (W d.w)) = some (.ref d.t)
  | e :: r, d, hn, h => by
    rw [List.map_cons, List.nodup_cons] at hn
    rcases List.mem_cons.mp h with rfl | h
    · exact valV_pos rfl
    · rw [List.map_cons, valV_neg (fun z => hn.1 (by
        have : e.w = d.w := W_inj (Sum.inr.inj z)
        rw [this]
        exact List.mem_map.mpr ⟨d, h, rfl⟩))]
      exact val5_in hn.2 h
theorem val5_out : ∀ {ds : List D5} {u : List Bool}, u ∉ ds.map (·.w) → valV (ds.map kv5) (.inr (W u)) = none
  | [], _, _ => rfl
  | e :: r, u, h => by
    rw [List.map_cons, List.mem_cons, not_or] at h
    rw [List.map_cons, valV_neg (fun z => h.1 (W_inj (Sum.inr.inj z)).symm)]
    exact val5_out h.2
theorem w_of (ds : List D5) : (ds.map d3).map (·.1) = ds.map (·.w) := by rw [List.map_map]; rfl
end U
set_option maxRecDepth 100000
set_option maxHeartbeats 4000000
namespace U
open PySem PySem.Spec PyProof.Rows
open L2 hiding Fun CX0 E0 pass0 Fun.binds
open C8 Lx SX StX
def spIntX (K : PySem.W.Frag) : Sp := fun vs H Q _ => ∃ (v : V) (r : Option Int), vs = [v] ∧ IntR K H v r ∧ ∀ H', Same H H' → Q (.bl r.isSome) H'
def spValX (K : PySem.W.Frag) : Sp := fun vs H Q _ => ∃ (v : V) (r : Option (Int × Int)), vs = [v] ∧ ValR K H v r ∧ ∀ H', Same H H' → Q (.bl r.isSome) H'
def spEntX (K : PySem.W.Frag) (C : Addr) : Sp := fun vs H Q _ => ∃ (a : Addr) (f : List Bool) (ss : List Stf) (v : V) (r : Option (List Bool × Int × Int)), vs = [.ref a, v] ∧ RuAt C H a f ss ∧ StOk ss ∧ EntR K H (longM ss) v r ∧ ∀ H', Same H H' → Q (.bl r.isSome) H'
def spMoveX (C : Addr) : Sp := fun vs H Q _ => ∃ (a : Addr) (f : List Bool) (ss : List Stf) (t : List Bool) (b : Bool), vs = [.ref a, .str (W t), .str (W [b])] ∧ RuAt C H a f ss ∧ StOk ss ∧ ss.length ≤ 2 ∧ t.length ≤ 1000 ∧
  (∀ H', Same H H' → (∀ x, ¬ Ins ss (t ++ [b]) x) → Q .non H') ∧ ∀ x p H', Ins ss (t ++ [b]) x → H p = none → Same H H' → H' p = some (.tup [.int (x.length : Nat), .str (W (tl (longM ss) (t ++ [b] ++ x)))]) → Q (.ref p) H'
def spAtMostX (K : PySem.W.Frag) : Sp := fun vs H Q _ => ∃ (a b : Addr) (p q r s : Int), vs = [.ref a, .ref b] ∧ SqT K H a [.int p, .int q] ∧ SqT K H b [.int r, .int s] ∧ 0 < q ∧ q ≤ 2000000000000000000 ∧ 0 < s ∧ s ≤ 2000000000000000000 ∧ Q (.bl (decide (p * s ≤ r * q))) H
def spKeptX (K : PySem.W.Frag) (C : Addr) : Sp := fun vs H Q _ => ∃ (a tv D : Addr) (f : List Bool) (ss : List Stf) (ds : List D5) (d : D5) (v0 v1 : Int), vs = [.ref a, .ref tv, .ref D, .str (W d.w)] ∧ RuAt C H a f ss ∧ StOk ss ∧ ss.length ≤ 2 ∧
  SqT K H tv [.int v0, .int v1] ∧ 0 < v1 ∧ v1 < 1000000000 ∧ Rd H D (.dK (ds.map kv5)) ∧ (ds.map (·.w)).Nodup ∧ (∀ d ∈ ds, EntAt K H (longM ss) d) ∧ d ∈ ds ∧
  ∀ c H', (c = true ↔ ∀ b, KeptB ss v0 v1 (ds.map d3) (d3 d) b) → Same H H' → Q (.bl c) H'
def spPapX (K : PySem.W.Frag) (C : Addr) : Sp := fun vs H Q _ => ∃ (a tv : Addr) (v : V) (f : List Bool) (ss : List Stf) (v0 v1 : Int) (r : Option (List (List Bool × Int × Int))), vs = [.ref a, .ref tv, v] ∧ RuAt C H a f ss ∧ StOk ss ∧ ss.length ≤ 2 ∧
  SqT K H tv [.int v0, .int v1] ∧ 0 < v1 ∧ v1 < 1000000000 ∧ PapR K H (longM ss) v r ∧ ∀ c H', (c = true ↔ ∃ es, r = some es ∧ HoldP ss v0 v1 es) → Same H H' → Q (.bl c) H'
theorem sq_ty {K : PySem.W.Frag} {H : Hp} {a : Addr} {xs : List V} (h : SqT K H a xs) : TyX K H (.ref a) (.type "tuple") := by
  rcases h with (h | ⟨o, h⟩) | ⟨o, _, _, h, c, _⟩
  · exact .base (.tup h)
  · exact .fTuple h
  · exact .kTuple h c
theorem kb_iff {c : Bool} {p : Prop} (h : c = true ↔ p) (hn : ¬ p) : c = false := by
  cases c with
  | false => rfl
  | true => exact absurd (h.mp rfl) hn
theorem eq_low {p q : Int} {g : Nat} (q0 : 0 < q) (hg : 0 < g) : PyData.eqv (.tuple [.int (p / (g : Nat)), .int (q / (g : Nat))]) (.tuple [.int p, .int q]) = decide (g = 1) := by
  by_cases c : g = 1
  · subst c
    rw [Int.natCast_one, Int.ediv_one, Int.ediv_one, decide_eq_true rfl]
    exact SeqAt.eqv_refl (.tuple [.int p, .int q]) rfl
  · rw [decide_eq_false c]
    have h : q / (g : Nat) < q := Int.ediv_lt_of_lt_mul (by omega) (by
      have := Int.mul_lt_mul_of_pos_left (show (1 : Int) < (g : Nat) by omega) q0
      omega)
    show (_ && (decide (q / (g : Nat) = q) && true)) = false
    rw [decide_eq_false (by omega)]
    exact Bool.and_false _
section
variable {P : Program} {w : World} {K : PySem.W.Frag} {mg : Str → Option Value} {base : Heap}
theorem sc_is_integer : FnScope ["value"] ["value"] (fnScope s_is_integer) := fnScope_by (by decide +kernel)
theorem cal_is_integer {f : Addr} {fd : FuncData} (F : Def K mg "is_integer" s_is_integer f fd) (b : Binds K fd ["value"] []) (T : Tx mg) : Cal P w K mg base 1 "is_integer" (spIntX K) [] := by
  refine cal0 F b .nil sc_is_integer (fun vs H Q E h => ?_) (fun cdv A outer s H vs Q E hr h => ?_)
  · obtain ⟨_, _, rfl, _⟩ := h; rfl
  · obtain ⟨v, r, rfl, hv, k⟩ := h
    refine ⟨_, (pss_one (ps_ret (pe_and (pe_callB call_isi (by rfl) T.b_isinstance (by decide +kernel) (pa_cons (pv 0) (pa_cons (pe_bltn (v := .ty "int") (u := .type "int") (by rfl) T.b_int (by decide +kernel) rfl) pa_nil))) (pe_one (pe_not (pe_callB call_isi (by rfl) T.b_isinstance (by decide +kernel) (pa_cons (pv 0) (pa_cons (pe_bltn (v := .ty "bool") (u := .type "bool") (by rfl) T.b_bool (by decide +kernel) rfl) pa_nil)))))))), ?_⟩
    cases hv with
    | int i =>
      refine ⟨_, rfl, _, _, _, _, true, rfl, .ty _, .base (.int i), kit_ty (by decide +kernel), _, rfl, ?_⟩
      refine ⟨_, rfl, _, _, _, _, false, rfl, .ty _, .base (.int i), kit_ty (by decide +kernel), _, rfl, ?_⟩
      exact k H (Same.refl H)
    | bl x =>
      refine ⟨_, rfl, _, _, _, _, true, rfl, .ty _, .base (.bl x), kit_ty (by decide +kernel), _, rfl, ?_⟩
      refine ⟨_, rfl, _, _, _, _, true, rfl, .ty _, .base (.bl x), kit_ty (by decide +kernel), _, rfl, ?_⟩
      exact k H (Same.refl H)
    | oth h =>
      obtain ⟨t, h1, h2⟩ := h
      refine ⟨_, rfl, _, _, _, _, false, rfl, .ty _, h1 H (Same.refl H), h2, _, rfl, ?_⟩
      exact k H (Same.refl H)
theorem sc_is_value : FnScope ["value"] ["value"] (fnScope s_is_value) := fnScope_by (by decide +kernel)
theorem cal_is_value {f : Addr} {fd : FuncData} (F : Def K mg "is_value" s_is_value f fd) (b : Binds K fd ["value"] []) (T : Tx mg) (c_is_integer : Cal P w K mg base 1 "is_integer" (spIntX K) []) (c_lowest : Cal P w K mg base 2 "lowest" spLowest []) : Cal P w K mg base 3 "is_value" (spValX K) [] := by
  refine cal0 F b .nil sc_is_value (fun vs H Q E h => ?_) (fun cdv A outer s H vs Q E hr h => ?_)
  · obtain ⟨_, _, rfl, _⟩ := h; rfl
  · obtain ⟨v, r, rfl, hv, k⟩ := h
    refine ⟨_, (pss_cons (ps_if (PW.pt (pw_or (pt_not (pt_val (pe_callB call_isi (by rfl) T.b_isinstance (by decide +kernel) (pa_cons (pv 0) (pa_cons (pe_bltn (v := .ty "tuple") (u := .type "tuple") (by rfl) T.b_tuple (by decide +kernel) rfl) pa_nil))))) (pw_or (pt_cmpR op_ne (pe_callB call_len_seq (by rfl) T.b_len (by decide +kernel) (pa_cons (pv 0) pa_nil)) pe_int (nomark _)) (pw_or (pt_not (pt_val (pe_c c_is_integer hr (by decide) rfl (pa_cons (pe_ix ix_tup (pv 0) pe_int (fun _ _ => rfl)) pa_nil)))) (pw_or1 (pt_not (pt_val (pe_c c_is_integer hr (by decide) rfl (pa_cons (pe_ix ix_tup (pv 0) pe_int (fun _ _ => rfl)) pa_nil))))))))) (pss_one (ps_ret pe_bl)) pss_nil)
    (pss_one (ps_ret (pe_and (pe_cmpR op_gt (pe_ix ix_tup (pv 0) pe_int (fun _ _ => rfl)) pe_int (nomark _)) (pe_one (pe_cmpR (op_eqD hr.units) (pe_c c_lowest hr (by decide) rfl (pa_cons (pe_ix ix_tup (pv 0) pe_int (fun _ _ => rfl)) (pa_cons (pe_ix ix_tup (pv 0) pe_int (fun _ _ => rfl)) pa_nil))) (pv 0) (nomark _))))))), ?_⟩
    cases hv with
    | oth h =>
      obtain ⟨t, h1, h2⟩ := h
      refine ⟨_, rfl, _, _, _, _, false, rfl, .ty _, h1 H (Same.refl H), h2, _, rfl, iteT ?_⟩
      exact k H (Same.refl H)
    | @len t xs ht n l =>
      refine ⟨_, rfl, _, _, _, _, true, rfl, .ty _, sq_ty ht, kit_ty (by decide +kernel), _, rfl, iteF ?_⟩
      refine ⟨_, rfl, t, _, rfl, .inr ht, rfl, _, rfl, iteNT (fun z => n (by have := V.int.inj z; omega)) ?_⟩
      exact k H (Same.refl H)
    | @bad t x y rx ry ht hx hy n =>
      refine ⟨_, rfl, _, _, _, _, true, rfl, .ty _, sq_ty ht, kit_ty (by decide +kernel), _, rfl, iteF ?_⟩
      refine ⟨_, rfl, t, _, rfl, .inr ht, rfl, _, rfl, iteF ?_⟩
      refine ⟨_, rfl, t, _, _, _, rfl, rfl, ht, atI_nat (j := 0) rfl, x, rx, rfl, hx, fun H1 s1 => ?_⟩
      cases rx with
      | none => exact ⟨_, rfl, iteT (k H1 s1)⟩
      | some i =>
        have n : ry = none := n.elim (fun z => nomatch z) id
        subst n
        refine ⟨_, rfl, iteF ?_⟩
        refine ⟨_, rfl, t, _, _, _, rfl, rfl, same_tup s1 ht, atI_nat (j := 1) rfl, y, none, rfl, hy.same s1, fun H2 s2 => ?_⟩
        exact ⟨_, rfl, iteT (k H2 (s1.trans s2))⟩
    | @num t p q ht q9 =>
      refine ⟨_, rfl, _, _, _, _, true, rfl, .ty _, sq_ty ht, kit_ty (by decide +kernel), _, rfl, iteF ?_⟩
      refine ⟨_, rfl, t, _, rfl, .inr ht, rfl, _, rfl, iteF ?_⟩
      refine ⟨_, rfl, t, _, _, _, rfl, rfl, ht, atI_nat (j := 0) rfl, _, some p, rfl, .int p, fun H1 s1 => ⟨_, rfl, iteF ?_⟩⟩
      refine ⟨_, rfl, t, _, _, _, rfl, rfl, same_tup s1 ht, atI_nat (j := 1) rfl, _, some q, rfl, .int q, fun H2 s2 => ⟨_, rfl, iteF ?_⟩⟩
      have s12 := s1.trans s2
      have ht2 := same_tup s12 ht
      refine ⟨_, rfl, t, _, _, _, rfl, rfl, ht2, atI_nat (j := 1) rfl, _, _, rfl, rfl, _, rfl, ?_⟩
      by_cases q0 : 0 < q
      · refine iteDT q0 ?_
        obtain ⟨n, rfl⟩ := Int.eq_ofNat_of_zero_le (Int.le_of_lt q0)
        refine ⟨_, rfl, t, _, _, _, rfl, rfl, ht2, atI_nat (j := 0) rfl, _, rfl, t, _, _, _, rfl, rfl, ht2, atI_nat (j := 1) rfl, p, n, rfl, by omega, by omega, fun t1 H3 nt s3 ht1 => ?_⟩
        have g0 : 0 < Nat.gcd p.natAbs n := Nat.gcd_pos_of_pos_right _ (by omega)
        have ht3 := same_tup s3 ht2
        refine ⟨_, rfl, .tuple [.int (p / (Nat.gcd p.natAbs n : Nat)), .int ((n : Int) / (Nat.gcd p.natAbs n : Nat))], .tuple [.int p, .int n], .tup (SqT.of ht1) (.cons (.int _) (.cons (.int _) .nil)), .tup ht3 (.cons (.int _) (.cons (.int _) .nil)), rfl, rfl, ?_⟩
        rw [eq_low q0 g0]
        have := k H3 (s12.trans s3)
        by_cases c : Nat.gcd p.natAbs n = 1
        · rw [if_pos ⟨q0, c⟩] at this
          rw [decide_eq_true c]
          exact this
        · rw [if_neg (fun z => c z.2)] at this
          rw [decide_eq_false c]
          exact this
      · refine iteDF q0 ?_
        have := k H2 s12
        rw [if_neg (fun z => q0 z.1)] at this
        exact this
theorem sc_is_entry : FnScope ["rule", "value"] ["rule", "value"] (fnScope s_is_entry) := fnScope_by (by decide +kernel)
theorem cal_is_entry {f C : Addr} {fd : FuncData} (F : Def K mg "is_entry" s_is_entry f fd) (b : Binds K fd ["rule", "value"] []) (T : Tx mg) (RT : RuT K C) (c_is_word : Cal P w K mg base 1 "is_word" (spIsWord K) []) (p_longest : Prp P w K mg base 1 C "longest" (spLongest C)) (c_is_value : Cal P w K mg base 3 "is_value" (spValX K) []) : Cal P w K mg base 4 "is_entry" (spEntX K C) [] := by
  refine cal0 F b .nil sc_is_entry (fun vs H Q E h => ?_) (fun cdv A outer s H vs Q E hr h => ?_)
  · obtain ⟨_, _, _, _, _, rfl, _⟩ := h; rfl
  · obtain ⟨a, fl, ss, v, r, rfl, hR, ok, hv, k⟩ := h
    refine ⟨_, (pss_cons (ps_if (PW.pt (pw_or (pt_not (pt_val (pe_callB call_isi (by rfl) T.b_isinstance (by decide +kernel) (pa_cons (pv 1) (pa_cons (pe_bltn (v := .ty "tuple") (u := .type "tuple") (by rfl) T.b_tuple (by decide +kernel) rfl) pa_nil))))) (pw_or (pt_cmpR op_ne (pe_callB call_len_seq (by rfl) T.b_len (by decide +kernel) (pa_cons (pv 1) pa_nil)) pe_int (nomark _)) (pw_or1 (pt_not (pt_val (pe_c c_is_word hr (by decide) rfl (pa_cons (pe_ix ix_tup (pv 1) pe_int (fun _ _ => rfl)) pa_nil)))))))) (pss_one (ps_ret pe_bl)) pss_nil)
    (pss_one (ps_ret (pe_and (pe_cmpR op_le (pe_callB call_len_str (by rfl) T.b_len (by decide +kernel) (pa_cons (pe_ix ix_tup (pv 1) pe_int (fun _ _ => rfl)) pa_nil)) (pe_pr p_longest hr (by decide) (pv 0)) (nomark _)) (pe_one (pe_c c_is_value hr (by decide) rfl (pa_cons (pe_ix ix_tup (pv 1) pe_int (fun _ _ => rfl)) pa_nil))))))), ?_⟩
    cases hv with
    | oth h =>
      obtain ⟨t, h1, h2⟩ := h
      refine ⟨_, rfl, _, _, _, _, false, rfl, .ty _, h1 H (Same.refl H), h2, _, rfl, iteT ?_⟩
      exact k H (Same.refl H)
    | @len t xs ht n l =>
      refine ⟨_, rfl, _, _, _, _, true, rfl, .ty _, sq_ty ht, kit_ty (by decide +kernel), _, rfl, iteF ?_⟩
      refine ⟨_, rfl, t, _, rfl, .inr ht, rfl, _, rfl, iteNT (fun z => n (by have := V.int.inj z; omega)) ?_⟩
      exact k H (Same.refl H)
    | @pair e x y r he hx hy =>
      have l9 := ok.long
      refine ⟨_, rfl, _, _, _, _, true, rfl, .ty _, sq_ty he, kit_ty (by decide +kernel), _, rfl, iteF ?_⟩
      refine ⟨_, rfl, e, _, rfl, .inr he, rfl, _, rfl, iteF ?_⟩
      refine ⟨_, rfl, e, _, _, _, rfl, rfl, he, atI_nat (j := 0) rfl, ?_⟩
      dsimp only [tNil, List.append_nil]
      refine spIsWord.any hx fun H1 s1 => ?_
      cases ew : wordB x with
      | false =>
        refine ⟨_, rfl, iteT ?_⟩
        have := k H1 s1
        rw [show entO (longM ss) x r = none by
          unfold entO
          split
          · rename_i z
            have ew : isW z = false := ew
            rw [if_neg (by rw [ew]; exact fun z => nomatch z.1)]
          · rfl] at this
        exact this
      | true =>
        refine ⟨_, rfl, iteF ?_⟩
        obtain ⟨wd, rfl⟩ := wordB_some ew
        have lwd : (W wd).length = wd.length := W_len wd
        have lw9 : (W wd).length ≤ 10000 := by
          rcases hx with ⟨z, ez, hz, _⟩ | ⟨h1, _⟩
          · rw [V.str.inj ez]; exact hz
          · exact absurd rfl (h1 _)
        obtain ⟨d1, t1, _, _, ha1, _⟩ := id (hR.same s1)
        refine ⟨_, rfl, e, _, _, _, rfl, rfl, same_tup s1 he, atI_nat (j := 0) rfl, _, rfl, by exact sl_len (by omega), ?_⟩
        refine ⟨_, rfl, a, d1, _, rfl, ha1, a, fl, ss, rfl, hR.same s1, ok.few, fun s hs => Nat.le_trans (ok.l9 s hs) (by decide), fun H2 s2 => ?_⟩
        have s12 := s1.trans s2
        refine ⟨_, _, rfl, rfl, _, rfl, ?_⟩
        by_cases c : (W wd).length ≤ longM ss
        · refine iteDT (by omega) ?_
          refine ⟨_, rfl, e, _, _, _, rfl, rfl, same_tup s12 he, atI_nat (j := 1) rfl, y, r, rfl, hy.same s12, fun H3 s3 => ?_⟩
          have := k H3 (s12.trans s3)
          rw [show (entO (longM ss) (.str (W wd)) r).isSome = r.isSome by
            show (if isW (W wd) = true ∧ (W wd).length ≤ longM ss then r.map fun pq => (unW (W wd), pq) else none).isSome = _
            rw [if_pos ⟨isW_W wd, c⟩, Option.isSome_map]] at this
          exact this
        · refine iteDF (by omega) ?_
          have := k H2 s12
          rw [show entO (longM ss) (.str (W wd)) r = none by
            show (if isW (W wd) = true ∧ (W wd).length ≤ longM ss then r.map fun pq => (unW (W wd), pq) else none) = _
            rw [if_neg (fun z => c z.2)]] at this
          exact this
theorem cal_is_at_mostX {f : Addr} {fd : FuncData} (F : Def K mg "is_at_most" s_is_at_most f fd) (b : Binds K fd ["one", "two"] []) (T : Tx mg) : Cal P w K mg base 1 "is_at_most" (spAtMostX K) [] := by
  refine cal0 F b .nil sc_is_at_most (fun vs H Q E h => ?_) (fun cdv A outer s H vs Q E hr h => ?_)
  · obtain ⟨_, _, _, _, _, _, rfl, _⟩ := h; rfl
  · obtain ⟨a, a2, p, q, r, s, rfl, h1, h2, q0, q9, s0, s9, k⟩ := h
    refine ⟨_, (pss_one (ps_ret (pe_cmpR op_le (pe_op op_mul (pe_ix ix_tup (pv 0) pe_int (fun _ _ => rfl)) (pe_ix ix_tup (pv 1) pe_int (fun _ _ => rfl))) (pe_op op_mul (pe_ix ix_tup (pv 1) pe_int (fun _ _ => rfl)) (pe_ix ix_tup (pv 0) pe_int (fun _ _ => rfl))) (nomark _)))), ?_⟩
    refine ⟨_, rfl, a, _, _, _, rfl, rfl, h1, atI_nat (j := 0) rfl, _, rfl, a2, _, _, _, rfl, rfl, h2, atI_nat (j := 1) rfl, _, _, rfl, rfl, .inr ⟨by omega, by omega⟩, ?_⟩
    refine ⟨_, rfl, a2, _, _, _, rfl, rfl, h2, atI_nat (j := 0) rfl, _, rfl, a, _, _, _, rfl, rfl, h1, atI_nat (j := 1) rfl, _, _, rfl, rfl, .inr ⟨by omega, by omega⟩, ?_⟩
    exact ⟨_, _, rfl, rfl, k⟩
theorem cal_moveX {f C : Addr} {fd : FuncData} (F : Def K mg "move" s_move f fd) (b : Binds K fd ["rule", "standing", "bit"] []) (T : Tx mg) (RT : RuT K C) (c_put_inX : Met P w K mg base 3 C "put_in" (spPutInX C) []) (c_tail : Cal P w K mg base 1 "tail" spTail []) (p_longest : Prp P w K mg base 1 C "longest" (spLongest C)) : Cal P w K mg base 4 "move" (spMoveX C) [] := by
  refine cal0 F b .nil sc_move (fun vs H Q E h => ?_) (fun cdv A outer s H vs Q E hr h => ?_)
  · obtain ⟨_, _, _, _, _, rfl, _⟩ := h; rfl
  · obtain ⟨a, fl, ss, t, b, rfl, hR, ok, l2, lt, k0, k⟩ := h
    have c_put_in := c_put_inX
    refine ⟨_, (pss_cons (ps_set (i := 3) sc_move.nd rfl (.inl rfl) (pe_mt (pl := _) c_put_in hr (by decide) (pv 0) (pa_cons (pe_op op_add_str (pv 1) (pv 2)) pa_nil)))
    (pss_cons (ps_if (pt_cmpR op_isN (pv 3) pe_non (nomark _)) (pss_one (ps_ret pe_non)) pss_nil)
    (pss_one (ps_ret (pe_tup (pa_cons (pe_callB call_len_str (by rfl) T.b_len (by decide +kernel) (pa_cons (pv 3) pa_nil)) (pa_cons (pe_c c_tail hr (by decide) rfl (pa_cons (pe_op op_add_str (pe_op op_add_str (pv 1) (pv 2)) (pv 3)) (pa_cons (pe_pr p_longest hr (by decide) (pv 0)) pa_nil))) pa_nil))))))), ?_⟩
    obtain ⟨da, ta, _, _, ha, _⟩ := id hR
    have lwt : (W t).length = t.length := W_len _
    have lwb : (W [b]).length = 1 := W_len _
    have e1 : W t ++ W [b] = W (t ++ [b]) := W_cat _ _
    refine ⟨_, rfl, a, da, _, rfl, ha, ruF_no _ _ (by decide +kernel) (by decide +kernel), _, rfl, _, rfl, _, _, rfl, rfl, by rw [lwt, lwb]; exact sl_len (by omega), ?_⟩
    rw [e1]
    have lt1 : (t ++ [b]).length = t.length + 1 := by rw [List.length_append]; rfl
    refine ⟨a, fl, ss, t ++ [b], rfl, hR, ok.few, ok.long, by omega, fun o H1 ho s1 => ?_⟩
    cases o with
    | none =>
      refine ⟨_, rfl, rfl, _, rfl, iteT ?_⟩
      exact k0 H1 s1 (ho.2 rfl)
    | some x =>
      have hx := ho.1 x rfl
      have lx := chain3 ok.free l2 hx
      have lwx : (W x).length = x.length := W_len _
      refine ⟨_, rfl, rfl, _, rfl, iteF ?_⟩
      refine ⟨_, rfl, _, rfl, by rw [lwx]; exact sl_len (by omega), ?_⟩
      refine ⟨_, rfl, _, rfl, _, _, rfl, rfl, by rw [lwt, lwb]; exact sl_len (by omega), ?_⟩
      rw [e1]
      refine ⟨_, rfl, _, _, rfl, rfl, by rw [W_len, lwx]; exact sl_len (by omega), ?_⟩
      rw [W_cat]
      have hR1 := hR.same s1
      obtain ⟨d1, t1, _, _, ha1, _⟩ := id hR1
      refine ⟨_, rfl, a, d1, _, rfl, ha1, a, fl, ss, rfl, hR1, ok.few, fun s hs => Nat.le_trans (ok.l9 s hs) (by decide), fun H2 s2 => ?_⟩
      refine ⟨t ++ [b] ++ x, longM ss, rfl, by rw [List.length_append]; omega, by show 2 ≤ sizeLine; decide, fun p np => ?_⟩
      refine k x p _ hx ((s1.trans s2).free np) ((s1.trans s2).trans (same_upd np)) ?_
      rw [upd_same, W_len]
end
theorem memD5 {ds : List D5} (nd : (ds.map (·.w)).Nodup) {d : D5} (hd : d ∈ ds) {P Q : Int} (h : (d.w, P, Q) ∈ ds.map d3) : P = d.p ∧ Q = d.q := by
  obtain ⟨e, he, ee⟩ := List.mem_map.mp h
  have ew : e.w = d.w := congrArg (·.1) ee
  have : e = d := by
    have h1 := val5_in nd he
    have h2 := val5_in nd hd
    obtain ⟨i, hi⟩ := List.getElem?_of_mem he
    obtain ⟨j, hj⟩ := List.getElem?_of_mem hd
    have hi2 : (ds.map (·.w))[i]? = some e.w := by rw [List.getElem?_map, hi]; rfl
    have hj2 : (ds.map (·.w))[j]? = some e.w := by rw [List.getElem?_map, hj, ew]; rfl
    have ij := (List.getElem?_inj (List.getElem?_eq_some_iff.mp hi2).1 nd).mp (hi2.trans hj2.symm)
    rw [ij, hj] at hi
    exact (Option.some.inj hi).symm
  subst this
  have e2 : (e.p, e.q) = (P, Q) := congrArg (·.2) ee
  exact ⟨(congrArg (·.1) e2).symm, (congrArg (·.2) e2).symm⟩
theorem kept_of {ss : List Stf} {v0 v1 : Int} {ds : List D5} (nd : (ds.map (·.w)).Nodup) {d e : D5} (he : e ∈ ds) {b : Bool} {x : List Bool} (hx : Ins ss (d.w ++ [b]) x) (ew : e.w = tl (longM ss) (d.w ++ [b] ++ x)) :
    KeptB ss v0 v1 (ds.map d3) (d3 d) b ↔ (d.p * v1 + ((x.length : Nat) * v1 - v0) * d.q) * e.q ≤ e.p * (d.q * v1) := by
  constructor
  · rintro ⟨y, P, Q, hy, hm, h⟩
    have : y = x := hy.det hx
    subst this
    have hm : (tl (longM ss) (d.w ++ [b] ++ y), P, Q) ∈ ds.map d3 := hm
    rw [← ew] at hm
    obtain ⟨rfl, rfl⟩ := memD5 nd he hm
    exact h
  · intro h
    exact ⟨x, e.p, e.q, hx, List.mem_map.mpr ⟨e, he, by show (e.w, _, _) = _; rw [ew]; rfl⟩, h⟩
theorem kept_no {ss : List Stf} {v0 v1 : Int} {ds : List D5} {d : D5} {b : Bool} {x : List Bool} (hx : Ins ss (d.w ++ [b]) x) (h : tl (longM ss) (d.w ++ [b] ++ x) ∉ ds.map (·.w)) : ¬ KeptB ss v0 v1 (ds.map d3) (d3 d) b := by
  rintro ⟨y, P, Q, hy, hm, _⟩
  have : y = x := hy.det hx
  subst this
  refine h ?_
  rw [← w_of]
  exact List.mem_map.mpr ⟨_, hm, rfl⟩
open Classical in
noncomputable def kbB (ss : List Stf) (v0 v1 : Int) (es : List (List Bool × Int × Int)) (d : D5) : Bool := decide (∀ b, KeptB ss v0 v1 es (d3 d) b)
open Classical in
theorem kbB_eq {ss : List Stf} {v0 v1 : Int} {es : List (List Bool × Int × Int)} {d : D5} {c : Bool} (h : c = true ↔ ∀ b, KeptB ss v0 v1 es (d3 d) b) : c = kbB ss v0 v1 es d := by
  unfold kbB
  by_cases g : ∀ b, KeptB ss v0 v1 es (d3 d) b
  · rw [h.mpr g, decide_eq_true g]
  · rw [decide_eq_false g]
    exact kb_iff h g
open Classical in
theorem kbB_iff {ss : List Stf} {v0 v1 : Int} {es : List (List Bool × Int × Int)} {d : D5} : kbB ss v0 v1 es d = true ↔ ∀ b, KeptB ss v0 v1 es (d3 d) b := by unfold kbB; exact decide_eq_true_iff
section
variable {P : Program} {w : World} {K : PySem.W.Frag} {mg : Str → Option Value} {base : Heap}
theorem sc_is_kept : FnScope ["rule", "value", "heights", "here", "bit", "told", "many", "there", "p", "q"] ["rule", "value", "heights", "here"] (fnScope s_is_kept) := fnScope_by (by decide +kernel)
theorem cal_is_kept {f C : Addr} {fd : FuncData} {tB : Tok} (F : Def K mg "is_kept" s_is_kept f fd) (b : Binds K fd ["rule", "value", "heights", "here"] []) (T : Tx mg) (g_BITS : mg "BITS" = some (.str "01" tB)) (c_moveX : Cal P w K mg base 4 "move" (spMoveX C) []) (c_is_at_mostX : Cal P w K mg base 1 "is_at_most" (spAtMostX K) []) : Cal P w K mg base 5 "is_kept" (spKeptX K C) [] := by
  refine cal0 F b .nil sc_is_kept (fun vs H Q E h => ?_) (fun cdv A outer s H vs Q E hr h => ?_)
  · obtain ⟨_, _, _, _, _, _, _, _, _, rfl, _⟩ := h; rfl
  · obtain ⟨a, tv, D, fl, ss, ds, d, v0, v1, rfl, hR, ok, l2, htv, q0, q9, hD, nd, hE, hd, k⟩ := h
    have c_move := c_moveX
    have c_is_at_most := c_is_at_mostX
    refine ⟨_, (pss_cons (ps_for PassesOwn.never rfl (pi_str (pe_glob (v := .str "01") (by rfl) g_BITS ⟨_, rfl⟩)) (pg_name (i := 4) sc_is_kept.nd rfl (.inl rfl))
    (pss_cons (ps_set (i := 5) sc_is_kept.nd rfl (.inl rfl) (pe_c c_move hr (by decide) rfl (pa_cons (pv 0) (pa_cons (pv 3) (pa_cons (pv 4) pa_nil)))))
    (pss_cons (ps_if (PW.pt (pw_or (pt_cmpR op_isN (pv 5) pe_non (nomark _)) (pw_or1 (pt_cmp (pc_dnotin (hu_of hr) (pe_ix ix_tup (pv 5) pe_int (fun _ _ => rfl)) (pv 2)))))) (pss_one (ps_ret pe_bl)) pss_nil)
    (pss_cons (ps_asg (pv 5) (pg_tup rfl (pgs_cons (pg_name (i := 6) sc_is_kept.nd rfl (.inl rfl)) (pgs_cons (pg_name (i := 7) sc_is_kept.nd rfl (.inl rfl)) pgs_nil))))
    (pss_cons (ps_asg (pe_dget (hu_of hr) (pv 2) (pv 3) (fun _ _ => rfl)) (pg_tup rfl (pgs_cons (pg_name (i := 8) sc_is_kept.nd rfl (.inl rfl)) (pgs_cons (pg_name (i := 9) sc_is_kept.nd rfl (.inl rfl)) pgs_nil))))
    (pss_one (ps_if (pt_not (pt_val (pe_c c_is_at_most hr (by decide) rfl (pa_cons (pe_tup (pa_cons (pe_op op_add (pe_op op_mul (pv 8) (pe_ix ix_tup (pv 1) pe_int (fun _ _ => rfl))) (pe_op op_mul (pe_op op_sub (pe_op op_mul (pv 6) (pe_ix ix_tup (pv 1) pe_int (fun _ _ => rfl))) (pe_ix ix_tup (pv 1) pe_int (fun _ _ => rfl))) (pv 9))) (pa_cons (pe_op op_mul (pv 9) (pe_ix ix_tup (pv 1) pe_int (fun _ _ => rfl))) pa_nil))) (pa_cons (pe_dget (hu_of hr) (pv 2) (pv 7) (fun _ _ => rfl)) pa_nil))))) (pss_one (ps_ret pe_bl)) pss_nil)))))))
    (pss_one (ps_ret pe_bl))), ?_⟩
    have l9 := ok.long
    refine ⟨_, rfl, ?_⟩
    refine for_it walk_str (fun i σ H1 => ∃ v4 v5 v6 v7 v8 v9 : Option V, σ = [some (.ref a), some (.ref tv), some (.ref D), some (.str (W d.w)), v4, v5, v6, v7, v8, v9] ∧ Same H H1 ∧ ∀ j bb, j < i → [false, true][j]? = some bb → KeptB ss v0 v1 (ds.map d3) (d3 d) bb) ⟨_, _, _, _, _, _, rfl, Same.refl H, fun _ _ z => absurd z (Nat.not_lt_zero _)⟩ (fun _ _ _ _ _ => trivial) ?_ ?_
    · rintro i x σ H1' H1 hi ⟨v4, v5, v6, v7, v8, v9, rfl, s1, hks⟩ ⟨rfl, ch, hch, rfl⟩
      rw [show ("01" : Str) = W [false, true] by decide +kernel] at hch
      obtain ⟨bb, hbb, rfl⟩ := W_get hch
      have hEd := (hE d hd).same s1
      have lu := hEd.lw
      have fail : ∀ H', Same H H' → ¬ KeptB ss v0 v1 (ds.map d3) (d3 d) bb → Q (.bl false) H' := fun H' s' hn => k false H' ⟨fun z => (nomatch z), fun z => absurd (z bb) hn⟩ s'
      refine ⟨_, rfl, _, rfl, _, rfl, a, fl, ss, d.w, bb, rfl, hR.same s1, ok, l2, by omega, fun H2 s2 hno => ?_, fun x pt H2 hx np s2 hpt => ?_⟩
      · refine ⟨_, rfl, rfl, _, rfl, iteT (fail H2 (s1.trans s2) ?_)⟩
        rintro ⟨y, _, _, hy, _⟩
        exact hno y hy
      have lx := chain3 ok.free l2 hx
      have s12 := s1.trans s2
      have hD2 := rd_same hD s12
      have ht2 := same_tup s12 htv
      refine ⟨_, rfl, rfl, _, rfl, iteF ?_⟩
      by_cases hin : tl (longM ss) (d.w ++ [bb] ++ x) ∈ ds.map (·.w)
      rotate_left
      · have g1 : DGet H2 D (.str (W (tl (longM ss) (d.w ++ [bb] ++ x)))) none := .inl ⟨_, .inr (W _), hD2, rfl, (val5_out hin).symm⟩
        refine ⟨_, rfl, pt, _, _, _, rfl, rfl, SqT.of hpt, atI_nat (j := 1) rfl, _, rfl, D, _, rfl, g1, _, rfl, iteT ?_⟩
        exact fail H2 s12 (kept_no hx hin)
      obtain ⟨e, he, ew⟩ := List.mem_map.mp hin
      have hEe := hE e he
      have g1 : ∀ {H'}, Same H H' → DGet H' D (.str (W (tl (longM ss) (d.w ++ [bb] ++ x)))) (some (.ref e.t)) := fun {H'} s' => .inl ⟨_, .inr (W (tl (longM ss) (d.w ++ [bb] ++ x))), rd_same hD s', rfl, by rw [← ew]; exact (val5_in nd he).symm⟩
      have g2 : DGet H2 D (.str (W d.w)) (some (.ref d.t)) := .inl ⟨_, .inr (W d.w), hD2, rfl, (val5_in nd hd).symm⟩
      refine ⟨_, rfl, pt, _, _, _, rfl, rfl, SqT.of hpt, atI_nat (j := 1) rfl, _, rfl, D, _, rfl, g1 s12, _, rfl, iteF ?_⟩
      refine ⟨_, rfl, pt, _, rfl, SqT.of hpt, rfl, _, _, rfl, _, _, rfl, rfl, ?_⟩
      refine ⟨_, rfl, _, rfl, D, _, rfl, g2, d.t, _, rfl, (hEd.same s2).ht, rfl, _, _, rfl, _, _, rfl, rfl, ?_⟩
      have z0 := hEd.q0
      have z9 := hEd.q9
      have y0 := hEe.q0
      have y9 := hEe.q9
      have hb : d.q * v1 ≤ 1000000000 * 1000000000 := Int.mul_le_mul (by omega) (by omega) (by omega) (by omega)
      have hb0 : 0 < d.q * v1 := Int.mul_pos z0 q0
      refine ⟨_, rfl, _, rfl, tv, _, _, _, rfl, rfl, ht2, atI_nat (j := 1) rfl, _, _, rfl, rfl, .inr ⟨by omega, by omega⟩, ?_⟩
      refine ⟨_, rfl, _, rfl, tv, _, _, _, rfl, rfl, ht2, atI_nat (j := 1) rfl, _, _, rfl, rfl, .inr ⟨by omega, by omega⟩, ?_⟩
      refine ⟨_, rfl, tv, _, _, _, rfl, rfl, ht2, atI_nat (j := 0) rfl, _, _, rfl, rfl, _, rfl, _, _, rfl, rfl, .inr ⟨by omega, by omega⟩, _, _, rfl, rfl, ?_⟩
      refine ⟨_, rfl, _, rfl, tv, _, _, _, rfl, rfl, ht2, atI_nat (j := 1) rfl, _, _, rfl, rfl, .inr ⟨by omega, by omega⟩, by show 2 ≤ sizeLine; decide, fun tq ntq => ?_⟩
      have sq := same_upd (o := .tup [.int (d.p * v1 + ((x.length : Nat) * v1 - v0) * d.q), .int (d.q * v1)]) ntq
      have htq : upd H2 tq (.tup [.int (d.p * v1 + ((x.length : Nat) * v1 - v0) * d.q), .int (d.q * v1)]) tq = some (.tup [.int (d.p * v1 + ((x.length : Nat) * v1 - v0) * d.q), .int (d.q * v1)]) := upd_same
      generalize upd H2 tq (.tup [.int (d.p * v1 + ((x.length : Nat) * v1 - v0) * d.q), .int (d.q * v1)]) = H3 at sq htq ⊢
      have s13 := s12.trans sq
      refine ⟨_, rfl, _, rfl, D, _, rfl, g1 s13, tq, e.t, _, _, _, _, rfl, SqT.of htq, same_tup s13 hEe.ht, hb0, by omega, y0, by omega, ?_⟩
      have kk := kept_of (v0 := v0) (v1 := v1) nd he hx ew
      by_cases c : (d.p * v1 + ((x.length : Nat) * v1 - v0) * d.q) * e.q ≤ e.p * (d.q * v1)
      · refine ⟨_, rfl, iteBF (by rw [decide_eq_true c]; rfl) ?_⟩
        refine ⟨_, _, _, _, _, _, rfl, s13, fun j b' hj hb' => ?_⟩
        by_cases cj : j = i
        · rw [cj, hbb] at hb'
          cases hb'
          exact kk.mpr c
        · exact hks j b' (by omega) hb'
      · refine ⟨_, rfl, iteBT (by rw [decide_eq_false c]; rfl) ?_⟩
        exact fail H3 s13 fun z => c (kk.mp z)
    · rintro σ H1 ⟨v4, v5, v6, v7, v8, v9, rfl, s1, hks⟩
      refine k true H1 ⟨fun _ b => ?_, fun _ => rfl⟩ s1
      cases b with
      | false => exact hks 0 false (by decide +kernel) rfl
      | true => exact hks 1 true (by decide +kernel) rfl
theorem sc_rate_paper_holds : FnScope ["rule", "value", "paper", "entry", "heights", "here", "height"] ["rule", "value", "paper"] (fnScope s_rate_paper_holds) := fnScope_by (by decide +kernel)
theorem cal_rate_paper_holds {f C : Addr} {fd : FuncData} (F : Def K mg "rate_paper_holds" s_rate_paper_holds f fd) (b : Binds K fd ["rule", "value", "paper"] []) (T : Tx mg) (c_is_entry : Cal P w K mg base 4 "is_entry" (spEntX K C) []) (c_is_kept : Cal P w K mg base 5 "is_kept" (spKeptX K C) []) : Cal P w K mg base 6 "rate_paper_holds" (spPapX K C) [] := by
  refine cal0 F b .nil sc_rate_paper_holds (fun vs H Q E h => ?_) (fun cdv A outer s H vs Q E hr h => ?_)
  · obtain ⟨_, _, _, _, _, _, _, _, rfl, _⟩ := h; rfl
  · obtain ⟨a, tv, v, fl, ss, v0, v1, r, rfl, hR, ok, l2, htv, q0, q9, hv, k⟩ := h
    refine ⟨_, (pss_cons (ps_if (PW.pt (pw_or (pt_not (pt_val (pe_callB call_isi (by rfl) T.b_isinstance (by decide +kernel) (pa_cons (pv 2) (pa_cons (pe_bltn (v := .ty "tuple") (u := .type "tuple") (by rfl) T.b_tuple (by decide +kernel) rfl) pa_nil))))) (pw_or1 (pt_not (pt_val (pe_callB (cr_all rfl) (by rfl) T.b_all (by decide +kernel) (pa_cons (pe_lc (own := [("entry", 3)]) (g := gName 3) (by rfl) sc_rate_paper_holds.nd (pi_tup (pv 2)) (blkOk_by (own := [("entry", 3)]) (N := ["rule", "value", "paper", "entry", "heights", "here", "height"]) (sc := fnScope s_rate_paper_holds) (by decide +kernel)) (fun _ _ _ _ _ => (pg_name (i := 3) sc_rate_paper_holds.nd rfl (.inl rfl))) (fun _ _ _ _ _ => pts_nil) (fun _ _ _ _ _ => (pe_c c_is_entry hr (by decide) rfl (pa_cons (pv 0) (pa_cons (pv 3) pa_nil))))) pa_nil))))))) (pss_one (ps_ret pe_bl)) pss_nil)
    (pss_cons (ps_set (i := 4) sc_rate_paper_holds.nd rfl (.inr rfl) (pe_dc (own := [("here", 5), ("height", 6)]) (g := gTup K 2 (gCons (gName 5) (gCons (gName 6) gNil))) (by rfl) sc_rate_paper_holds.nd (pi_tup (pv 2)) (blkOk_by (own := [("here", 5), ("height", 6)]) (N := ["rule", "value", "paper", "entry", "heights", "here", "height"]) (sc := fnScope s_rate_paper_holds) (by decide +kernel)) (fun _ _ _ _ _ => (pg_tup rfl (pgs_cons (pg_name (i := 5) sc_rate_paper_holds.nd rfl (.inl rfl)) (pgs_cons (pg_name (i := 6) sc_rate_paper_holds.nd rfl (.inl rfl)) pgs_nil)))) (fun _ _ _ _ _ => pts_nil) (fun _ _ _ _ _ => (pv 5)) (fun _ _ _ _ _ => (pv 6))))
    (pss_cons (ps_if (PW.pt (pw_or (pt_cmpR op_ne (pe_callB call_lenD (by rfl) T.b_len (by decide +kernel) (pa_cons (pv 4) pa_nil)) (pe_callB call_len_seq (by rfl) T.b_len (by decide +kernel) (pa_cons (pv 2) pa_nil)) (nomark _)) (pw_or1 (pt_cmp (pc_dnotin (hu_of hr) pe_str (pv 4)))))) (pss_one (ps_ret pe_bl)) pss_nil)
    (pss_one (ps_ret (pe_callB (cr_all rfl) (by rfl) T.b_all (by decide +kernel) (pa_cons (pe_lock (pe_lc (own := [("here", 5)]) (g := gName 5) (by rfl) sc_rate_paper_holds.nd (pi_keys (pv 4)) (blkOk_by (own := [("here", 5)]) (N := ["rule", "value", "paper", "entry", "heights", "here", "height"]) (sc := fnScope s_rate_paper_holds) (by decide +kernel)) (fun _ _ _ _ _ => (pg_name (i := 5) sc_rate_paper_holds.nd rfl (.inl rfl))) (fun _ _ _ _ _ => pts_nil) (fun _ _ _ _ _ => (pe_c c_is_kept hr (by decide) rfl (pa_cons (pv 0) (pa_cons (pv 1) (pa_cons (pv 4) (pa_cons (pv 5) pa_nil)))))))) pa_nil))))))), ?_⟩
    cases hv with
    | oth h =>
      obtain ⟨t, h1, h2⟩ := h
      refine ⟨_, rfl, _, _, _, _, false, rfl, .ty _, h1 H (Same.refl H), h2, _, rfl, iteT ?_⟩
      exact k false H ⟨fun z => (nomatch z), fun ⟨_, z, _⟩ => (nomatch z)⟩ (Same.refl H)
    | @tup tp xs rs htp les hE =>
      have htq : SqT K H tp xs := htp.sq
      have lrs : xs.length = rs.length := Paired.length hE
      refine ⟨_, rfl, _, _, _, _, true, rfl, .ty _, sq_ty htq, kit_ty (by decide +kernel), _, rfl, iteF ?_⟩
      refine ⟨_, rfl, tp, rfl, ⟨_, htq⟩, fun L nL => ?_⟩
      refine lc_it (walk_tup (xs := xs)) (fun i H2 => Same H H2 ∧ H2 L = some (.lst (((rs.take i).map Option.isSome).map V.bl))) ⟨same_upd nL, upd_same⟩ (fun i H2 _ h2 => same_tup h2.1 htq) ?_ ?_
      · rintro i x H2' H2 hi ⟨s2, hL⟩ ⟨rfl, hx⟩
        have hi2 := (List.getElem?_eq_some_iff.mp hx).1
        obtain ⟨ri, hr1, hEi⟩ := paired_get hE hx
        refine ⟨rfl, _, rfl, _, rfl, a, fl, ss, x, ri, rfl, hR.same s2, ok, hEi.same s2, fun H3 s3 => ?_⟩
        refine ⟨_, s3 _ _ hL, by rw [List.length_map, List.length_map, List.length_take]; exact sl_lt (by omega), same_mut' (s2.trans s3) nL, ?_⟩
        rw [upd_same, List.take_add_one, hr1, List.map_append, List.map_append]
        rfl
      · rintro H2 ⟨s2, hL⟩
        rw [lrs, List.take_length] at hL
        refine ⟨L, _, rfl, SqL.of hL, _, rfl, ?_⟩
        have eall : (rs.map Option.isSome).all id = (allO rs).isSome := by rw [allO_isSome, List.all_map]; rfl
        rw [eall]
        cases hr : allO rs with
        | none =>
          refine iteT ?_
          exact k false H2 ⟨fun z => (nomatch z), fun ⟨_, z, _⟩ => by rw [hr] at z; cases z⟩ s2
        | some es =>
          refine iteF ?_
          obtain ⟨ds, rfl, rfl, hds⟩ := ents_some hE hr
          have k' : ∀ c H', (c = true ↔ HoldP ss v0 v1 (ds.map d3)) → Same H H' → Q (.bl c) H' := fun c H' hc s' => k c H' ⟨fun z => ⟨_, hr, hc.mp z⟩, fun ⟨es, e1, e2⟩ => hc.mpr (by rw [hr] at e1; cases e1; exact e2)⟩ s'
          have lds : ds.length ≤ 1000 := by rw [List.length_map] at les; exact les
          have htp2 := same_tup s2 htq
          refine ⟨_, rfl, tp, rfl, ⟨_, htp2⟩, fun D nD => ?_⟩
          refine dc_it (walk_tup (xs := ds.map fun d : D5 => V.ref d.e)) (fun i H3 => Same H2 H3 ∧ H3 D = some (.dK (mergeK [] ((ds.take i).map kv5)))) ⟨same_upd nD, upd_same⟩ (fun i H3 _ h3 => same_tup h3.1 htp2) ?_ ?_
          · rintro i x H3' H3 hi ⟨s3, hD⟩ ⟨rfl, hx⟩
            rw [List.getElem?_map] at hx
            obtain ⟨d, hd, rfl⟩ := Option.map_eq_some_iff.mp hx
            have hEd := (hds d (List.mem_of_getElem? hd)).same (s2.trans s3)
            refine ⟨d.e, _, rfl, hEd.he, rfl, _, _, rfl, _, _, rfl, rfl, rfl, ?_⟩
            have hlen : (mergeK [] ((ds.take i).map kv5)).length ≤ 1000 := by
              refine Nat.le_trans (length_mergeK _ []) ?_
              rw [List.length_nil, List.length_map, List.length_take]
              omega
            refine ⟨_, rfl, _, rfl, _, .inr (W d.w), rfl, hD, sl_lt (by omega), same_mut' s3 nD, ?_⟩
            rw [upd_same, List.take_add_one, hd, List.map_append]
            show _ = some (HO.dK (mergeK [] ((ds.take i).map kv5 ++ [kv5 d])))
            rw [merge_snoc]
            rfl
          · rintro H3 ⟨s3, hD⟩
            rw [List.length_map, List.take_length] at hD
            have s23 := s2.trans s3
            have htp3 := same_tup s23 htq
            refine ⟨_, rfl, D, _, rfl, hD, _, rfl, tp, _, rfl, .inr htp3, ?_⟩
            refine ⟨rfl, ?_⟩
            by_cases nd : (ds.map (·.w)).Nodup
            rotate_left
            · have hlt := merge_len_lt (ds.map kv5) fun z => nd ((nodup5 ds).mp z)
              rw [List.length_map] at hlt
              refine ⟨_, rfl, iteNT (fun z => by have := V.int.inj z; rw [List.length_map] at this; omega) ?_⟩
              exact k' false H3 ⟨fun z => (nomatch z), fun z => absurd (by rw [← w_of]; exact z.1) nd⟩ s23
            rw [merge_nodup _ ((nodup5 ds).mpr nd)] at hD ⊢
            refine ⟨_, rfl, iteBF (by rw [List.length_map, List.length_map]; simp) ?_⟩
            by_cases h0 : [] ∈ ds.map (·.w)
            rotate_left
            · have g0 : DGet H3 D (.str "") none := by
                rw [W_nil]
                exact .inl ⟨_, .inr (W []), .inl hD, rfl, (val5_out h0).symm⟩
              refine ⟨_, rfl, D, _, rfl, g0, _, rfl, iteT ?_⟩
              exact k' false H3 ⟨fun z => (nomatch z), fun z => absurd (by rw [← w_of]; exact z.2.1) h0⟩ s23
            obtain ⟨d0, hd0, ed0⟩ := List.mem_map.mp h0
            have g0 : DGet H3 D (.str "") (some (.ref d0.t)) := by
              rw [W_nil]
              refine .inl ⟨_, .inr (W []), .inl hD, rfl, ?_⟩
              have := val5_in nd hd0
              rw [ed0] at this
              exact this.symm
            refine ⟨_, rfl, D, _, rfl, g0, _, rfl, iteF ?_⟩
            refine ⟨D, _, hD, trivial, fun od => ?_⟩
            have hLD : upd H3 D (.frz od (.dK (ds.map kv5))) D = some (.frz od (.dK (ds.map kv5))) := upd_same
            have nDH : H D = none := s2.free nD
            have sHL : Same H (upd H3 D (.frz od (.dK (ds.map kv5)))) := same_mut' s23 nDH
            have hLu : ∀ {H'}, Same (upd H3 D (.frz od (.dK (ds.map kv5)))) H' → Same H3 (upd H' D (.dK (ds.map kv5))) := fun s => same_unlock s hD
            have nn : ∀ x, upd H3 D (.frz od (.dK (ds.map kv5))) x = none → H3 x = none := fun x e => by
              by_cases z : x = D
              · rw [z, upd_same] at e; cases e
              · rw [upd_ne z] at e; exact e
            generalize upd H3 D (.frz od (.dK (ds.map kv5))) = HL at hLD sHL hLu nn ⊢
            refine ⟨_, rfl, D, od, rfl, .inl ⟨_, hLD, fun L2 nL2 => ?_⟩⟩
            have lkv : (ds.map kv5).length = ds.length := List.length_map _
            refine lc_it (walk_keys (kvs := ds.map kv5)) (fun i H4 => Same HL H4 ∧ H4 L2 = some (.lst (((ds.take i).map (kbB ss v0 v1 (ds.map d3))).map V.bl))) ⟨same_upd nL2, upd_same⟩ (fun i H4 _ h4 => h4.1 _ _ hLD) ?_ ?_
            · rintro i x H4' H4 hi ⟨s4, hL4⟩ ⟨rfl, kk, vv, hkv, rfl⟩
              rw [List.getElem?_map] at hkv
              obtain ⟨d, hd, ekv⟩ := Option.map_eq_some_iff.mp hkv
              cases ekv
              have hdm := List.mem_of_getElem? hd
              have sH4 := sHL.trans s4
              refine ⟨rfl, _, rfl, _, rfl, _, rfl, _, rfl, a, tv, D, fl, ss, ds, d, v0, v1, rfl, hR.same sH4, ok, l2, same_tup sH4 htv, q0, q9, .inr ⟨od, s4 _ _ hLD⟩, nd, fun e he => (hds e he).same sH4, hdm, fun c H5 hc s5 => ?_⟩
              refine ⟨_, s5 _ _ hL4, by rw [List.length_map, List.length_map, List.length_take]; exact sl_lt (by omega), same_mut' (s4.trans s5) nL2, ?_⟩
              rw [upd_same, List.take_add_one, hd, List.map_append, List.map_append, kbB_eq hc]
              rfl
            · rintro H4 ⟨s4, hL4⟩
              refine ⟨s4 _ _ hLD, ?_⟩
              have nL3 := nn L2 nL2
              have s5 := hLu s4
              have nLD : L2 ≠ D := (ne_of_none hD nL3).symm
              rw [lkv, List.take_length] at hL4
              refine ⟨L2, _, rfl, SqL.of (by rw [upd_ne nLD]; exact hL4), ?_⟩
              refine k' _ _ ⟨fun z => ⟨by rw [w_of]; exact nd, by rw [w_of]; exact h0, fun e he b => ?_⟩, fun z => ?_⟩ (s23.trans s5)
              · obtain ⟨d, hd, rfl⟩ := List.mem_map.mp he
                rw [List.all_map, List.all_eq_true] at z
                exact kbB_iff.mp (z d hd) b
              · rw [List.all_map, List.all_eq_true]
                intro d hd
                exact kbB_iff.mpr fun b => z.2.2 (d3 d) (List.mem_map.mpr ⟨d, hd, rfl⟩) b
end
end U
set_option maxRecDepth 100000
set_option maxHeartbeats 4000000
namespace U
open PySem PySem.Spec PyProof.Rows
open L2 hiding Fun CX0 E0 pass0 Fun.binds
open C8 Lx SX StX
def spLCommon : Sp := fun vs H Q _ => ∃ p q : Nat, vs = [.int p, .int q] ∧ ∀ H', Same H H' → Q (.int (Nat.gcd p q : Nat)) H'
def spLEnt (K : PySem.W.Frag) : Sp := fun vs H Q _ => ∃ (v : V) (sz : Nat) (r : Option (List Bool × Int × Int)), vs = [v, .int sz] ∧ EntR K H sz v r ∧ sz ≤ 1000 ∧ ∀ H', Same H H' → Q (.bl r.isSome) H'
def spLPap (K : PySem.W.Frag) : Sp := fun vs H Q _ => ∃ (t tv : Addr) (v : V) (f : List Bool) (ss : List Stf) (v0 v1 : Int) (r : Option (List (List Bool × Int × Int))), vs = [.ref t, .ref tv, v] ∧ Told H t f ss ∧ StOk ss ∧ ss.length ≤ 2 ∧
  SqT K H tv [.int v0, .int v1] ∧ 0 < v1 ∧ v1 < 1000000000 ∧ PapR K H (longM ss) v r ∧ ∀ c H', (c = true ↔ ∃ es, r = some es ∧ HoldP ss v0 v1 es) → Same H H' → Q (.bl c) H'
def oddL (z : Str) : List Nat := z.cps.toList.filter fun c => !decide (c ∈ ("01" : Str).cps.toList)
theorem oddL_nil {z : Str} : oddL z = [] ↔ isW z = true := by
  unfold oddL isW
  rw [List.filter_eq_nil_iff, List.all_eq_true]
  exact ⟨fun h c hc => by have := h c hc; simpa using this, fun h c hc => by have := h c hc; simpa using this⟩
def sgV (cs : List Nat) : List V := cs.map fun c => V.str ⟨#[c]⟩
theorem sgV_nil {cs : List Nat} : sgV cs = [] ↔ cs = [] := by unfold sgV; exact List.map_eq_nil_iff
theorem ValR.split {K : PySem.W.Frag} {H : Hp} {v : V} {r : Option (Int × Int)} (h : ValR K H v r) : (OthT K H v "tuple" ∧ r = none) ∨ (∃ a xs, v = .ref a ∧ SqT K H a xs ∧ xs.length ≠ 2 ∧ xs.length ≤ 1000 ∧ r = none) ∨
    ∃ a x y rx ry, v = .ref a ∧ SqT K H a [x, y] ∧ IntR K H x rx ∧ IntR K H y ry ∧ (((rx = none ∨ ry = none) ∧ r = none) ∨ ∃ p q, rx = some p ∧ ry = some q ∧ x = .int p ∧ y = .int q ∧ q < 1000000000 ∧ r = if 0 < q ∧ Nat.gcd p.natAbs q.natAbs = 1 then some (p, q) else none) := by
  cases h with
  | oth h => exact .inl ⟨h, rfl⟩
  | len h n l => exact .inr (.inl ⟨_, _, rfl, h, n, l, rfl⟩)
  | bad h hx hy n => exact .inr (.inr ⟨_, _, _, _, _, rfl, h, hx, hy, .inl ⟨n, rfl⟩⟩)
  | num h q9 => exact .inr (.inr ⟨_, _, _, _, _, rfl, h, .int _, .int _, .inr ⟨_, _, rfl, rfl, rfl, rfl, q9, rfl⟩⟩)
section
variable {P : Program} {w : World} {K : PySem.W.Frag} {mg : Str → Option Value} {base : Heap}
theorem sc_l_common : FnScope ["_law_p", "_law_q"] ["_law_p", "_law_q"] (fnScope s_l_common) := fnScope_by (by decide +kernel)
theorem cal_l_common {f : Addr} {fd : FuncData} (F : Def K mg "_law_common" s_l_common f fd) (b : Binds K fd ["_law_p", "_law_q"] []) (T : Tx mg) : Cal P w K mg base 1 "_law_common" spLCommon [] := by
  refine cal0 F b .nil sc_l_common (fun vs H Q E h => ?_) (fun cdv A outer s H vs Q E hr h => ?_)
  · obtain ⟨_, _, rfl, _⟩ := h; rfl
  · obtain ⟨p, q, rfl, k⟩ := h
    refine ⟨_, (pss_cons (ps_while PassesOwn.never (pt_cmpR op_ne (pv 1) pe_int (nomark _))
    (pss_one (ps_par (i := 0) (j := 1) (by rfl) sc_l_common.nd rfl rfl (by decide) rfl rfl (pa_cons (pv 1) (pa_cons (pe_op op_mod (pe_callTy call_int1 (by rfl) T.b_int (by decide +kernel) (pa_cons (pv 0) pa_nil)) (pv 1)) pa_nil)) (by rfl))))
    (pss_one (ps_ret (pv 0)))), ?_⟩
    refine ⟨fun m σ H3 => ∃ p' q' : Nat, σ = [some (.int p'), some (.int q')] ∧ H3 = H ∧ Nat.gcd p' q' = Nat.gcd p q ∧ m = q', ⟨q, p, q, rfl, rfl, rfl, rfl⟩, ?_⟩
    rintro m σ H3 ⟨p', q', rfl, rfl, hg, rfl⟩
    refine ⟨_, rfl, rfl, _, rfl, ?_⟩
    by_cases c : m = 0
    · subst c
      refine iteNS rfl ?_
      rw [Nat.gcd_zero_right] at hg
      refine ⟨_, rfl, ?_⟩
      rw [hg]
      exact k _ (Same.refl _)
    · refine iteNT (fun z => c (by have := V.int.inj z; omega)) ?_
      refine ⟨fun σ' H' => ∃ m', m' < m ∧ ∃ p' q' : Nat, σ' = [some (.int p'), some (.int q')] ∧ H' = H3 ∧ Nat.gcd p' q' = Nat.gcd p q ∧ m' = q', fun _ _ h => h, ?_⟩
      refine ⟨_, rfl, _, rfl, .inl ⟨_, rfl, _, rfl, _, _, rfl, rfl, by show (0 : Int) < (m : Nat); omega, _, _, rfl, ?_⟩⟩
      refine ⟨p' % m, Nat.mod_lt _ (by omega), m, p' % m, rfl, rfl, ?_, rfl⟩
      rw [← hg, Nat.gcd_comm p' m, Nat.gcd_rec m p', Nat.gcd_comm]
theorem sc_l_is_entry : FnScope ["_law_one", "_law_size", "_law_sign", "_law_part"] ["_law_one", "_law_size"] (fnScope s_l_is_entry) := fnScope_by (by decide +kernel)
theorem cal_l_is_entry {f : Addr} {fd : FuncData} (F : Def K mg "_law_is_entry" s_l_is_entry f fd) (b : Binds K fd ["_law_one", "_law_size"] []) (T : Tx mg) (c_l_common : Cal P w K mg base 1 "_law_common" spLCommon []) : Cal P w K mg base 2 "_law_is_entry" (spLEnt K) [] := by
  refine cal0 F b .nil sc_l_is_entry (fun vs H Q E h => ?_) (fun cdv A outer s H vs Q E hr h => ?_)
  · obtain ⟨_, _, _, rfl, _⟩ := h; rfl
  · obtain ⟨v, sz, r, rfl, hv, hsz, k⟩ := h
    refine ⟨_, (pss_cons (ps_if (PW.pt (pw_or (pt_not (pt_val (pe_callB call_isi (by rfl) T.b_isinstance (by decide +kernel) (pa_cons (pv 0) (pa_cons (pe_bltn (v := .ty "tuple") (u := .type "tuple") (by rfl) T.b_tuple (by decide +kernel) rfl) pa_nil))))) (pw_or (pt_cmpR op_ne (pe_callB call_len_seq (by rfl) T.b_len (by decide +kernel) (pa_cons (pv 0) pa_nil)) pe_int (nomark _)) (pw_or1 (pt_not (pt_val (pe_callB call_isi (by rfl) T.b_isinstance (by decide +kernel) (pa_cons (pe_ix ix_tup (pv 0) pe_int (fun _ _ => rfl)) (pa_cons (pe_bltn (v := .ty "str") (u := .type "str") (by rfl) T.b_str (by decide +kernel) rfl) pa_nil))))))))) (pss_one (ps_ret pe_bl)) pss_nil)
    (pss_cons (ps_if (pt_cmpR op_gt (pe_callB call_len_str (by rfl) T.b_len (by decide +kernel) (pa_cons (pe_ix ix_tup (pv 0) pe_int (fun _ _ => rfl)) pa_nil)) (pv 1) (nomark _)) (pss_one (ps_ret pe_bl)) pss_nil)
    (pss_cons (ps_if (pt_cmpR (op_neL hr) (pe_lc (own := [("_law_sign", 2)]) (g := gName 2) (by rfl) sc_l_is_entry.nd (pi_str (pe_ix ix_tup (pv 0) pe_int (fun _ _ => rfl))) (blkOk_by (own := [("_law_sign", 2)]) (N := ["_law_one", "_law_size", "_law_sign", "_law_part"]) (sc := fnScope s_l_is_entry) (by decide +kernel)) (fun _ _ _ _ _ => (pg_name (i := 2) sc_l_is_entry.nd rfl (.inl rfl))) (fun _ _ _ _ _ => (pts_one (pt_cmpR op_notIn_sign (pv 2) pe_str (by with_unfolding_all rfl)))) (fun _ _ _ _ _ => (pv 2))) (pe_lst pa_nil) (nomark _)) (pss_one (ps_ret pe_bl)) pss_nil)
    (pss_cons (ps_if (PW.pt (pw_or (pt_not (pt_val (pe_callB call_isi (by rfl) T.b_isinstance (by decide +kernel) (pa_cons (pe_ix ix_tup (pv 0) pe_int (fun _ _ => rfl)) (pa_cons (pe_bltn (v := .ty "tuple") (u := .type "tuple") (by rfl) T.b_tuple (by decide +kernel) rfl) pa_nil))))) (pw_or1 (pt_cmpR op_ne (pe_callB call_len_seq (by rfl) T.b_len (by decide +kernel) (pa_cons (pe_ix ix_tup (pv 0) pe_int (fun _ _ => rfl)) pa_nil)) pe_int (nomark _))))) (pss_one (ps_ret pe_bl)) pss_nil)
    (pss_cons (ps_if (pt_cmpR (op_neL hr) (pe_lc (own := [("_law_part", 3)]) (g := gName 3) (by rfl) sc_l_is_entry.nd (pi_tup (pe_ix ix_tup (pv 0) pe_int (fun _ _ => rfl))) (blkOk_by (own := [("_law_part", 3)]) (N := ["_law_one", "_law_size", "_law_sign", "_law_part"]) (sc := fnScope s_l_is_entry) (by decide +kernel)) (fun _ _ _ _ _ => (pg_name (i := 3) sc_l_is_entry.nd rfl (.inl rfl))) (fun _ _ _ _ _ => (pts_one (PW.pt (pw_or (pt_not (pt_val (pe_callB (show CallR _ (.builtin "isinstance") (rIsi K) from call_isi) (by rfl) T.b_isinstance (by decide +kernel) (pa_cons (pv 3) (pa_cons (pe_bltn (v := .ty "int") (u := .type "int") (by rfl) T.b_int (by decide +kernel) rfl) pa_nil))))) (pw_or1 (pt_val (pe_callB (show CallR _ (.builtin "isinstance") (rIsi K) from call_isi) (by rfl) T.b_isinstance (by decide +kernel) (pa_cons (pv 3) (pa_cons (pe_bltn (v := .ty "bool") (u := .type "bool") (by rfl) T.b_bool (by decide +kernel) rfl) pa_nil))))))))) (fun _ _ _ _ _ => (pv 3))) (pe_lst pa_nil) (nomark _)) (pss_one (ps_ret pe_bl)) pss_nil)
    (pss_cons (ps_if (pt_cmpR op_lt (pe_ix ix_tup (pe_ix ix_tup (pv 0) pe_int (fun _ _ => rfl)) pe_int (fun _ _ => rfl)) pe_int (nomark _)) (pss_one (ps_ret pe_bl)) pss_nil)
    (pss_one (ps_ret (pe_cmpR op_eq (pe_c c_l_common hr (by decide) rfl (pa_cons (pe_callB call_abs (by rfl) T.b_abs (by decide +kernel) (pa_cons (pe_ix ix_tup (pe_ix ix_tup (pv 0) pe_int (fun _ _ => rfl)) pe_int (fun _ _ => rfl)) pa_nil)) (pa_cons (pe_ix ix_tup (pe_ix ix_tup (pv 0) pe_int (fun _ _ => rfl)) pe_int (fun _ _ => rfl)) pa_nil))) pe_int (nomark _)))))))))), ?_⟩
    cases hv with
    | oth h =>
      obtain ⟨t, h1, h2⟩ := h
      refine ⟨_, rfl, _, _, _, _, false, rfl, .ty _, h1 H (Same.refl H), h2, _, rfl, iteT ?_⟩
      exact k H (Same.refl H)
    | @len t xs ht n l =>
      refine ⟨_, rfl, _, _, _, _, true, rfl, .ty _, sq_ty ht, kit_ty (by decide +kernel), _, rfl, iteF ?_⟩
      refine ⟨_, rfl, t, _, rfl, .inr ht, rfl, _, rfl, iteNT (fun z => n (by have := V.int.inj z; omega)) ?_⟩
      exact k H (Same.refl H)
    | @pair e x y r he hx hy =>
      refine ⟨_, rfl, _, _, _, _, true, rfl, .ty _, sq_ty he, kit_ty (by decide +kernel), _, rfl, iteF ?_⟩
      refine ⟨_, rfl, e, _, rfl, .inr he, rfl, _, rfl, iteF ?_⟩
      rcases hx with ⟨z, rfl, hz, ho⟩ | ⟨h1, t, h2, h3⟩
      rotate_left
      · refine ⟨_, rfl, e, _, _, _, rfl, rfl, he, atI_nat (j := 0) rfl, _, _, _, _, false, rfl, .ty _, h3 H (Same.refl H), h2, _, rfl, iteT ?_⟩
        have := k H (Same.refl H)
        rw [show entO sz x r = none by
          unfold entO
          split
          · exact absurd rfl (h1 _)
          · rfl] at this
        exact this
      refine ⟨_, rfl, e, _, _, _, rfl, rfl, he, atI_nat (j := 0) rfl, _, _, _, _, true, rfl, .ty _, .base (.str z), kit_ty (by decide +kernel), _, rfl, iteF ?_⟩
      have lz : z.length = z.cps.toList.length := TL.len_tl z
      refine ⟨_, rfl, e, _, _, _, rfl, rfl, he, atI_nat (j := 0) rfl, _, rfl, sl_len (by omega), _, rfl, _, _, rfl, rfl, _, rfl, ?_⟩
      have entE : entO sz (.str z) r = if isW z = true ∧ z.length ≤ sz then r.map fun pq => (unW z, pq) else none := rfl
      rw [entE] at k
      by_cases cl : z.length ≤ sz
      rotate_left
      · refine iteDT (by omega) ?_
        have := k H (Same.refl H)
        rw [if_neg (fun z => cl z.2)] at this
        exact this
      refine iteDF (by omega) ?_
      refine ⟨_, rfl, e, _, _, _, rfl, rfl, he, atI_nat (j := 0) rfl, z, rfl, fun D nD => ?_⟩
      refine lc_it walk_str (fun i H2 => Same H H2 ∧ H2 D = some (.lst (sgV ((z.cps.toList.take i).filter fun c => !decide (c ∈ ("01" : Str).cps.toList))))) ⟨same_upd nD, upd_same⟩ (fun _ _ _ _ => trivial) ?_ ?_
      · rintro i y' H2' H2 hi ⟨s2, hD⟩ ⟨rfl, c, hc, rfl⟩
        have hc' : z.cps.toList[i]? = some c := by rw [Array.getElem?_toList]; exact hc
        refine ⟨rfl, _, rfl, c, _, rfl, rfl, _, rfl, ?_⟩
        by_cases hm : c ∈ ("01" : Str).cps.toList
        · refine iteBF (by rw [decide_eq_true hm]; rfl) ?_
          refine ⟨s2, ?_⟩
          rw [hD, List.take_add_one, hc', List.filter_append, show ((some c).toList.filter fun c => !decide (c ∈ ("01" : Str).cps.toList)) = [] by show [c].filter _ = _; rw [List.filter_cons, if_neg (by rw [decide_eq_true hm]; decide)]; rfl, List.append_nil]
        · refine iteBT (by rw [decide_eq_false hm]; rfl) ?_
          refine ⟨_, rfl, _, hD, ?_, same_mut' s2 nD, ?_⟩
          · unfold sgV
            rw [List.length_map]
            refine sl_lt (Nat.lt_of_le_of_lt (List.length_filter_le _ _) ?_)
            rw [List.length_take]
            omega
          · rw [upd_same, List.take_add_one, hc', List.filter_append, show ((some c).toList.filter fun c => !decide (c ∈ ("01" : Str).cps.toList)) = [c] by show [c].filter _ = _; rw [List.filter_cons, if_pos (by rw [decide_eq_false hm]; rfl)]; rfl]
            unfold sgV
            rw [List.map_append]
            rfl
      rintro H2 ⟨s2, hD⟩
      have ez : z.cps.toList.take z.cps.size = z.cps.toList := List.take_of_length_le (by simp)
      rw [ez] at hD
      refine ⟨by show 0 ≤ sizeLine; decide, fun l nl => ?_⟩
      have sl := same_upd (o := .lst []) nl
      have s3 := s2.trans sl
      refine ⟨D, l, sgV (oddL z), rfl, rfl, SqL.of (sl _ _ hD), SqL.of upd_same, _, rfl, ?_⟩
      generalize upd H2 l (.lst []) = H3 at s3 ⊢
      clear sl hD
      by_cases cw : isW z = true
      rotate_left
      · refine iteNT (fun w => cw (oddL_nil.mp (sgV_nil.mp w))) ?_
        have := k H3 s3
        rw [if_neg (fun z => cw z.1)] at this
        exact this
      refine iteNS (sgV_nil.mpr (oddL_nil.mpr cw)) ?_
      have k : ∀ H', Same H H' → Q (.bl r.isSome) H' := fun H' s' => by
        have := k H' s'
        rw [if_pos ⟨cw, cl⟩, Option.isSome_map] at this
        exact this
      have he3 := same_tup s3 he
      rcases (hy.same s3).split with ⟨⟨t, h1, h2⟩, rfl⟩ | ⟨a, xs, rfl, ha, nl2, lxs, rfl⟩ | ⟨a, x0, y0, rx, ry, rfl, ha, hx0, hy0, hr0⟩
      · refine ⟨_, rfl, e, _, _, _, rfl, rfl, he3, atI_nat (j := 1) rfl, _, _, _, _, false, rfl, .ty _, h1 H3 (Same.refl H3), h2, _, rfl, iteT ?_⟩
        exact k H3 s3
      · refine ⟨_, rfl, e, _, _, _, rfl, rfl, he3, atI_nat (j := 1) rfl, _, _, _, _, true, rfl, .ty _, sq_ty ha, kit_ty (by decide +kernel), _, rfl, iteF ?_⟩
        refine ⟨_, rfl, e, _, _, _, rfl, rfl, he3, atI_nat (j := 1) rfl, a, _, rfl, .inr ha, rfl, _, rfl, iteNT (fun z => nl2 (by have := V.int.inj z; omega)) ?_⟩
        exact k H3 s3
      refine ⟨_, rfl, e, _, _, _, rfl, rfl, he3, atI_nat (j := 1) rfl, _, _, _, _, true, rfl, .ty _, sq_ty ha, kit_ty (by decide +kernel), _, rfl, iteF ?_⟩
      refine ⟨_, rfl, e, _, _, _, rfl, rfl, he3, atI_nat (j := 1) rfl, a, _, rfl, .inr ha, rfl, _, rfl, iteF ?_⟩
      refine ⟨_, rfl, e, _, _, _, rfl, rfl, he3, atI_nat (j := 1) rfl, a, rfl, ⟨_, ha⟩, fun D2 nD2 => ?_⟩
      have hP : Paired (IntR K H3) [x0, y0] [rx, ry] := .cons hx0 (.cons hy0 .nil)
      refine lc_it (walk_tup (xs := [x0, y0])) (fun i H4 => Same H3 H4 ∧ ∃ ls : List V, H4 D2 = some (.lst ls) ∧ ls.length ≤ i ∧ (ls = [] ↔ ∀ j r, j < i → [rx, ry][j]? = some r → r.isSome = true)) ⟨same_upd nD2, [], upd_same, Nat.le_refl _, fun _ j r h => absurd h (Nat.not_lt_zero _), fun _ => rfl⟩ (fun i H4 _ h4 => same_tup h4.1 ha) ?_ ?_
      · rintro i y' H4' H4 hi ⟨s4, ls, hL, lls, hls⟩ ⟨rfl, hx⟩
        obtain ⟨ri, hri, hE⟩ := paired_get hP hx
        have hi2 : i < 2 := hi
        have skip : ri.isSome = true → (ls = [] ↔ ∀ j r, j < i + 1 → [rx, ry][j]? = some r → r.isSome = true) := fun hs => by
          rw [hls]
          refine ⟨fun h j r hj e => ?_, fun h j r hj e => h j r (by omega) e⟩
          by_cases cj : j = i
          · rw [cj, hri] at e
            cases e
            exact hs
          · exact h j r (by omega) e
        have put : ri.isSome = false → ∃ ls' : List V, H4 D2 = some (.lst ls') ∧ ls'.length < sizeLine ∧ Same H3 (upd H4 D2 (.lst (ls' ++ [y']))) ∧ ∃ l2 : List V, upd H4 D2 (.lst (ls' ++ [y'])) D2 = some (.lst l2) ∧ l2.length ≤ i + 1 ∧ (l2 = [] ↔ ∀ j r, j < i + 1 → [rx, ry][j]? = some r → r.isSome = true) := fun hs => by
          refine ⟨ls, hL, sl_lt (by omega), same_mut' s4 nD2, ls ++ [y'], upd_same, by rw [List.length_append]; show _ + 1 ≤ _; omega, fun z => absurd z (by simp), fun z => ?_⟩
          have := z i ri (by omega) hri
          rw [hs] at this
          cases this
        cases hE.same s4 with
        | int i0 =>
          refine ⟨rfl, _, rfl, _, _, _, _, true, rfl, .ty _, .base (.int i0), kit_ty (by decide +kernel), _, rfl, iteF ?_⟩
          refine ⟨_, rfl, _, _, _, _, false, rfl, .ty _, .base (.int i0), kit_ty (by decide +kernel), _, rfl, iteF ?_⟩
          exact ⟨s4, ls, hL, by omega, skip rfl⟩
        | bl x =>
          refine ⟨rfl, _, rfl, _, _, _, _, true, rfl, .ty _, .base (.bl x), kit_ty (by decide +kernel), _, rfl, iteF ?_⟩
          refine ⟨_, rfl, _, _, _, _, true, rfl, .ty _, .base (.bl x), kit_ty (by decide +kernel), _, rfl, iteT ?_⟩
          exact ⟨_, rfl, put rfl⟩
        | oth h =>
          obtain ⟨t, h1, h2⟩ := h
          refine ⟨rfl, _, rfl, _, _, _, _, false, rfl, .ty _, h1 H4 (Same.refl H4), h2, _, rfl, iteT ?_⟩
          exact ⟨_, rfl, put rfl⟩
      rintro H4 ⟨s4, ls, hL, lls, hls⟩
      refine ⟨by show 0 ≤ sizeLine; decide, fun l5 nl5 => ?_⟩
      have sl5 := same_upd (o := .lst []) nl5
      have s35 := s4.trans sl5
      have s5 := s3.trans s35
      refine ⟨D2, l5, ls, rfl, rfl, SqL.of (sl5 _ _ hL), SqL.of upd_same, _, rfl, ?_⟩
      generalize upd H4 l5 (.lst []) = H5 at s5 s35 ⊢
      clear sl5 hL
      rcases hr0 with ⟨hn, rfl⟩ | ⟨p, q, rfl, rfl, rfl, rfl, q9, rfl⟩
      · refine iteNT (fun z => ?_) ?_
        · rcases hn with rfl | rfl
          · exact nomatch hls.mp z 0 none (by show 0 < 2; decide) rfl
          · exact nomatch hls.mp z 1 none (by show 1 < 2; decide) rfl
        exact k H5 s5
      refine iteNS (hls.mpr fun j r hj e => ?_) ?_
      · match j, hj with
        | 0, _ => cases e; rfl
        | 1, _ => cases e; rfl
      have he5 := same_tup s5 he
      have ha5 := same_tup s35 ha
      refine ⟨_, rfl, e, _, _, _, rfl, rfl, he5, atI_nat (j := 1) rfl, a, _, _, _, rfl, rfl, ha5, atI_nat (j := 1) rfl, _, _, rfl, rfl, _, rfl, ?_⟩
      by_cases q0 : q < 1
      · refine iteDT q0 ?_
        have := k H5 s5
        rw [if_neg (fun z => by omega)] at this
        exact this
      refine iteDF q0 ?_
      obtain ⟨n, rfl⟩ := Int.eq_ofNat_of_zero_le (show 0 ≤ q by omega)
      have eabs : (if p < 0 then -p else p) = ((p.natAbs : Nat) : Int) := by split <;> omega
      refine ⟨_, rfl, e, _, _, _, rfl, rfl, he5, atI_nat (j := 1) rfl, a, _, _, _, rfl, rfl, ha5, atI_nat (j := 0) rfl, _, rfl, _, rfl, e, _, _, _, rfl, rfl, he5, atI_nat (j := 1) rfl, a, _, _, _, rfl, rfl, ha5, atI_nat (j := 1) rfl, p.natAbs, n, by rw [eabs]; rfl, fun H6 s6 => ?_⟩
      refine ⟨rfl, ?_⟩
      have := k H6 (s5.trans s6)
      by_cases g : Nat.gcd p.natAbs n = 1
      · rw [if_pos ⟨by omega, g⟩] at this
        rw [decide_eq_true (congrArg V.int (by rw [g]; rfl))]
        exact this
      · rw [if_neg (fun z => g z.2)] at this
        rw [decide_eq_false (fun z => g (by have := V.int.inj z; omega))]
        exact this
end
theorem longM_mem (ss : List Stf) : longM ss = 0 ∨ ∃ s ∈ ss, s.1.length = longM ss := by
  induction ss with
  | nil => exact .inl rfl
  | cons s r ih =>
    have e : longM (s :: r) = max s.1.length (longM r) := rfl
    rw [e]
    rcases Nat.le_total (longM r) s.1.length with c | c
    · rw [Nat.max_eq_left c]
      exact .inr ⟨s, List.mem_cons_self, rfl⟩
    · rw [Nat.max_eq_right c]
      rcases ih with z | ⟨x, hx, ex⟩
      · exact .inl z
      · exact .inr ⟨x, List.mem_cons_of_mem _ hx, ex⟩
theorem max_long {ss : List Stf} {m : Int} (h1 : m ∈ (0 : Int) :: ss.map fun s => ((s.1.length : Nat) : Int)) (h2 : ∀ y, y ∈ (0 : Int) :: ss.map (fun s => ((s.1.length : Nat) : Int)) → y ≤ m) : m = (longM ss : Nat) := by
  have h0 := h2 0 List.mem_cons_self
  have h3 : ∀ s ∈ ss, ((s.1.length : Nat) : Int) ≤ m := fun s hs => h2 _ (List.mem_cons_of_mem _ (List.mem_map.mpr ⟨s, hs, rfl⟩))
  have h4 : m ≤ (longM ss : Nat) := by
    rcases List.mem_cons.mp h1 with e | e
    · rw [e]; omega
    · obtain ⟨s, hs, rfl⟩ := List.mem_map.mp e
      have := longM_le hs
      omega
  rcases longM_mem ss with z | ⟨s, hs, e⟩
  · omega
  · have := h3 s hs
    omega
theorem PutX.few {ss : List Stf} (sf : SufFree ss) (h2 : ss.length ≤ 2) {l y x : List Bool} (h : PutX ss l y) (hx : Ins ss l x) : y.length ≤ 3 := by
  obtain ⟨z, rfl, _⟩ := h.pre hx
  have := chain3 sf h2 hx
  rw [List.length_append] at this
  omega
structure Trn (ss : List Stf) (l : List Bool) (i : Nat) (y : List Bool) : Prop where
  p : PutX ss l y
  le : y.length ≤ i
  st : y.length < i → putM ss (l ++ y) = none
theorem Trn.start {ss : List Stf} {l : List Bool} : Trn ss l 0 [] := ⟨.nil, Nat.le_refl _, fun h => absurd h (Nat.not_lt_zero _)⟩
theorem Trn.next {ss : List Stf} {l : List Bool} {i : Nat} {y : List Bool} (h : Trn ss l i y) : Trn ss l (i + 1) (y ++ putL ss (l ++ y)) := by
  unfold putL
  cases e : putM ss (l ++ y) with
  | none =>
    show Trn ss l (i + 1) (y ++ [])
    exact ⟨by rw [List.append_nil]; exact h.p, by rw [List.append_nil]; have := h.le; omega, fun _ => by rw [List.append_nil]; exact e⟩
  | some b =>
    have hl : y.length = i := by
      have := h.le
      by_cases c : y.length < i
      · rw [h.st c] at e; cases e
      · omega
    show Trn ss l (i + 1) (y ++ [b])
    exact ⟨h.p.snoc e, by rw [List.length_append]; show _ + 1 ≤ _; omega, fun z => by rw [List.length_append] at z; have : [b].length = 1 := rfl; omega⟩
theorem Trn.done {ss : List Stf} (sf : SufFree ss) (h2 : ss.length ≤ 2) {l y : List Bool} (h : Trn ss l 40 y) : (putL ss (l ++ y) = [] ∧ Ins ss l y) ∨ (putL ss (l ++ y) ≠ [] ∧ ∀ x, ¬ Ins ss l x) := by
  cases e : putM ss (l ++ y) with
  | none =>
    refine .inl ⟨by unfold putL; rw [e], ?_⟩
    have := h.p.ins (.stop e)
    rw [List.append_nil] at this
    exact this
  | some b =>
    refine .inr ⟨by unfold putL; rw [e]; show [b] ≠ []; exact fun z => (nomatch z), fun x hx => ?_⟩
    have := h.p.few sf h2 hx
    have h40 : putM ss (l ++ y) = none := h.st (by omega)
    rw [e] at h40
    cases h40
theorem bits_at {i : Nat} {x : V} (h : [V.str "0", V.str "1"][i]? = some x) : i < 2 ∧ x = .str (W [decide (i = 1)]) := by
  match i, h with
  | 0, h => exact ⟨by decide, by cases h; exact congrArg V.str (by decide +kernel)⟩
  | 1, h => exact ⟨by decide, by cases h; exact congrArg V.str (by decide +kernel)⟩
section
variable {P : Program} {w : World} {K : PySem.W.Frag} {mg : Str → Option Value} {base : Heap}
theorem sc_l_is_paper : FnScope ["_law_told", "_law_value", "_law_paper", "_law_size", "_law_pattern", "_law_bit", "_law_one", "_law_heights", "_law_here", "_law_line", "_law_turn", "_law_there", "_law_many", "_law_p", "_law_q", "_law_wanted"] ["_law_told", "_law_value", "_law_paper"] (fnScope s_l_is_paper) := fnScope_by (by decide +kernel)
theorem cal_l_is_paper {f : Addr} {fd : FuncData} (F : Def K mg "_law_is_paper" s_l_is_paper f fd) (b : Binds K fd ["_law_told", "_law_value", "_law_paper"] []) (T : Tx mg) (c_l_put : Cal P w K mg base 1 "_law_put" spLPut []) (c_l_is_entry : Cal P w K mg base 2 "_law_is_entry" (spLEnt K) []) : Cal P w K mg base 3 "_law_is_paper" (spLPap K) [] := by
  refine cal0 F b .nil sc_l_is_paper (fun vs H Q E h => ?_) (fun cdv A outer s H vs Q E hr h => ?_)
  · obtain ⟨_, _, _, _, _, _, _, _, rfl, _⟩ := h; rfl
  · obtain ⟨t, tv, v, fl, ss, v0, v1, r, rfl, htold, ok, l2, htv, q0, q9, hv, k⟩ := h
    refine ⟨_, (pss_cons (ps_set (i := 3) sc_l_is_paper.nd rfl (.inr rfl) (pe_callB (cr_max rfl) (by rfl) T.b_max (by decide +kernel) (pa_cons (pe_op op_cat (pe_lst (pa_cons pe_int pa_nil)) (pe_lc (own := [("_law_pattern", 4), ("_law_bit", 5)]) (g := gTup K 2 (gCons (gName 4) (gCons (gName 5) gNil))) (by rfl) sc_l_is_paper.nd (pi_list (pe_ix ix_tup (pv 0) pe_int (fun _ _ => rfl))) (blkOk_by (own := [("_law_pattern", 4), ("_law_bit", 5)]) (N := ["_law_told", "_law_value", "_law_paper", "_law_size", "_law_pattern", "_law_bit", "_law_one", "_law_heights", "_law_here", "_law_line", "_law_turn", "_law_there", "_law_many", "_law_p", "_law_q", "_law_wanted"]) (sc := fnScope s_l_is_paper) (by decide +kernel)) (fun _ _ _ _ _ => (pg_tup rfl (pgs_cons (pg_name (i := 4) sc_l_is_paper.nd rfl (.inl rfl)) (pgs_cons (pg_name (i := 5) sc_l_is_paper.nd rfl (.inl rfl)) pgs_nil)))) (fun _ _ _ _ _ => pts_nil) (fun _ _ _ _ _ => (pe_callB call_len_str (by rfl) T.b_len (by decide +kernel) (pa_cons (pv 4) pa_nil))))) pa_nil)))
    (pss_cons (ps_if (pt_not (pt_val (pe_callB call_isi (by rfl) T.b_isinstance (by decide +kernel) (pa_cons (pv 2) (pa_cons (pe_bltn (v := .ty "tuple") (u := .type "tuple") (by rfl) T.b_tuple (by decide +kernel) rfl) pa_nil))))) (pss_one (ps_ret pe_bl)) pss_nil)
    (pss_cons (ps_if (pt_cmpR (op_neL hr) (pe_lc (own := [("_law_one", 6)]) (g := gName 6) (by rfl) sc_l_is_paper.nd (pi_tup (pv 2)) (blkOk_by (own := [("_law_one", 6)]) (N := ["_law_told", "_law_value", "_law_paper", "_law_size", "_law_pattern", "_law_bit", "_law_one", "_law_heights", "_law_here", "_law_line", "_law_turn", "_law_there", "_law_many", "_law_p", "_law_q", "_law_wanted"]) (sc := fnScope s_l_is_paper) (by decide +kernel)) (fun _ _ _ _ _ => (pg_name (i := 6) sc_l_is_paper.nd rfl (.inl rfl))) (fun _ _ _ _ _ => (pts_one (pt_not (pt_val (pe_c c_l_is_entry hr (by decide) rfl (pa_cons (pv 6) (pa_cons (pv 3) pa_nil))))))) (fun _ _ _ _ _ => (pv 6))) (pe_lst pa_nil) (nomark _)) (pss_one (ps_ret pe_bl)) pss_nil)
    (pss_cons (ps_set (i := 7) sc_l_is_paper.nd rfl (.inl rfl) (pe_callTy (call_dictF rfl) (by rfl) T.b_dict (by decide +kernel) (pa_cons (pv 2) pa_nil)))
    (pss_cons (ps_if (PW.pt (pw_or (pt_cmpR op_ne (pe_callB call_lenD (by rfl) T.b_len (by decide +kernel) (pa_cons (pv 7) pa_nil)) (pe_callB call_len_seq (by rfl) T.b_len (by decide +kernel) (pa_cons (pv 2) pa_nil)) (nomark _)) (pw_or1 (pt_cmp (pc_dnotin (hu_of hr) pe_str (pv 7)))))) (pss_one (ps_ret pe_bl)) pss_nil)
    (pss_cons (ps_lock (ps_for PassesOwn.never rfl (pi_keys (pv 7)) (pg_name (i := 8) sc_l_is_paper.nd rfl (.inl rfl))
    (pss_one (ps_for PassesOwn.never rfl (pi_tup (pe_tup (pa_cons pe_str (pa_cons pe_str pa_nil)))) (pg_name (i := 5) sc_l_is_paper.nd rfl (.inl rfl))
    (pss_cons (ps_set (i := 9) sc_l_is_paper.nd rfl (.inl rfl) (pe_op op_add_str (pv 8) (pv 5)))
    (pss_cons (ps_for PassesOwn.never rfl (pi_range1 (by rfl) T.b_range (pa_cons pe_int pa_nil)) (pg_name (i := 10) sc_l_is_paper.nd rfl (.inl rfl))
    (pss_one (ps_set (i := 9) sc_l_is_paper.nd rfl (.inl rfl) (pe_op op_add_str (pv 9) (pe_c c_l_put hr (by decide) rfl (pa_cons (pv 0) (pa_cons (pv 9) pa_nil)))))))
    (pss_cons (ps_set (i := 11) sc_l_is_paper.nd rfl (.inl rfl) (pe_slice sl_txt (pv 9) (po_some (pe_callB (call_max2 rfl) (by rfl) T.b_max (by decide +kernel) (pa_cons pe_int (pa_cons (pe_op op_sub (pe_callB call_len_str (by rfl) T.b_len (by decide +kernel) (pa_cons (pv 9) pa_nil)) (pv 3)) pa_nil)))) po_none))
    (pss_cons (ps_if (PW.pt (pw_or (pt_cmpR op_ne (pe_c c_l_put hr (by decide) rfl (pa_cons (pv 0) (pa_cons (pv 9) pa_nil))) pe_str (nomark _)) (pw_or1 (pt_cmp (pc_dnotin (hu_of hr) (pv 11) (pv 7)))))) (pss_one (ps_ret pe_bl)) pss_nil)
    (pss_cons (ps_set (i := 12) sc_l_is_paper.nd rfl (.inl rfl) (pe_op op_sub (pe_op op_sub (pe_callB call_len_str (by rfl) T.b_len (by decide +kernel) (pa_cons (pv 9) pa_nil)) (pe_callB call_len_str (by rfl) T.b_len (by decide +kernel) (pa_cons (pv 8) pa_nil))) pe_int))
    (pss_cons (ps_par (i := 13) (j := 14) (by rfl) sc_l_is_paper.nd rfl rfl (by decide) rfl rfl (pa_cons (pe_ix ix_tup (pe_dget (hu_of hr) (pv 7) (pv 8) (fun _ _ => rfl)) pe_int (fun _ _ => rfl)) (pa_cons (pe_ix ix_tup (pe_dget (hu_of hr) (pv 7) (pv 8) (fun _ _ => rfl)) pe_int (fun _ _ => rfl)) pa_nil)) (by rfl))
    (pss_cons (ps_set (i := 15) sc_l_is_paper.nd rfl (.inl rfl) (pe_op op_mul (pe_op op_add (pe_op op_mul (pv 13) (pe_ix ix_tup (pv 1) pe_int (fun _ _ => rfl))) (pe_op op_mul (pe_op op_sub (pe_op op_mul (pv 12) (pe_ix ix_tup (pv 1) pe_int (fun _ _ => rfl))) (pe_ix ix_tup (pv 1) pe_int (fun _ _ => rfl))) (pv 14))) (pe_ix ix_tup (pe_dget (hu_of hr) (pv 7) (pv 11) (fun _ _ => rfl)) pe_int (fun _ _ => rfl))))
    (pss_one (ps_if (pt_cmpR op_gt (pv 15) (pe_op op_mul (pe_op op_mul (pe_ix ix_tup (pe_dget (hu_of hr) (pv 7) (pv 11) (fun _ _ => rfl)) pe_int (fun _ _ => rfl)) (pv 14)) (pe_ix ix_tup (pv 1) pe_int (fun _ _ => rfl))) (nomark _)) (pss_one (ps_ret pe_bl)) pss_nil)))))))))))))
    (pss_one (ps_ret pe_bl)))))))), ?_⟩
    obtain ⟨rr, ps, kb, ht, hl, hs, hss⟩ := id htold
    have lss : ss.length = ps.length := by rw [hss, List.length_map]
    have lg := ok.long
    refine ⟨by show 1 ≤ sizeLine; decide, fun p0 np0 => ?_⟩
    have sp0 := same_upd (o := .lst [.int 0]) np0
    have hp0 : upd H p0 (.lst [.int 0]) p0 = some (.lst [.int 0]) := upd_same
    generalize upd H p0 (.lst [.int 0]) = Ha at sp0 hp0 ⊢
    have hta := sp0 _ _ ht
    have hla := sp0 _ _ hl
    refine ⟨_, rfl, t, _, 1, _, rfl, rfl, SqT.of hta, rfl, rr, rfl, ⟨_, SqL.of hla⟩, fun D nD => ?_⟩
    refine lc_it (walk_list (xs := ps.map V.ref)) (fun i H2 => Same Ha H2 ∧ H2 D = some (.lst ((ss.take i).map fun s => V.int ((s.1.length : Nat) : Int)))) ⟨same_upd nD, upd_same⟩ (fun i H2 _ h2 => h2.1.seq (SqL.of hla)) ?_ ?_
    · rintro i x H2 H3 hi ⟨s2, hD⟩ ⟨rfl, hx⟩
      rw [List.getElem?_map] at hx
      obtain ⟨q, hq, rfl⟩ := Option.map_eq_some_iff.mp hx
      have hqm : q ∈ ps := List.mem_of_getElem? hq
      have hsi : ss[i]? = some (kb q) := by rw [hss, List.getElem?_map, hq]; rfl
      rw [List.length_map] at hi
      have hks : (kb q).1.length ≤ 9 := ok.l9 _ (List.mem_of_getElem? hsi)
      refine ⟨q, _, rfl, SqT.of (s2 _ _ (sp0 _ _ (hs q hqm))), rfl, _, _, rfl, _, _, rfl, rfl, rfl, ?_⟩
      refine ⟨_, rfl, _, rfl, by rw [W_len]; exact sl_len (by omega), _, hD, ?_, ?_, ?_⟩
      · rw [List.length_map, List.length_take]; exact sl_lt (by omega)
      · intro c' o e
        rw [upd_ne (ne_of_none e nD)]
        exact s2 _ _ e
      · rw [upd_same, List.take_add_one, hsi, List.map_append, W_len]; rfl
    · rintro H2 ⟨s2, hD⟩
      rw [List.length_map, ← lss, List.take_length] at hD
      refine ⟨p0, D, _, _, rfl, rfl, s2 _ _ hp0, hD, by rw [List.length_map]; show 1 + ss.length ≤ sizeLine; exact sl_len (by omega), fun p1 np1 => ?_⟩
      have s3 := s2.trans (same_upd (o := .lst ([.int 0] ++ ss.map fun s => V.int ((s.1.length : Nat) : Int))) np1)
      refine ⟨p1, (0 : Int) :: ss.map fun s => ((s.1.length : Nat) : Int), rfl, ?_, by rw [List.length_cons]; omega, fun mx hm1 hm2 => ?_⟩
      · refine SqL.of ?_
        rw [upd_same, List.map_cons, List.map_map]
        rfl
      rw [max_long hm1 hm2]
      have sH := sp0.trans s3
      generalize upd H2 p1 (.lst ([.int 0] ++ ss.map fun s => V.int ((s.1.length : Nat) : Int))) = Hb at sH ⊢
      clear hm1 hm2 hD hp0 hta hla sp0 np1 s2 s3
      have hv1 := hv.same sH
      have htold1 := htold.same sH
      have htv1 := same_tup sH htv
      have k1 : ∀ c H', (c = true ↔ ∃ es, r = some es ∧ HoldP ss v0 v1 es) → Same Hb H' → Q (.bl c) H' := fun c H' hc s' => k c H' hc (sH.trans s')
      clear k hv htold htv sH
      cases hv1 with
      | oth h =>
        obtain ⟨t', h1, h2⟩ := h
        refine ⟨_, rfl, _, _, _, _, false, rfl, .ty _, h1 Hb (Same.refl Hb), h2, _, rfl, iteT ?_⟩
        exact k1 false Hb ⟨fun z => (nomatch z), fun ⟨_, z, _⟩ => (nomatch z)⟩ (Same.refl Hb)
      | @tup tp xs rs htp les hE =>
        have htq : SqT K Hb tp xs := htp.sq
        have lrs : xs.length = rs.length := Paired.length hE
        refine ⟨_, rfl, _, _, _, _, true, rfl, .ty _, sq_ty htq, kit_ty (by decide +kernel), _, rfl, iteF ?_⟩
        refine ⟨_, rfl, tp, rfl, ⟨_, htq⟩, fun D2 nD2 => ?_⟩
        refine lc_it (walk_tup (xs := xs)) (fun i H4 => Same Hb H4 ∧ ∃ ls : List V, H4 D2 = some (.lst ls) ∧ ls.length ≤ i ∧ (ls = [] ↔ ∀ j r, j < i → rs[j]? = some r → r.isSome = true)) ⟨same_upd nD2, [], upd_same, Nat.le_refl _, fun _ j r h => absurd h (Nat.not_lt_zero _), fun _ => rfl⟩ (fun i H4 _ h4 => same_tup h4.1 htq) ?_ ?_
        · rintro i y' H4' H4 hi ⟨s4, ls, hL, lls, hls⟩ ⟨rfl, hx⟩
          obtain ⟨ri, hri, hEi⟩ := paired_get hE hx
          refine ⟨rfl, _, rfl, _, rfl, y', longM ss, ri, rfl, hEi.same s4, by omega, fun H5 s5 => ?_⟩
          cases hrs : ri.isSome with
          | true =>
            refine ⟨_, rfl, iteF ?_⟩
            refine ⟨s4.trans s5, ls, s5 _ _ hL, by omega, ?_⟩
            rw [hls]
            refine ⟨fun h j r hj e => ?_, fun h j r hj e => h j r (by omega) e⟩
            by_cases cj : j = i
            · rw [cj, hri] at e
              cases e
              exact hrs
            · exact h j r (by omega) e
          | false =>
            refine ⟨_, rfl, iteT ?_⟩
            refine ⟨_, rfl, ls, s5 _ _ hL, sl_lt (by omega), same_mut' (s4.trans s5) nD2, ls ++ [y'], upd_same, by rw [List.length_append]; show _ + 1 ≤ _; omega, fun z => absurd z (by simp), fun z => ?_⟩
            have := z i ri (by omega) hri
            rw [hrs] at this
            cases this
        rintro H4 ⟨s4, ls, hL, lls, hls⟩
        refine ⟨by show 0 ≤ sizeLine; decide, fun l5 nl5 => ?_⟩
        have sl5 := same_upd (o := .lst []) nl5
        have s5 := s4.trans sl5
        refine ⟨D2, l5, ls, rfl, rfl, SqL.of (sl5 _ _ hL), SqL.of upd_same, _, rfl, ?_⟩
        generalize upd H4 l5 (.lst []) = H5 at s5 ⊢
        clear sl5 hL
        have hall : ls = [] ↔ (allO rs).isSome = true := by
          rw [hls, allO_isSome, List.all_eq_true]
          refine ⟨fun h x hx => ?_, fun h j r hj e => h r (List.mem_of_getElem? e)⟩
          obtain ⟨j, hj⟩ := List.getElem?_of_mem hx
          exact h j x (by rw [lrs]; exact (List.getElem?_eq_some_iff.mp hj).1) hj
        cases hr0 : allO rs with
        | none =>
          refine iteNT (fun z => by rw [hr0] at hall; exact nomatch hall.mp z) ?_
          exact k1 false H5 ⟨fun z => (nomatch z), fun ⟨_, z, _⟩ => by rw [hr0] at z; cases z⟩ s5
        | some es =>
          refine iteNS (hall.mpr (by rw [hr0]; rfl)) ?_
          obtain ⟨ds, rfl, rfl, hds⟩ := ents_some hE hr0
          have k2 : ∀ c H', (c = true ↔ HoldP ss v0 v1 (ds.map d3)) → Same Hb H' → Q (.bl c) H' := fun c H' hc s' => k1 c H' ⟨fun z => ⟨_, hr0, hc.mp z⟩, fun ⟨es, e1, e2⟩ => hc.mpr (by rw [hr0] at e1; cases e1; exact e2)⟩ s'
          have lds : ds.length ≤ 1000 := by rw [List.length_map] at les; exact les
          have htp5 := htp.same s5
          have htq5 := same_tup s5 htq
          refine ⟨_, rfl, tp, ds.map (·.e), ds.map kv5, rfl, by rw [List.map_map]; exact htp5, ?_, fun Dd nDd => ?_⟩
          · have : ∀ l : List D5, (∀ d ∈ l, EntAt K Hb (longM ss) d) → Paired (fun p kv => SqT K H5 p [kV kv.1, kv.2]) (l.map (·.e)) (l.map kv5) := fun l => by
              induction l with
              | nil => intro _; exact .nil
              | cons d r ih => exact fun h => .cons (same_tup s5 (h d List.mem_cons_self).he) (ih fun x hx => h x (List.mem_cons_of_mem _ hx))
            exact this ds hds
          have sd := same_upd (o := .dK (mergeK [] (ds.map kv5))) nDd
          have hD6 : upd H5 Dd (.dK (mergeK [] (ds.map kv5))) Dd = some (.dK (mergeK [] (ds.map kv5))) := upd_same
          have s6 := s5.trans sd
          have nDb := s5.free nDd
          generalize upd H5 Dd (.dK (mergeK [] (ds.map kv5))) = H6 at hD6 s6 ⊢
          refine ⟨_, rfl, Dd, _, rfl, hD6, _, rfl, tp, _, rfl, .inr (same_tup s6 htq), ?_⟩
          refine ⟨rfl, ?_⟩
          by_cases nd : (ds.map (·.w)).Nodup
          rotate_left
          · have hlt := merge_len_lt (ds.map kv5) fun z => nd ((nodup5 ds).mp z)
            rw [List.length_map] at hlt
            refine ⟨_, rfl, iteNT (fun z => by have := V.int.inj z; rw [List.length_map] at this; omega) ?_⟩
            exact k2 false H6 ⟨fun z => (nomatch z), fun z => absurd (by rw [← w_of]; exact z.1) nd⟩ s6
          rw [merge_nodup _ ((nodup5 ds).mpr nd)] at hD6 ⊢
          refine ⟨_, rfl, iteBF (by rw [List.length_map, List.length_map]; simp) ?_⟩
          by_cases h0 : [] ∈ ds.map (·.w)
          rotate_left
          · have g0 : DGet H6 Dd (.str "") none := by
              rw [W_nil]
              exact .inl ⟨_, .inr (W []), .inl hD6, rfl, (val5_out h0).symm⟩
            refine ⟨_, rfl, Dd, _, rfl, g0, _, rfl, iteT ?_⟩
            exact k2 false H6 ⟨fun z => (nomatch z), fun z => absurd (by rw [← w_of]; exact z.2.1) h0⟩ s6
          obtain ⟨d0, hd0, ed0⟩ := List.mem_map.mp h0
          have g0 : DGet H6 Dd (.str "") (some (.ref d0.t)) := by
            rw [W_nil]
            refine .inl ⟨_, .inr (W []), .inl hD6, rfl, ?_⟩
            have := val5_in nd hd0
            rw [ed0] at this
            exact this.symm
          refine ⟨_, rfl, Dd, _, rfl, g0, _, rfl, iteF ?_⟩
          refine ⟨Dd, _, hD6, trivial, fun od => ?_⟩
          have hLD : upd H6 Dd (.frz od (.dK (ds.map kv5))) Dd = some (.frz od (.dK (ds.map kv5))) := upd_same
          have sHL : Same Hb (upd H6 Dd (.frz od (.dK (ds.map kv5)))) := same_mut' s6 nDb
          have hLu : ∀ {H'}, Same (upd H6 Dd (.frz od (.dK (ds.map kv5)))) H' → Same H6 (upd H' Dd (.dK (ds.map kv5))) := fun s => same_unlock s hD6
          generalize upd H6 Dd (.frz od (.dK (ds.map kv5))) = HL at hLD sHL hLu ⊢
          have fin : ∀ c H', (c = true ↔ HoldP ss v0 v1 (ds.map d3)) → Same HL H' → H' Dd = some (.frz od (.dK (ds.map kv5))) ∧ Q (.bl c) (upd H' Dd (.dK (ds.map kv5))) := fun c H' hc s' => ⟨s' _ _ hLD, k2 c _ hc (s6.trans (hLu s'))⟩
          have lkv : (ds.map kv5).length = ds.length := List.length_map _
          have hEL := fun d hd => (hds d hd).same sHL
          have htvL := same_tup sHL htv1
          have htoldL := htold1.same sHL
          refine ⟨_, rfl, Dd, od, rfl, .inl ⟨_, hLD, ?_⟩⟩
          refine for_it (walk_keys (kvs := ds.map kv5)) (fun i σ H7 => ∃ v4 v5 v6 v8 v9 v10 v11 v12 v13 v14 v15 : Option V, σ = [some (.ref t), some (.ref tv), some (.ref tp), some (.int (longM ss : Nat)), v4, v5, v6, some (.ref Dd), v8, v9, v10, v11, v12, v13, v14, v15] ∧ Same HL H7 ∧ ∀ j d, j < i → ds[j]? = some d → ∀ b, KeptB ss v0 v1 (ds.map d3) (d3 d) b) ⟨_, _, _, _, _, _, _, _, _, _, _, rfl, Same.refl HL, fun j d h => absurd h (Nat.not_lt_zero _)⟩ (fun i σ H7 _ h7 => by obtain ⟨_, _, _, _, _, _, _, _, _, _, _, _, s7, _⟩ := h7; exact s7 _ _ hLD) ?_ ?_
          · rintro i x σ H7' H7 hi ⟨v4, v5, v6, v8, v9, v10, v11, v12, v13, v14, v15, rfl, s7, hks⟩ ⟨rfl, kk, vv, hkv, rfl⟩
            rw [List.getElem?_map] at hkv
            obtain ⟨d, hd, ekv⟩ := Option.map_eq_some_iff.mp hkv
            cases ekv
            have hdm := List.mem_of_getElem? hd
            have hEd := hEL d hdm
            have lu := hEd.lw
            refine ⟨by show 2 ≤ sizeLine; decide, fun q2 nq2 => ?_⟩
            have sq2 := same_upd (o := .tup [.str "0", .str "1"]) nq2
            have hq2 : upd H7 q2 (.tup [.str "0", .str "1"]) q2 = some (.tup [.str "0", .str "1"]) := upd_same
            have s8 := s7.trans sq2
            generalize upd H7 q2 (.tup [.str "0", .str "1"]) = H8 at hq2 s8 ⊢
            clear sq2 nq2 s7
            refine ⟨q2, rfl, ⟨_, SqT.of hq2⟩, ?_⟩
            refine for_it (walk_tup (xs := [V.str "0", V.str "1"])) (fun i2 σ H9 => ∃ v4 v5 v6 v9 v10 v11 v12 v13 v14 v15 : Option V, σ = [some (.ref t), some (.ref tv), some (.ref tp), some (.int (longM ss : Nat)), v4, v5, v6, some (.ref Dd), some (.str (W d.w)), v9, v10, v11, v12, v13, v14, v15] ∧ Same H8 H9 ∧ ∀ j, j < i2 → KeptB ss v0 v1 (ds.map d3) (d3 d) (decide (j = 1))) ⟨_, _, _, _, _, _, _, _, _, _, rfl, Same.refl H8, fun j h => absurd h (Nat.not_lt_zero _)⟩ (fun i σ H9 _ h9 => by obtain ⟨_, _, _, _, _, _, _, _, _, _, _, s9, _⟩ := h9; exact SqT.of (s9 _ _ hq2)) ?_ ?_
            · rintro i2 x σ H9' H9 hi2 ⟨v4, v5, v6, v9, v10, v11, v12, v13, v14, v15, rfl, s9, hk2⟩ ⟨rfl, hx2⟩
              obtain ⟨hj2, rfl⟩ := bits_at hx2
              generalize ebb : decide (i2 = 1) = bb
              have ew : W d.w ++ W [bb] = W (d.w ++ [bb]) := W_cat d.w [bb]
              have el : (W d.w).length + (W [bb]).length ≤ sizeLine := by
                rw [W_len, W_len, List.length_cons, List.length_nil]; exact sl_len (by omega)
              have hll : (d.w ++ [bb]).length = d.w.length + 1 := by rw [List.length_append]; rfl
              refine ⟨_, rfl, _, rfl, _, _, rfl, rfl, el, ?_⟩
              rw [ew]
              have s89 := s8.trans s9
              refine ⟨_, rfl, by decide, by decide, for_it walk_range (fun i3 σ H10 => ∃ (y : List Bool) (v10 : Option V), σ = [some (.ref t), some (.ref tv), some (.ref tp), some (.int (longM ss : Nat)), v4, some (.str (W [bb])), v6, some (.ref Dd), some (.str (W d.w)), some (.str (W (d.w ++ [bb] ++ y))), v10, v11, v12, v13, v14, v15] ∧ Same H9 H10 ∧ Trn ss (d.w ++ [bb]) i3 y) ⟨[], _, by rw [List.append_nil]; rfl, Same.refl _, .start⟩ (fun _ _ _ _ _ => trivial) ?_ ?_⟩
              · rintro i3 x σ H10' H10 hi3 ⟨y, v10, rfl, s10, hT⟩ ⟨rfl, rfl⟩
                have hi40 : i3 < 40 := hi3
                have ly := hT.le
                have lly : (d.w ++ [bb] ++ y).length = d.w.length + 1 + y.length := by rw [List.length_append, hll]
                refine ⟨_, rfl, _, rfl, _, rfl, t, fl, _, ss, rfl, htoldL.same (s89.trans s10), by omega, ok.few, fun s hs => Nat.le_trans (ok.l9 s hs) (by decide), fun H11 s11 => ?_⟩
                refine ⟨_, _, rfl, rfl, by rw [W_len, W_len]; have := putL_len ss (d.w ++ [bb] ++ y); exact sl_len (by omega), ?_⟩
                rw [W_cat, List.append_assoc (d.w ++ [bb])]
                exact ⟨_, _, rfl, s10.trans s11, hT.next⟩
              rintro σ H10 ⟨y, v10, rfl, s10, hT⟩
              have hTd := hT.done ok.free l2
              have s810 := s89.trans s10
              have ly : y.length ≤ 40 := hT.le
              have lL : (d.w ++ [bb] ++ y).length = d.w.length + 1 + y.length := by rw [List.length_append, hll]
              have e1 : (W (d.w ++ [bb] ++ y)).length = d.w.length + 1 + y.length := by rw [W_len, lL]
              have l1 : (W (d.w ++ [bb] ++ y)).length ≤ sizeLine := by rw [e1]; exact sl_len (by omega)
              refine ⟨_, rfl, _, rfl, _, rfl, l1, _, rfl, _, _, rfl, rfl, _, _, rfl, _, rfl, _, rfl, l1, ?_⟩
              show gName 11 (.str (Txt.slice (W (d.w ++ [bb] ++ y)) (some (if (((W (d.w ++ [bb] ++ y)).length : Nat) : Int) - (longM ss : Nat) > 0 then (((W (d.w ++ [bb] ++ y)).length : Nat) : Int) - (longM ss : Nat) else 0)) none)) _ _ _
              rw [W_tail]
              have fail : ∀ H', Same HL H' → ¬ KeptB ss v0 v1 (ds.map d3) (d3 d) bb → H' Dd = some (.frz od (.dK (ds.map kv5))) ∧ Q (.bl false) (upd H' Dd (.dK (ds.map kv5))) := fun H' s' hn => fin false H' ⟨fun z => (nomatch z), fun z => absurd (z.2.2 (d3 d) (List.mem_map.mpr ⟨d, hdm, rfl⟩) bb) hn⟩ s'
              refine ⟨_, rfl, _, rfl, t, fl, _, ss, rfl, htoldL.same s810, by omega, ok.few, fun s hs => Nat.le_trans (ok.l9 s hs) (by decide), fun H11 s11 => ⟨rfl, _, rfl, ?_⟩⟩
              have s811 := s810.trans s11
              rcases hTd with ⟨hp0, hI⟩ | ⟨hp0, hno⟩
              rotate_left
              · refine iteNT (fun z => hp0 (W_inj (by rw [← W_nil]; exact V.str.inj z))) ?_
                refine fail H11 s811 ?_
                rintro ⟨y', _, _, hy', _⟩
                exact hno y' hy'
              refine iteNS (congrArg V.str (by rw [hp0, W_nil])) ?_
              have rdL : ∀ {H'}, Same HL H' → Rd H' Dd (.dK (ds.map kv5)) := fun {H'} s' => .inr ⟨od, s' _ _ hLD⟩
              by_cases hin : tl (longM ss) (d.w ++ [bb] ++ y) ∈ ds.map (·.w)
              rotate_left
              · have g1 : DGet H11 Dd (.str (W (tl (longM ss) (d.w ++ [bb] ++ y)))) none := .inl ⟨_, .inr (W _), rdL s811, rfl, (val5_out hin).symm⟩
                refine ⟨_, rfl, _, rfl, Dd, _, rfl, g1, _, rfl, iteT ?_⟩
                exact fail H11 s811 (kept_no hI hin)
              obtain ⟨e, he, ewe⟩ := List.mem_map.mp hin
              have hEe := hEL e he
              have g1 : DGet H11 Dd (.str (W (tl (longM ss) (d.w ++ [bb] ++ y)))) (some (.ref e.t)) := .inl ⟨_, .inr (W (tl (longM ss) (d.w ++ [bb] ++ y))), rdL s811, rfl, by rw [← ewe]; exact (val5_in nd he).symm⟩
              have g2 : DGet H11 Dd (.str (W d.w)) (some (.ref d.t)) := .inl ⟨_, .inr (W d.w), rdL s811, rfl, (val5_in nd hdm).symm⟩
              refine ⟨_, rfl, _, rfl, Dd, _, rfl, g1, _, rfl, iteF ?_⟩
              have z0 := hEd.q0
              have z9 := hEd.q9
              have y0 := hEe.q0
              have y9 := hEe.q9
              have dt := same_tup s811 hEd.ht
              have et := same_tup s811 hEe.ht
              have ht11 := same_tup s811 htvL
              have ld : (W d.w).length ≤ sizeLine := by rw [W_len]; exact sl_len (by omega)
              refine ⟨_, rfl, _, rfl, l1, _, rfl, _, rfl, ld, _, _, rfl, rfl, _, _, rfl, rfl, ?_⟩
              have n1 : (((W (d.w ++ [bb] ++ y)).length : Nat) : Int) - (((W d.w).length : Nat) : Int) - 1 = (y.length : Nat) := by
                rw [e1, W_len]; omega
              show gName 12 (.int ((((W (d.w ++ [bb] ++ y)).length : Nat) : Int) - (((W d.w).length : Nat) : Int) - 1)) _ _ _
              rw [n1]
              refine ⟨_, rfl, _, rfl, Dd, _, rfl, g2, d.t, _, _, _, rfl, rfl, dt, atI_nat (j := 0) rfl, _, rfl, _, rfl, Dd, _, rfl, g2, d.t, _, _, _, rfl, rfl, dt, atI_nat (j := 1) rfl, _, _, rfl, ?_⟩
              refine ⟨_, rfl, _, rfl, tv, _, _, _, rfl, rfl, ht11, atI_nat (j := 1) rfl, _, _, rfl, rfl, .inr ⟨by omega, by omega⟩, ?_⟩
              refine ⟨_, rfl, _, rfl, tv, _, _, _, rfl, rfl, ht11, atI_nat (j := 1) rfl, _, _, rfl, rfl, .inr ⟨by omega, by omega⟩, ?_⟩
              refine ⟨_, rfl, tv, _, _, _, rfl, rfl, ht11, atI_nat (j := 0) rfl, _, _, rfl, rfl, _, rfl, _, _, rfl, rfl, .inr ⟨by omega, by omega⟩, _, _, rfl, rfl, ?_⟩
              refine ⟨_, rfl, _, rfl, Dd, _, rfl, g1, e.t, _, _, _, rfl, rfl, et, atI_nat (j := 1) rfl, _, _, rfl, rfl, .inr ⟨by omega, by omega⟩, ?_⟩
              refine ⟨_, rfl, _, rfl, _, rfl, Dd, _, rfl, g1, e.t, _, _, _, rfl, rfl, et, atI_nat (j := 0) rfl, _, rfl, _, _, rfl, rfl, .inr ⟨by omega, by omega⟩, ?_⟩
              refine ⟨_, rfl, tv, _, _, _, rfl, rfl, ht11, atI_nat (j := 1) rfl, _, _, rfl, rfl, .inr ⟨by omega, by omega⟩, _, _, rfl, rfl, _, rfl, ?_⟩
              have kk := kept_of (v0 := v0) (v1 := v1) nd he hI ewe
              have emul : e.p * d.q * v1 = e.p * (d.q * v1) := Int.mul_assoc _ _ _
              by_cases c : (d.p * v1 + ((y.length : Nat) * v1 - v0) * d.q) * e.q ≤ e.p * (d.q * v1)
              · refine iteDF (by show ¬ e.p * d.q * v1 < (d.p * v1 + ((y.length : Nat) * v1 - v0) * d.q) * e.q; rw [emul]; omega) ?_
                refine ⟨_, _, _, _, _, _, _, _, _, _, rfl, s9.trans (s10.trans s11), fun j hj => ?_⟩
                by_cases cj : j = i2
                · rw [cj, ebb]
                  exact kk.mpr c
                · exact hk2 j (by omega)
              · refine iteDT (by show e.p * d.q * v1 < (d.p * v1 + ((y.length : Nat) * v1 - v0) * d.q) * e.q; rw [emul]; omega) ?_
                exact fail H11 s811 fun z => c (kk.mp z)
            · rintro σ H9 ⟨v4, v5, v6, v9, v10, v11, v12, v13, v14, v15, rfl, s9, hk2⟩
              refine ⟨_, _, _, _, _, _, _, _, _, _, _, rfl, s8.trans s9, fun j e hj he => ?_⟩
              by_cases cj : j = i
              · rw [cj, hd] at he
                cases he
                intro b
                cases b with
                | false => exact hk2 0 (by show 0 < 2; decide)
                | true => exact hk2 1 (by show 1 < 2; decide)
              · exact hks j e (by omega) he
          · rintro σ H7 ⟨v4, v5, v6, v8, v9, v10, v11, v12, v13, v14, v15, rfl, s7, hks⟩
            refine ⟨s7 _ _ hLD, ?_⟩
            refine k2 true _ ⟨fun _ => ⟨by rw [w_of]; exact nd, by rw [w_of]; exact h0, fun e he b => ?_⟩, fun _ => rfl⟩ (s6.trans (hLu s7))
            obtain ⟨d, hd, rfl⟩ := List.mem_map.mp he
            obtain ⟨j, hj⟩ := List.getElem?_of_mem hd
            exact hks j d (by rw [lkv]; exact (List.getElem?_eq_some_iff.mp hj).1) hj b
end
end U
set_option maxRecDepth 100000
set_option maxHeartbeats 4000000
namespace U
open PySem PySem.Spec PyProof.Rows
open L2 hiding Fun CX0 E0 pass0 Fun.binds
open C8 Lx SX StX
theorem W_ok (l : List Bool) : PyData.strOk (W l) = true := by
  unfold PyData.strOk
  rw [← Array.all_toList, List.all_eq_true]
  intro c hc
  have e : (W l).cps.toList = l.map bt := W_tl l
  rw [e] at hc
  obtain ⟨b, _, rfl⟩ := List.mem_map.mp hc
  cases b <;> decide
def EA (H : Hp) (x : V) : Prop := ∃ (e : Addr) (w : List Bool) (f : Addr) (p q : Int), x = .ref e ∧ H e = some (.tup [.str (W w), .ref f]) ∧ H f = some (.tup [.int p, .int q]) ∧ w.length ≤ 9 ∧ 0 < q ∧ q ≤ 100000
theorem EA.up {b : Addr} {H H' : Hp} {x : V} (h : EA H x) (hb : Box H b) (u : Up b H H') : EA H' x := by
  obtain ⟨e, w, f, p, q, h1, h2, h3, h4⟩ := h
  exact ⟨e, w, f, p, q, h1, u.1 _ _ h2 (hb.neT h2), u.1 _ _ h3 (hb.neT h3), h4⟩
def EntE (K : PySem.W.Frag) (H : Hp) (x : V) : Prop := ∀ sz, ∃ r, EntR K H sz x r
theorem EntE.same {K : PySem.W.Frag} {H H' : Hp} {x : V} (h : EntE K H x) (s : Same H H') : EntE K H' x := fun sz => by
  obtain ⟨r, h⟩ := h sz
  exact ⟨r, h.same s⟩
theorem EA.ent {K : PySem.W.Frag} {H : Hp} {x : V} (h : EA H x) : EntE K H x := by
  obtain ⟨e, w, f, p, q, rfl, h2, h3, h4, q0, q9⟩ := h
  exact fun sz => ⟨_, .pair (SqT.of h2) (anyS_str (by rw [W_len]; omega) (W_ok w)) (.num (SqT.of h3) (by omega))⟩
def BentR (K : PySem.W.Frag) (H : Hp) (v : V) : Prop := ∃ c ys, v = .ref c ∧ TpX H c ys ∧ ys.length ≤ 1000 ∧ ∀ y ∈ ys, EntE K H y
theorem entsE {K : PySem.W.Frag} {H : Hp} {sz : Nat} : ∀ {xs : List V}, (∀ x ∈ xs, EntE K H x) → ∃ rs, Paired (EntR K H sz) xs rs
  | [], _ => ⟨[], .nil⟩
  | x :: r, h => by
    obtain ⟨rx, hx⟩ := h x List.mem_cons_self sz
    obtain ⟨rs, hr⟩ := entsE (K := K) (sz := sz) (xs := r) fun y hy => h y (List.mem_cons_of_mem _ hy)
    exact ⟨rx :: rs, .cons hx hr⟩
theorem BentR.pap {K : PySem.W.Frag} {H : Hp} {sz : Nat} {v : V} (h : BentR K H v) : ∃ r, PapR K H sz v r := by
  obtain ⟨c, ys, rfl, h, l, k⟩ := h
  obtain ⟨rs, hr⟩ := entsE (K := K) (sz := sz) k
  exact ⟨_, .tup h l hr⟩
theorem slF_cut {K : PySem.W.Frag} {H : Hp} {t : Addr} {xs : List V} {lo hi : Option Int} {Q : VK} (ht : SqT K H t xs) (hn : ¬ (HT.sIx xs.length 0 lo = 0 ∧ HT.sIx xs.length xs.length hi = xs.length)) (k : ∀ p H', Same H H' → TpX H' p (cutV xs lo hi) → Q (.ref p) H') : rSlF K (.ref t) lo hi H Q :=
  ⟨t, xs, rfl, ht, fun h => absurd h hn, fun _ p o np d => k p _ (same_upd np) (.new d)⟩
theorem slF_any {K : PySem.W.Frag} {H : Hp} {t : Addr} {xs : List V} {lo hi : Option Int} {Q : VK} (ht : SqT K H t xs) (k : ∀ p H', Same H H' → SqT K H' p (cutV xs lo hi) → Q (.ref p) H') : rSlF K (.ref t) lo hi H Q := by
  refine ⟨t, xs, rfl, ht, fun h => ?_, fun _ p o np d => k p _ (same_upd np) (TpX.new d).sq⟩
  refine k t H (Same.refl H) ?_
  unfold cutV
  rw [h.1, h.2, List.drop_zero, Nat.sub_zero, List.take_length]
  exact ht
theorem cut_mem {xs : List V} {lo hi : Option Int} {v : V} (h : v ∈ cutV xs lo hi) : v ∈ xs := List.mem_of_mem_drop (List.mem_of_mem_take h)
theorem catF {K : PySem.W.Frag} {H : Hp} {t u : Addr} {xs ys : List V} {Q : VK} (ht : TpX H t xs) (hu : TpX H u ys) (hl : xs.length + ys.length ≤ 100000) (k : ∀ p H', Same H H' → TpX H' p (xs ++ ys) → Q (.ref p) H') : rCatFA K (.ref t) (.ref u) H Q := by
  refine ⟨t, u, xs, ys, rfl, rfl, ht.sq, hu.sq, sl_len hl, fun e => ?_, fun _ e => ?_, fun _ _ p o np d => k p _ (same_upd np) (.new d)⟩
  · subst e
    exact k u H (Same.refl H) hu
  · subst e
    exact k t H (Same.refl H) (by rw [List.append_nil]; exact ht)
theorem catF2 {K : PySem.W.Frag} {H : Hp} {t u : Addr} {xs ys : List V} {Q : VK} (ht : SqT K H t xs) (hu : SqT K H u ys) (nx : xs ≠ []) (ny : ys ≠ []) (hl : xs.length + ys.length ≤ 100000) (k : ∀ p H', Same H H' → TpX H' p (xs ++ ys) → Q (.ref p) H') : rCatFA K (.ref t) (.ref u) H Q :=
  ⟨t, u, xs, ys, rfl, rfl, ht, hu, sl_len hl, fun e => absurd e nx, fun _ e => absurd e ny, fun _ _ p o np d => k p _ (same_upd np) (.new d)⟩
theorem cut_one {es : List V} {n : Nat} (h : n < es.length) : cutV es (some ((n : Nat) : Int)) (some (((n : Nat) : Int) + 1)) ≠ [] := by
  unfold cutV
  rw [show ((n : Nat) : Int) + 1 = ((n + 1 : Nat) : Int) by omega, HT.sIx_nat, HT.sIx_nat, Nat.min_eq_left (by omega), Nat.min_eq_left (by omega)]
  intro z
  have := congrArg List.length z
  rw [List.length_take, List.length_drop, List.length_nil] at this
  omega
theorem ent_mk {K : PySem.W.Frag} {H : Hp} {c f : Addr} {w : List Bool} {p q : Int} (hc : SqT K H c [.str (W w), .ref f]) (hf : SqT K H f [.int p, .int q]) (lw : w.length ≤ 100) (q9 : q < 1000000000) : EntE K H (.ref c) :=
  fun sz => ⟨_, .pair hc (anyS_str (by rw [W_len]; omega) (W_ok w)) (.num hf q9)⟩
theorem ent_int {K : PySem.W.Frag} {H : Hp} {c : Addr} {w : List Bool} {p : Int} (hc : SqT K H c [.str (W w), .int p]) (lw : w.length ≤ 100) : EntE K H (.ref c) :=
  fun sz => ⟨_, .pair hc (anyS_str (by rw [W_len]; omega) (W_ok w)) (.oth ⟨_, fun _ _ => .base (.int p), kit_ty (by decide +kernel)⟩)⟩
def spBent (K : PySem.W.Frag) : Sp := fun vs H Q _ => ∃ (b a : Addr) (es : List V), vs = [.ref b, .ref a] ∧ Box H b ∧ H a = some (.tup es) ∧ (∀ x ∈ es, EA H x) ∧ es ≠ [] ∧ es.length ≤ 100 ∧ ∀ v H', Up b H H' → BentR K H' v → Q v H'
section
variable {P : Program} {w : World} {K : PySem.W.Frag} {mg : Str → Option Value} {base : Heap}
theorem sc_l_bent : FnScope ["_law_box", "_law_rows", "_law_at", "_law_form", "_law_standing", "_law_height", "_law_entry"] ["_law_box", "_law_rows"] (fnScope s_l_bent) := fnScope_by (by decide +kernel)
theorem cal_l_bent {f : Addr} {fd : FuncData} (F : Def K mg "_law_bent" s_l_bent f fd) (b : Binds K fd ["_law_box", "_law_rows"] []) (T : Tx mg) (c_l_choose : Cal P w K mg base 1 "_law_choose" spChoose []) (c_l_one_of : Cal P w K mg base 2 "_law_one_of" spOneOf []) : Cal P w K mg base 3 "_law_bent" (spBent K) [] := by
  refine cal0 F b .nil sc_l_bent (fun vs H Q E h => ?_) (fun cdv A outer s H vs Q E hr h => ?_)
  · obtain ⟨_, _, _, rfl, _⟩ := h; rfl
  · obtain ⟨bx, a, es, rfl, hb, ha, hE, ne, l9, k⟩ := h
    refine ⟨_, (pss_cons (ps_par (i := 2) (j := 3) (by rfl) sc_l_bent.nd rfl rfl (by decide) rfl rfl (pa_cons (pe_c c_l_choose hr (by decide) rfl (pa_cons (pv 0) (pa_cons (pe_callB call_len_seq (by rfl) T.b_len (by decide +kernel) (pa_cons (pv 1) pa_nil)) pa_nil))) (pa_cons (pe_c c_l_choose hr (by decide) rfl (pa_cons (pv 0) (pa_cons pe_int pa_nil))) pa_nil)) (by rfl))
    (pss_cons (ps_asg (pe_ix ix_tup (pv 1) (pv 2) (fun _ _ => rfl)) (pg_tup rfl (pgs_cons (pg_name (i := 4) sc_l_bent.nd rfl (.inl rfl)) (pgs_cons (pg_name (i := 5) sc_l_bent.nd rfl (.inl rfl)) pgs_nil))))
    (pss_cons (ps_if (pt_cmpR op_eq (pv 3) pe_int (nomark _)) (pss_one (ps_ret (pe_op op_catFA (pe_slice sl_tupF (pv 1) po_none (po_some (pv 2))) (pe_slice sl_tupF (pv 1) (po_some (pe_op op_add (pv 2) pe_int)) po_none)))) pss_nil)
    (pss_cons (ps_if (pt_cmpR op_eq (pv 3) pe_int (nomark _)) (pss_one (ps_ret (pe_op op_catFA (pv 1) (pe_slice sl_tupF (pv 1) (po_some (pv 2)) (po_some (pe_op op_add (pv 2) pe_int)))))) pss_nil)
    (pss_cons (ps_set (i := 6) sc_l_bent.nd rfl (.inl rfl) (pe_tupF (pa_cons (pe_op op_add_str (pv 4) pe_str) (pa_cons (pv 5) pa_nil))))
    (pss_cut (ps_if (pt_cmpR op_eq (pv 3) pe_int (nomark _)) (pss_one (ps_set (i := 6) sc_l_bent.nd rfl (.inl rfl) (pe_tupF (pa_cons (pv 4) (pa_cons (pe_tupF (pa_cons (pe_op op_add (pe_ix ix_tup (pv 5) pe_int (fun _ _ => rfl)) (pe_op op_mul (pe_c c_l_one_of hr (by decide) rfl (pa_cons (pv 0) (pa_cons (pe_lst (pa_cons (pe_op op_sub pe_int pe_int) (pa_cons pe_int pa_nil))) pa_nil))) (pe_ix ix_tup (pv 5) pe_int (fun _ _ => rfl)))) (pa_cons (pe_ix ix_tup (pv 5) pe_int (fun _ _ => rfl)) pa_nil))) pa_nil))))) (pss_one (ps_if (pt_cmpR op_eq (pv 3) pe_int (nomark _)) (pss_one (ps_set (i := 6) sc_l_bent.nd rfl (.inl rfl) (pe_tupF (pa_cons (pv 4) (pa_cons (pe_tupF (pa_cons (pe_op op_mul (pe_ix ix_tup (pv 5) pe_int (fun _ _ => rfl)) pe_int) (pa_cons (pe_op op_mul (pe_ix ix_tup (pv 5) pe_int (fun _ _ => rfl)) pe_int) pa_nil))) pa_nil))))) (pss_one (ps_if (pt_cmpR op_eq (pv 3) pe_int (nomark _)) (pss_one (ps_set (i := 6) sc_l_bent.nd rfl (.inl rfl) (pe_tupF (pa_cons (pv 4) (pa_cons (pe_ix ix_tup (pv 5) pe_int (fun _ _ => rfl)) pa_nil))))) pss_nil)))))
    (pss_one (ps_ret (pe_ifExp (pt_cmpR op_eq (pv 3) pe_int (nomark _)) (pe_revT0F (pv 1)) (pe_op op_catFA (pe_op op_catFA (pe_slice sl_tupF (pv 1) po_none (po_some (pv 2))) (pe_tupF (pa_cons (pv 6) pa_nil))) (pe_slice sl_tupF (pv 1) (po_some (pe_op op_add (pv 2) pe_int)) po_none))))))))))), ?_⟩
    have lpos := List.length_pos_iff.mpr ne
    refine ⟨_, rfl, _, rfl, a, _, rfl, .inr (SqT.of ha), bx, es.length, rfl, hb, by omega, by omega, fun d H1 d0 d9 u1 => ?_⟩
    refine ⟨_, rfl, bx, 7, rfl, u1.2, by decide, by decide, fun g H2 g0 g7 u2 => ⟨_, _, rfl, ?_⟩⟩
    obtain ⟨n, rfl⟩ := Int.eq_ofNat_of_zero_le d0
    have hn : n < es.length := by omega
    have u12 := u1.trans u2
    have ha2 := u12.1 _ _ ha (hb.neT ha)
    have hE2 : ∀ x ∈ es, EA H2 x := fun x hx => (hE x hx).up hb u12
    have hx : es[n]? = some es[n] := List.getElem?_eq_getElem hn
    obtain ⟨e, w, f, p, q, ex, he, hf, lw, q0, q9⟩ := id (hE2 _ (List.getElem_mem hn))
    rw [ex] at hx
    refine ⟨_, rfl, _, rfl, a, _, _, _, rfl, rfl, SqT.of ha2, atI_nat (j := n) hx, ?_⟩
    refine ⟨e, _, rfl, SqT.of he, rfl, _, _, rfl, _, _, rfl, rfl, ?_⟩
    refine ⟨_, rfl, rfl, _, rfl, ?_⟩
    have n1 : ¬ (HT.sIx es.length 0 (none : Option Int) = 0 ∧ HT.sIx es.length es.length (some ((n : Nat) : Int)) = es.length) := fun z => by
      have := z.2
      rw [HT.sIx_nat] at this
      omega
    have n2 : ¬ (HT.sIx es.length 0 (some (((n : Nat) : Int) + 1)) = 0 ∧ HT.sIx es.length es.length (none : Option Int) = es.length) := fun z => by
      have := z.1
      rw [show ((n : Nat) : Int) + 1 = ((n + 1 : Nat) : Int) by omega, HT.sIx_nat] at this
      omega
    have okU : ∀ {H'} {c : Addr} {ys : List V}, Up bx H2 H' → TpX H' c ys → ys.length ≤ 1000 → (∀ y ∈ ys, y ∈ es ∨ EntE K H' y) → Q (.ref c) H' := fun {H' c ys} s' hc hl hy => k _ _ (u12.trans s') ⟨c, ys, rfl, hc, hl, fun y hm => (hy y hm).elim (fun z => ((hE2 y z).up u12.2 s').ent) id⟩
    have okB : ∀ {H'} {c : Addr} {ys : List V}, Same H2 H' → TpX H' c ys → ys.length ≤ 1000 → (∀ y ∈ ys, y ∈ es ∨ EntE K H' y) → Q (.ref c) H' := fun {H' c ys} s' => okU (Up.of_same u12.2 s')
    have lc : ∀ lo hi, (cutV es lo hi).length ≤ 100 := fun lo hi => Nat.le_trans (cutV_length es lo hi) l9
    by_cases c0 : g = 0
    · refine iteDT (by rw [c0]) ?_
      refine ⟨_, rfl, _, rfl, _, rfl, slF_cut (SqT.of ha2) n1 fun p1 H3 s3 t3 => ?_⟩
      refine ⟨_, rfl, _, rfl, _, _, rfl, rfl, _, rfl, ?_⟩
      dsimp only [tNoPart]
      refine slF_cut (SqT.of (s3 _ _ ha2)) n2 fun p2 H4 s4 t4 => ?_
      refine catF (t3.same s4) t4 (by have := lc none (some ((n : Nat) : Int)); have := lc (some (((n : Nat) : Int) + 1)) none; omega) fun p H5 s5 t5 => okB ((s3.trans s4).trans s5) t5 (by rw [List.length_append]; have := lc none (some ((n : Nat) : Int)); have := lc (some (((n : Nat) : Int) + 1)) none; omega) fun y hy => .inl ((List.mem_append.mp hy).elim cut_mem cut_mem)
    refine iteDF (fun z => c0 (V.int.inj z)) ?_
    refine ⟨_, rfl, rfl, _, rfl, ?_⟩
    by_cases c1 : g = 1
    · refine iteDT (by rw [c1]) ?_
      refine ⟨_, rfl, _, rfl, _, rfl, _, rfl, _, rfl, _, _, rfl, rfl, _, rfl, slF_any (SqT.of ha2) fun p2 H4 s4 t4 => ?_⟩
      refine catF2 (SqT.of (s4 _ _ ha2)) t4 ne (cut_one hn) (by have := lc (some ((n : Nat) : Int)) (some (((n : Nat) : Int) + 1)); omega) fun p H5 s5 t5 => okB (s4.trans s5) t5 (by rw [List.length_append]; have := lc (some ((n : Nat) : Int)) (some (((n : Nat) : Int) + 1)); omega) fun y hy => .inl ((List.mem_append.mp hy).elim id cut_mem)
    refine iteDF (fun z => c1 (V.int.inj z)) ?_
    have lww : (W w).length = w.length := W_len w
    have e0 : W w ++ ("0" : Str) = W (w ++ [false]) := by rw [W_0]; exact W_cat w [false]
    refine ⟨_, rfl, _, _, rfl, rfl, by rw [lww, show ("0" : Str).length = 1 by decide +kernel]; exact sl_len (by omega), _, rfl, by show 2 ≤ sizeLine; decide, fun c oc nc dc => ?_⟩
    rw [e0]
    have sc := same_upd (o := .frz oc (.tup [.str (W (w ++ [false])), .ref f])) nc
    have tc : TpX (upd H2 c (.frz oc (.tup [.str (W (w ++ [false])), .ref f]))) c [.str (W (w ++ [false])), .ref f] := .new dc
    generalize upd H2 c (.frz oc (.tup [.str (W (w ++ [false])), .ref f])) = H3 at sc tc ⊢
    have u3 := Up.of_same u12.2 sc
    have hf3 := sc _ _ hf
    have E3 : EntE K H3 (.ref c) := ent_mk tc.sq (SqT.of hf3) (by rw [List.length_append]; show _ + 1 ≤ 100; omega) (by omega)
    refine ⟨fun σ' H' => ∃ c : Addr, σ' = [some (.ref bx), some (.ref a), some (.int n), some (.int g), some (.str (W w)), some (.ref f), some (.ref c)] ∧ Up bx H2 H' ∧ EntE K H' (.ref c), ?_, ?_⟩
    · refine ⟨_, rfl, rfl, _, rfl, ?_⟩
      by_cases c2 : g = 2
      · refine iteDT (by rw [c2]) ?_
        refine ⟨_, rfl, _, rfl, f, _, _, _, rfl, rfl, SqT.of hf3, atI_nat (j := 0) rfl, _, rfl, _, _, rfl, rfl, by show 2 ≤ sizeLine; decide, fun l nl => ?_⟩
        have sl := same_upd (o := .lst [.int (0 - 1), .int 1]) nl
        refine ⟨bx, l, _, rfl, u3.2.same sl, upd_same, u3.2.ne nl, by show 0 < 2; decide, by show 2 < 1000; decide, fun v H4 hv u4 => ?_⟩
        obtain ⟨s0, rfl⟩ : ∃ s0 : Int, v = .int s0 := by
          simp only [List.mem_cons, List.not_mem_nil, or_false] at hv
          rcases hv with rfl | rfl <;> exact ⟨_, rfl⟩
        have hf4 := u4.1 _ _ (sl _ _ hf3) ((u3.2.same sl).neT (sl _ _ hf3))
        refine ⟨_, rfl, f, _, _, _, rfl, rfl, SqT.of hf4, atI_nat (j := 1) rfl, _, _, rfl, rfl, .inr ⟨by omega, by omega⟩, _, _, rfl, rfl, _, rfl, f, _, _, _, rfl, rfl, SqT.of hf4, atI_nat (j := 1) rfl, by show 2 ≤ sizeLine; decide, fun p1 o1 m1 d1 => ⟨by show 2 ≤ sizeLine; decide, fun p2 o2 m2 d2 => ?_⟩⟩
        have u34 := (u3.same sl).trans u4
        exact ⟨p2, rfl, (u34.same (same_upd m1)).same (same_upd m2), ent_mk (TpX.new d2).sq ((TpX.new d1).same (same_upd m2)).sq (by omega) (by omega)⟩
      refine iteDF (fun z => c2 (V.int.inj z)) ?_
      refine ⟨_, rfl, rfl, _, rfl, ?_⟩
      by_cases c4 : g = 4
      · refine iteDT (by rw [c4]) ?_
        refine ⟨_, rfl, _, rfl, f, _, _, _, rfl, rfl, SqT.of hf3, atI_nat (j := 0) rfl, _, _, rfl, rfl, .inr ⟨by omega, by omega⟩, _, rfl, f, _, _, _, rfl, rfl, SqT.of hf3, atI_nat (j := 1) rfl, _, _, rfl, rfl, .inr ⟨by omega, by omega⟩, by show 2 ≤ sizeLine; decide, fun p1 o1 m1 d1 => ⟨by show 2 ≤ sizeLine; decide, fun p2 o2 m2 d2 => ?_⟩⟩
        exact ⟨p2, rfl, (u3.same (same_upd m1)).same (same_upd m2), ent_mk (TpX.new d2).sq ((TpX.new d1).same (same_upd m2)).sq (by omega) (by omega)⟩
      refine iteDF (fun z => c4 (V.int.inj z)) ?_
      refine ⟨_, rfl, rfl, _, rfl, ?_⟩
      by_cases c5 : g = 5
      · refine iteDT (by rw [c5]) ?_
        refine ⟨_, rfl, _, rfl, f, _, _, _, rfl, rfl, SqT.of hf3, atI_nat (j := 0) rfl, by show 2 ≤ sizeLine; decide, fun p2 o2 m2 d2 => ?_⟩
        exact ⟨p2, rfl, u3.same (same_upd m2), ent_int (TpX.new d2).sq (by omega)⟩
      refine iteDF (fun z => c5 (V.int.inj z)) ?_
      exact ⟨c, rfl, u3, E3⟩
    · rintro σ' H4 ⟨c, rfl, u4, E4⟩
      have ha4 := u4.1 _ _ ha2 (u12.2.neT ha2)
      refine ⟨_, rfl, rfl, _, rfl, ?_⟩
      by_cases c6 : g = 6
      · refine iteDT (by rw [c6]) ?_
        refine ⟨_, rfl, a, _, rfl, SqT.of ha4, fun p o np d => ?_⟩
        exact okU (u4.same (same_upd np)) (.new d) (by rw [List.length_reverse]; omega) fun y hy => .inl (List.mem_reverse.mp hy)
      refine iteDF (fun z => c6 (V.int.inj z)) ?_
      refine ⟨_, rfl, _, rfl, _, rfl, slF_cut (SqT.of ha4) n1 fun p1 H5 s5 t5 => ?_⟩
      refine ⟨_, rfl, by show 1 ≤ sizeLine; decide, fun p2 o2 m2 d2 => ?_⟩
      have s6 := same_upd (o := .frz o2 (.tup [.ref c])) m2
      have t6 : TpX (upd H5 p2 (.frz o2 (.tup [.ref c]))) p2 [.ref c] := .new d2
      generalize upd H5 p2 (.frz o2 (.tup [.ref c])) = H6 at s6 t6 ⊢
      refine catF (t5.same s6) t6 (by have := lc none (some ((n : Nat) : Int)); show _ + 1 ≤ _; omega) fun p3 H7 s7 t7 => ?_
      have s57 := (s5.trans s6).trans s7
      refine ⟨_, rfl, _, rfl, _, _, rfl, rfl, _, rfl, ?_⟩
      dsimp only [tNoPart]
      refine slF_cut (SqT.of (s57 _ _ ha4)) n2 fun p4 H8 s8 t8 => ?_
      refine catF (t7.same s8) t8 (by rw [List.length_append]; have := lc none (some ((n : Nat) : Int)); have := lc (some (((n : Nat) : Int) + 1)) none; show _ + 1 + _ ≤ _; omega) fun p5 H9 s9 t9 => okU (((u4.same s57).same s8).same s9) t9 (by rw [List.length_append, List.length_append]; have := lc none (some ((n : Nat) : Int)); have := lc (some (((n : Nat) : Int) + 1)) none; show _ + 1 + _ ≤ _; omega) fun y hy => ?_
      rcases List.mem_append.mp hy with hy | hy
      · rcases List.mem_append.mp hy with hy | hy
        · exact .inl (cut_mem hy)
        · rw [List.mem_singleton.mp hy]
          exact .inr (E4.same ((s57.trans s8).trans s9))
      · exact .inl (cut_mem hy)
end
end U
set_option maxRecDepth 100000
set_option maxHeartbeats 4000000
namespace U
open PySem PySem.Spec PyProof.Rows
open L2 hiding Fun CX0 E0 pass0 Fun.binds
open C8 Lx SX StX
theorem call_repr_bool {X : Cx} : CallR X (.builtin "repr") (fun xs H Q => ∃ k, xs = [.bl k] ∧ Q (.str (if k then "True" else "False")) H) := by
  intro pins s σ H xs us Q I r h
  obtain ⟨k, rfl, q⟩ := h
  obtain ⟨u, rfl, rfl⟩ := vals1 r
  exact PySem.P.repr_of_bool ⟨.str _, H, I.tok _, ⟨_, rfl⟩, q⟩
theorem kept_congr {ss ts : List Stf} (h : ∀ l, putM ss l = putM ts l) (hl : longM ss = longM ts) {v0 v1 : Int} {es : List (List Bool × Int × Int)} {e : List Bool × Int × Int} {b : Bool} (k : KeptB ss v0 v1 es e b) : KeptB ts v0 v1 es e b := by
  obtain ⟨x, P, Q, hx, hm, h9⟩ := k
  exact ⟨x, P, Q, hx.congr h, by rw [← hl]; exact hm, h9⟩
theorem hold_congr {ss ts : List Stf} (h : ∀ l, putM ss l = putM ts l) (hl : longM ss = longM ts) {v0 v1 : Int} {es : List (List Bool × Int × Int)} : HoldP ss v0 v1 es ↔ HoldP ts v0 v1 es :=
  ⟨fun z => ⟨z.1, z.2.1, fun e he b => kept_congr h hl (z.2.2 e he b)⟩, fun z => ⟨z.1, z.2.1, fun e he b => kept_congr (fun l => (h l).symm) hl.symm (z.2.2 e he b)⟩⟩
theorem ent_not {K : PySem.W.Frag} {H : Hp} {sz : Nat} {a : Addr} {es : List V} (ha : H a = some (.tup es)) (hE : ∀ x ∈ es, EA H x) (l : es.length ≤ 1000) : EntR K H sz (.ref a) none := by
  by_cases c : es.length = 2
  rotate_left
  · exact .len (SqT.of ha) c l
  · match es, c with
    | [x, y], _ =>
      obtain ⟨e, w, f, p, q, rfl, h2, h3, _⟩ := hE x (by simp)
      obtain ⟨e', w', f', p', q', rfl, h2', h3', _⟩ := hE y (by simp)
      have := EntR.pair (K := K) (sz := sz) (SqT.of ha) (anyS_tup h2) (.bad (SqT.of h2') (.oth ⟨_, fun _ _ => .base (.str _), kit_ty (by decide +kernel)⟩) (.oth ⟨_, fun _ s => .base (.tup (s _ _ h3')), kit_ty (by decide +kernel)⟩) (.inl rfl))
      exact this
theorem pap_ea {H : Hp} {t : Addr} {ws : List (List Bool)} {P Qf : List Bool → Int} (h : PapAt H t ws P Qf) (lw : ∀ w ∈ ws, w.length ≤ 9) (hq : ∀ w, 0 < Qf w ∧ Qf w ≤ 100000) : ∃ es : List V, H t = some (.tup es) ∧ es.length = ws.length ∧ ∀ x ∈ es, EA H x := by
  obtain ⟨es, h1, h2, h3⟩ := h
  refine ⟨es.map V.ref, h1, by rw [List.length_map]; exact h2, fun x hx => ?_⟩
  obtain ⟨e, he, rfl⟩ := List.mem_map.mp hx
  obtain ⟨i, hi⟩ := List.getElem?_of_mem he
  have hi2 := (List.getElem?_eq_some_iff.mp hi).1
  have hw : ws[i]? = some (ws[i]'(by omega)) := List.getElem?_eq_getElem (by omega)
  obtain ⟨f, g1, g2⟩ := h3 i e _ hi hw
  exact ⟨e, _, f, _, _, rfl, g1, g2, lw _ (List.mem_of_getElem? hw), (hq _).1, (hq _).2⟩
theorem hQ_le {h : List Bool → Int} {q : Nat} (q0 : 0 < q) (q9 : q ≤ 1023) (w : List Bool) : 0 < hQ h q w ∧ hQ h q w ≤ 100000 := by
  obtain ⟨g, g0, _, e, h0, _⟩ := hPQ (h := h) q0 w
  refine ⟨h0, ?_⟩
  have h1 : hQ h q w * 1 ≤ hQ h q w * g := Int.mul_le_mul_of_nonneg_left (by omega) (by omega)
  omega
section
variable {P : Program} {w : World} {K : PySem.W.Frag} {mg : Str → Option Value} {base : Heap}
theorem sc_law : FnScope ["_law_script", "_law_k", "_law_box", "_law_turn", "_law_told", "_law_made_here", "_law_value_here", "_law_found", "_law_more", "_law_bent_here", "_law_due"] ["_law_script"] (fnScope s_law) := fnScope_by (by decide +kernel)
theorem ok_law {f C : Addr} {fd : FuncData} (F : Def K mg "law" s_law f fd) (T : Tx mg) (RT : RuT K C)
    (c_l_seed : Cal P w K mg base 1 "_law_seed" (spSeed K) []) (c_l_one_of : Cal P w K mg base 2 "_law_one_of" spOneOf []) (c_l_rule : Cal P w K mg base 4 "_law_rule" spRule []) (c_l_made : Cal P w K mg base 7 "_law_made" (spMade C) []) (c_l_bent : Cal P w K mg base 3 "_law_bent" (spBent K) []) (c_l_is_paper : Cal P w K mg base 3 "_law_is_paper" (spLPap K) [])
    (c_rate : Cal P w K mg base 6 "rate" (spRate C) []) (c_rate_paper : Cal P w K mg base 7 "rate_paper" (spRatePaper C) []) (c_rate_paper_holds : Cal P w K mg base 6 "rate_paper_holds" (spPapX K C) []) :
    FnOk P w K mg base CX0 9 f fd ["_law_script"] (spLaw K) := by
  refine fn0 F.fn sc_law (fun vs H Q E h => ?_) (fun cdv A outer s H vs Q E hr h => ?_)
  · obtain ⟨_, _, rfl, _⟩ := h; rfl
  · obtain ⟨a, ns, rfl, hS, hlen, k⟩ := h
    refine ⟨_, (pss_cons (ps_for PassesOwn.never rfl (pi_range1 (by rfl) T.b_range (pa_cons (pe_callB (call_max2 rfl) (by rfl) T.b_max (by decide +kernel) (pa_cons pe_int (pa_cons (pe_callB (call_min2 rfl) (by rfl) T.b_min (by decide +kernel) (pa_cons pe_int (pa_cons (pe_callB call_len_seq (by rfl) T.b_len (by decide +kernel) (pa_cons (pv 0) pa_nil)) pa_nil))) pa_nil))) pa_nil)) (pg_name (i := 1) sc_law.nd rfl (.inl rfl))
    (pss_cons (ps_set (i := 2) sc_law.nd rfl (.inl rfl) (pe_c c_l_seed hr (by decide) rfl (pa_cons (pv 0) (pa_cons (pv 1) pa_nil))))
    (pss_one (ps_for PassesOwn.never rfl (pi_range1 (by rfl) T.b_range (pa_cons pe_int pa_nil)) (pg_name (i := 3) sc_law.nd rfl (.inl rfl))
    (pss_cons (ps_set (i := 4) sc_law.nd rfl (.inl rfl) (pe_c c_l_rule hr (by decide) rfl (pa_cons (pv 2) (pa_cons pe_int (pa_cons pe_int pa_nil)))))
    (pss_cons (ps_set (i := 5) sc_law.nd rfl (.inl rfl) (pe_c c_l_made hr (by decide) rfl (pa_cons (pv 4) pa_nil)))
    (pss_cons (ps_set (i := 6) sc_law.nd rfl (.inl rfl) (pe_c c_l_one_of hr (by decide) rfl (pa_cons (pv 2) (pa_cons (pe_lst (pa_cons (pe_c c_rate hr (by decide) rfl (pa_cons (pv 5) pa_nil)) (pa_cons (pe_tup (pa_cons pe_int (pa_cons pe_int pa_nil))) (pa_cons (pe_tup (pa_cons pe_int (pa_cons pe_int pa_nil))) pa_nil)))) pa_nil))))
    (pss_cons (ps_set (i := 7) sc_law.nd rfl (.inl rfl) (pe_c c_rate_paper hr (by decide) rfl (pa_cons (pv 5) (pa_cons (pv 6) pa_nil))))
    (pss_cons (ps_if (pt_cmpR op_isN (pv 7) pe_non (nomark _)) (pss_one ps_continue) pss_nil)
    (pss_cons (ps_for PassesOwn.never rfl (pi_range1 (by rfl) T.b_range (pa_cons pe_int pa_nil)) (pg_name (i := 8) sc_law.nd rfl (.inl rfl))
    (pss_cons (ps_set (i := 9) sc_law.nd rfl (.inl rfl) (pe_c c_l_bent hr (by decide) rfl (pa_cons (pv 2) (pa_cons (pv 7) pa_nil))))
    (pss_cons (ps_set (i := 10) sc_law.nd rfl (.inl rfl) (pe_c c_l_is_paper hr (by decide) rfl (pa_cons (pv 4) (pa_cons (pv 6) (pa_cons (pv 9) pa_nil)))))
    (pss_one (ps_if (pt_cmpR op_ne (pe_callB call_repr_bool (by rfl) T.b_repr (by decide +kernel) (pa_cons (pe_c c_rate_paper_holds hr (by decide) rfl (pa_cons (pv 5) (pa_cons (pv 6) (pa_cons (pv 9) pa_nil)))) pa_nil)) (pe_callB call_repr_bool (by rfl) T.b_repr (by decide +kernel) (pa_cons (pv 10) pa_nil)) (nomark _)) (pss_one (ps_ret pe_bl)) pss_nil)))))
    (pss_cons (ps_if (pt_cmpR op_notBl (pe_c c_rate_paper_holds hr (by decide) rfl (pa_cons (pv 5) (pa_cons (pv 6) (pa_cons (pe_callTy call_list_of (by rfl) T.b_list (by decide +kernel) (pa_cons (pv 7) pa_nil)) pa_nil)))) pe_bl (nomark _)) (pss_one (ps_ret pe_bl)) pss_nil)
    (pss_one (ps_if (pt_cmpR op_notBl (pe_c c_rate_paper_holds hr (by decide) rfl (pa_cons (pv 5) (pa_cons (pv 6) (pa_cons (pe_tupF (pa_cons (pv 7) pa_nil)) pa_nil)))) pe_bl (nomark _)) (pss_one (ps_ret pe_bl)) pss_nil)))))))))))))
    (pss_one (ps_ret pe_bl))), ?_⟩
    refine ⟨_, rfl, a, _, rfl, .inl hS, _, _, rfl, _, _, rfl, _, rfl, by split <;> split <;> omega, by rw [List.length_map]; split <;> split <;> omega, ?_⟩
    refine for_it walk_range (fun i σ H2 => ∃ v1 v2 v3 v4 v5 v6 v7 v8 v9 v10 : Option V, σ = [some (.ref a), v1, v2, v3, v4, v5, v6, v7, v8, v9, v10] ∧ Same H H2) ⟨_, _, _, _, _, _, _, _, _, _, rfl, Same.refl _⟩ (fun _ _ _ _ _ => trivial) ?_ ?_
    · rintro i x σ H2' H2 hi ⟨v1, v2, v3, v4, v5, v6, v7, v8, v9, v10, rfl, s2⟩ ⟨rfl, rfl⟩
      refine ⟨_, rfl, _, rfl, a, ns, i, (by show [V.ref a, V.int (0 + (i : Int))] = _; rw [Int.zero_add]), s2.seq hS, fun bx H1 nb s1 hb => ?_⟩
      refine ⟨_, rfl, by decide, by decide, for_it walk_range (fun j σ H3 => ∃ v1 v3 v4 v5 v6 v7 v8 v9 v10 : Option V, σ = [some (.ref a), v1, some (.ref bx), v3, v4, v5, v6, v7, v8, v9, v10] ∧ Up bx H1 H3) ⟨_, _, _, _, _, _, _, _, _, rfl, Up.refl hb⟩ (fun _ _ _ _ _ => trivial) ?_ ?_⟩
      · rintro j y σ H3' H3 hj ⟨v1, v3, v4, v5, v6, v7, v8, v9, v10, rfl, u3⟩ ⟨rfl, rfl⟩
        refine ⟨_, rfl, bx, 6, 4, rfl, u3.2, by decide, by decide, by decide, by decide, fun t fl ss0 H4 u4 told f2 f6 ss2 ok0 hO0 hlo => ?_⟩
        refine ⟨_, rfl, t, fl, ss0, rfl, told, ok0, hO0.ok, f2, by omega, fun m ss H5 s5 pm srt hR => ?_⟩
        have ok := ok0.perm pm.symm
        have hput := fun l => put_perm ok.free pm l
        have hlong := longM_perm pm
        have l2 : ss.length ≤ 2 := by rw [pm.length_eq]; exact ss2
        have hO : OkS ss := hO0.congr fun l => (hput l).symm
        have o39 : OkN 39 ss := OkN.mono hO (by decide)
        have l4 : longM ss ≤ 4 := by
          rw [hlong]
          exact longM_max fun s hs => hlo s hs
        have u5 := (u3.trans u4).same s5
        have told5 := told.same s5
        refine ⟨_, rfl, _, rfl, m, fl, ss, rfl, hR, ok, o39, fun tr p1 q1 H6 nt s6 htr hL q19 => ⟨by show 2 ≤ sizeLine; decide, fun w1 n1 => ⟨by show 2 ≤ sizeLine; decide, fun w2 n2 => ⟨by show 3 ≤ sizeLine; decide, fun l nl => ?_⟩⟩⟩⟩
        have q10 := hL.1.pos
        have z1 := same_upd (o := .tup [.int 1, .int 1]) n1
        have x1 : upd H6 w1 (.tup [.int 1, .int 1]) w1 = some (.tup [.int 1, .int 1]) := upd_same
        generalize upd H6 w1 (.tup [.int 1, .int 1]) = G1 at z1 x1 n2 nl ⊢
        have z2 := same_upd (o := .tup [.int 3, .int 2]) n2
        have x2 : upd G1 w2 (.tup [.int 3, .int 2]) w2 = some (.tup [.int 3, .int 2]) := upd_same
        generalize upd G1 w2 (.tup [.int 3, .int 2]) = G2 at z2 x2 nl ⊢
        have z3 := same_upd (o := .lst [.ref tr, .ref w1, .ref w2]) nl
        have hl3 : upd G2 l (.lst [.ref tr, .ref w1, .ref w2]) l = some (.lst [.ref tr, .ref w1, .ref w2]) := upd_same
        have u6 := ((u5.same s6).same z1).same z2
        have bxl := u6.2.ne nl
        generalize upd G2 l (.lst [.ref tr, .ref w1, .ref w2]) = G3 at z3 hl3 ⊢
        have u7 := u6.same z3
        refine ⟨bx, l, _, rfl, u7.2, hl3, bxl, by show 0 < 3; decide, by show 3 < 1000; decide, fun v H8 hv u8 => ?_⟩
        have hval : ∃ (tv : Addr) (p : Int) (q : Nat), v = .ref tv ∧ H8 tv = some (.tup [.int p, .int q]) ∧ 0 < q ∧ q ≤ 1023 := by
          have st : ∀ {c : Addr} {xs : List V}, G3 c = some (.tup xs) → H8 c = some (.tup xs) := fun {c xs} e => u8.1 _ _ e (u7.2.neT e)
          simp only [List.mem_cons, List.not_mem_nil, or_false] at hv
          rcases hv with rfl | rfl | rfl
          · exact ⟨_, _, _, rfl, st (z3 _ _ (z2 _ _ (z1 _ _ htr))), q10, q19⟩
          · exact ⟨_, 1, 1, rfl, st (z3 _ _ (z2 _ _ x1)), by decide, by decide⟩
          · exact ⟨_, 3, 2, rfl, st (z3 _ _ x2), by decide, by decide⟩
        obtain ⟨tv, p, q, rfl, htv, q0, q9⟩ := hval
        have s57 := ((s6.trans z1).trans z2).trans z3
        have hR8 := (hR.same s57).up u7.2 u8
        have told8 := (told5.same s57).up u7.2 u8
        have u18 := u7.trans u8
        clear x1 x2 z1 z2 z3 hl3 bxl n1 n2 nl u6 hv
        refine ⟨_, rfl, _, rfl, m, tv, fl, ss, p, q, rfl, hR8, ok, o39, by omega, htv, q0, by omega, fun r0 s0 hL0 hs0 => ⟨fun hno H9 s9 => ?_, fun hyes tp ws h H9 nt9 s9 hM hRt hP => ?_⟩⟩
        · refine ⟨_, rfl, rfl, _, rfl, iteT ?_⟩
          exact ⟨_, _, _, _, _, _, _, _, _, rfl, u18.same s9⟩
        refine ⟨_, rfl, rfl, _, rfl, iteF ?_⟩
        have lww : ∀ w ∈ ws, w.length ≤ 9 := fun w hw => by
          obtain ⟨mm, rfl⟩ := hM.g w hw
          exact Nat.le_trans (tl_le _ _) (by omega)
        obtain ⟨es, hes, les, hEA⟩ := pap_ea hP lww (hQ_le q0 q9)
        have few : es.length ≤ 63 := by
          have := words_le hM.nd (n := 5) fun w hw => by
            obtain ⟨mm, rfl⟩ := hM.g w hw
            exact Nat.le_trans (tl_le _ _) (by omega)
          have e : 2 ^ (5 + 1) = 64 := rfl
          omega
        have ne : es ≠ [] := fun z => by
          have := List.length_pos_of_mem hM.nil
          rw [z] at les
          rw [← les] at this
          cases this
        have u9 := u18.same s9
        have hR9 := hR8.same s9
        have told9 := told8.same s9
        have htv9 := s9 _ _ htv
        clear hP hRt nt9 s9 u18 hR8 told8 htv told5 hR htr s57 told
        refine ⟨_, rfl, by decide, by decide, for_it walk_range (fun i2 σ H10 => ∃ v1 v3 v8 v9 v10 : Option V, σ = [some (.ref a), v1, some (.ref bx), v3, some (.ref t), some (.ref m), some (.ref tv), some (.ref tp), v8, v9, v10] ∧ Up bx H9 H10) ⟨_, _, _, _, _, rfl, Up.refl u9.2⟩ (fun _ _ _ _ _ => trivial) ?_ ?_⟩
        · rintro i2 x σ H10' H10 hi2 ⟨v1, v3, v8, v9, v10, rfl, u10⟩ ⟨rfl, rfl⟩
          have hes10 := u10.1 _ _ hes (u9.2.neT hes)
          refine ⟨_, rfl, _, rfl, bx, tp, es, rfl, u10.2, hes10, fun x hx => (hEA x hx).up u9.2 u10, ne, by omega, fun v H11 u11 hB => ?_⟩
          have u911 := u10.trans u11
          have htv11 := u911.1 _ _ htv9 (u9.2.neT htv9)
          have hR11 := hR9.up u9.2 u911
          have told11 := told9.up u9.2 u911
          obtain ⟨r, hPr⟩ := hB.pap (sz := longM ss)
          refine ⟨_, rfl, _, rfl, _, rfl, t, tv, v, fl, ss0, p, q, r, rfl, told11, ok0, ss2, SqT.of htv11, by omega, by omega, hlong ▸ hPr, fun c H12 hc s12 => ?_⟩
          refine ⟨_, rfl, _, rfl, _, rfl, m, tv, v, fl, ss, p, q, r, rfl, hR11.same s12, ok, l2, SqT.of (s12 _ _ htv11), by omega, by omega, hPr.same s12, fun c' H13 hc' s13 => ⟨c', rfl, _, rfl, c, rfl, ?_⟩⟩
          have ec : c' = c := by
            have : c' = true ↔ c = true := hc'.trans (Iff.trans ⟨fun ⟨es, e1, e2⟩ => ⟨es, e1, (hold_congr hput hlong).mp e2⟩, fun ⟨es, e1, e2⟩ => ⟨es, e1, (hold_congr hput hlong).mpr e2⟩⟩ hc.symm)
            cases c <;> cases c' <;> first | rfl | exact absurd (this.mp rfl) (by decide) | exact absurd (this.mpr rfl) (by decide)
          subst ec
          refine ⟨rfl, _, rfl, iteBF (by simp) ?_⟩
          exact ⟨_, _, _, _, _, rfl, (u911.same s12).same s13⟩
        · rintro σ H10 ⟨v1, v3, v8, v9, v10, rfl, u10⟩
          have hes10 := u10.1 _ _ hes (u9.2.neT hes)
          have htv10 := u10.1 _ _ htv9 (u9.2.neT htv9)
          have hR10 := hR9.up u9.2 u10
          have hEA10 : ∀ x ∈ es, EA H10 x := fun x hx => (hEA x hx).up u9.2 u10
          have no : ∀ {c : Bool} {r : Option (List (List Bool × Int × Int))}, r = none → (c = true ↔ ∃ es, r = some es ∧ HoldP ss p q es) → c = false := fun {c r} hr hc => kb_iff hc (by rintro ⟨_, e, _⟩; rw [hr] at e; cases e)
          refine ⟨_, rfl, _, rfl, _, rfl, tp, es, rfl, .inr (SqT.of hes10), fun lx nlx => ?_⟩
          have sx := same_upd (o := .lst es) nlx
          have hlx : upd H10 lx (.lst es) lx = some (.lst es) := upd_same
          generalize upd H10 lx (.lst es) = H11 at sx hlx ⊢
          refine ⟨m, tv, .ref lx, fl, ss, p, q, none, rfl, hR10.same sx, ok, l2, SqT.of (sx _ _ htv10), by omega, by omega, .oth ⟨_, fun _ s => .base (.lst (s _ _ hlx)), kit_ty (by decide +kernel)⟩, fun c H12 hc s12 => ?_⟩
          have ec := no rfl hc
          subst ec
          refine ⟨_, _, rfl, rfl, _, rfl, iteBF rfl ?_⟩
          have s102 := sx.trans s12
          refine ⟨_, rfl, _, rfl, _, rfl, by show 1 ≤ sizeLine; decide, fun pp oo np dd => ?_⟩
          have sy := same_upd (o := .frz oo (.tup [.ref tp])) np
          have ty : TpX (upd H12 pp (.frz oo (.tup [.ref tp]))) pp [.ref tp] := .new dd
          generalize upd H12 pp (.frz oo (.tup [.ref tp])) = H13 at sy ty ⊢
          have s103 := s102.trans sy
          have u13 : Up bx H9 H13 := u10.same s103
          have hEn : EntR K H13 (longM ss) (.ref tp) none := ent_not (s103 _ _ hes10) (fun x hx => (hEA x hx).up u9.2 u13) (by omega)
          refine ⟨m, tv, .ref pp, fl, ss, p, q, allO [none], rfl, hR10.same s103, ok, l2, SqT.of (s103 _ _ htv10), by omega, by omega, .tup ty (by show 1 ≤ 1000; decide) (.cons hEn .nil), fun c H14 hc s14 => ?_⟩
          have ec := no rfl hc
          subst ec
          refine ⟨_, _, rfl, rfl, _, rfl, iteBF rfl ?_⟩
          exact ⟨_, _, _, _, _, _, _, _, _, rfl, (u9.trans u13).same s14⟩
      · rintro σ H3 ⟨v1, v3, v4, v5, v6, v7, v8, v9, v10, rfl, u3⟩
        exact ⟨_, _, _, _, _, _, _, _, _, _, rfl, fun c o e => u3.1 _ _ (s1 _ _ (s2 _ _ e)) (ne_of_none e (s2.free nb))⟩
    · rintro σ H2 ⟨v1, v2, v3, v4, v5, v6, v7, v8, v9, v10, rfl, s2⟩
      exact k H2
end
end U
set_option maxRecDepth 100000
set_option maxHeartbeats 4000000
namespace U
open PySem PySem.Spec PyProof.Rows
open L2 hiding Fun CX0 E0 pass0 Fun.binds
open C8 Lx
theorem all_mk {l : PySem.W.OpenLaw} {w : World} {K : PySem.W.Frag} {h : Heap} {mg : Str → Option Value} {fa : Addr} (X : K.In h) (G : h.Ns mainGlobals mg) (hfa : mg "law" = some (.ref fa))
    {f_is_integer : Addr} {od_is_integer an_is_integer : Option Addr} {sl_is_integer : Array (Option Value)} {oc_is_integer kV_is_integer dc_is_integer pm_is_integer cd_is_integer ct_is_integer : Value}
    {f_is_sequence : Addr} {od_is_sequence an_is_sequence : Option Addr} {sl_is_sequence : Array (Option Value)} {oc_is_sequence kV_is_sequence dc_is_sequence pm_is_sequence cd_is_sequence ct_is_sequence : Value}
    {f_is_word : Addr} {od_is_word an_is_word : Option Addr} {sl_is_word : Array (Option Value)} {oc_is_word kV_is_word dc_is_word pm_is_word cd_is_word ct_is_word : Value}
    {f_is_bit : Addr} {od_is_bit an_is_bit : Option Addr} {sl_is_bit : Array (Option Value)} {oc_is_bit kV_is_bit dc_is_bit pm_is_bit cd_is_bit ct_is_bit : Value}
    {f_tail : Addr} {od_tail an_tail : Option Addr} {sl_tail : Array (Option Value)} {oc_tail kV_tail dc_tail pm_tail cd_tail ct_tail : Value}
    {f_common : Addr} {od_common an_common : Option Addr} {sl_common : Array (Option Value)} {oc_common kV_common dc_common pm_common cd_common ct_common : Value}
    {f_lowest : Addr} {od_lowest an_lowest : Option Addr} {sl_lowest : Array (Option Value)} {oc_lowest kV_lowest dc_lowest pm_lowest cd_lowest ct_lowest : Value}
    {f_is_value : Addr} {od_is_value an_is_value : Option Addr} {sl_is_value : Array (Option Value)} {oc_is_value kV_is_value dc_is_value pm_is_value cd_is_value ct_is_value : Value}
    {f_move : Addr} {od_move an_move : Option Addr} {sl_move : Array (Option Value)} {oc_move kV_move dc_move pm_move cd_move ct_move : Value}
    {f_moves_of : Addr} {od_moves_of an_moves_of : Option Addr} {sl_moves_of : Array (Option Value)} {oc_moves_of kV_moves_of dc_moves_of pm_moves_of cd_moves_of ct_moves_of : Value}
    {f_walks : Addr} {od_walks an_walks : Option Addr} {sl_walks : Array (Option Value)} {oc_walks kV_walks dc_walks pm_walks cd_walks ct_walks : Value}
    {f_least_of : Addr} {od_least_of an_least_of : Option Addr} {sl_least_of : Array (Option Value)} {oc_least_of kV_least_of dc_least_of pm_least_of cd_least_of ct_least_of : Value}
    {f_rate : Addr} {od_rate an_rate : Option Addr} {sl_rate : Array (Option Value)} {oc_rate kV_rate dc_rate pm_rate cd_rate ct_rate : Value}
    {f_is_at_most : Addr} {od_is_at_most an_is_at_most : Option Addr} {sl_is_at_most : Array (Option Value)} {oc_is_at_most kV_is_at_most dc_is_at_most pm_is_at_most cd_is_at_most ct_is_at_most : Value}
    {f_rate_paper : Addr} {od_rate_paper an_rate_paper : Option Addr} {sl_rate_paper : Array (Option Value)} {oc_rate_paper kV_rate_paper dc_rate_paper pm_rate_paper cd_rate_paper ct_rate_paper : Value}
    {f_is_entry : Addr} {od_is_entry an_is_entry : Option Addr} {sl_is_entry : Array (Option Value)} {oc_is_entry kV_is_entry dc_is_entry pm_is_entry cd_is_entry ct_is_entry : Value}
    {f_is_kept : Addr} {od_is_kept an_is_kept : Option Addr} {sl_is_kept : Array (Option Value)} {oc_is_kept kV_is_kept dc_is_kept pm_is_kept cd_is_kept ct_is_kept : Value}
    {f_rate_paper_holds : Addr} {od_rate_paper_holds an_rate_paper_holds : Option Addr} {sl_rate_paper_holds : Array (Option Value)} {oc_rate_paper_holds kV_rate_paper_holds dc_rate_paper_holds pm_rate_paper_holds cd_rate_paper_holds ct_rate_paper_holds : Value}
    {f_is_stuff : Addr} {od_is_stuff an_is_stuff : Option Addr} {sl_is_stuff : Array (Option Value)} {oc_is_stuff kV_is_stuff dc_is_stuff pm_is_stuff cd_is_stuff ct_is_stuff : Value}
    {f_are_stuffs : Addr} {od_are_stuffs an_are_stuffs : Option Addr} {sl_are_stuffs : Array (Option Value)} {oc_are_stuffs kV_are_stuffs dc_are_stuffs pm_are_stuffs cd_are_stuffs ct_are_stuffs : Value}
    {f_l_seed : Addr} {od_l_seed an_l_seed : Option Addr} {sl_l_seed : Array (Option Value)} {oc_l_seed kV_l_seed dc_l_seed pm_l_seed cd_l_seed ct_l_seed : Value}
    {f_l_choose : Addr} {od_l_choose an_l_choose : Option Addr} {sl_l_choose : Array (Option Value)} {oc_l_choose kV_l_choose dc_l_choose pm_l_choose cd_l_choose ct_l_choose : Value}
    {f_l_one_of : Addr} {od_l_one_of an_l_one_of : Option Addr} {sl_l_one_of : Array (Option Value)} {oc_l_one_of kV_l_one_of dc_l_one_of pm_l_one_of cd_l_one_of ct_l_one_of : Value}
    {f_l_word : Addr} {od_l_word an_l_word : Option Addr} {sl_l_word : Array (Option Value)} {oc_l_word kV_l_word dc_l_word pm_l_word cd_l_word ct_l_word : Value}
    {f_l_put : Addr} {od_l_put an_l_put : Option Addr} {sl_l_put : Array (Option Value)} {oc_l_put kV_l_put dc_l_put pm_l_put cd_l_put ct_l_put : Value}
    {f_l_is_rule : Addr} {od_l_is_rule an_l_is_rule : Option Addr} {sl_l_is_rule : Array (Option Value)} {oc_l_is_rule kV_l_is_rule dc_l_is_rule pm_l_is_rule cd_l_is_rule ct_l_is_rule : Value}
    {f_l_rule : Addr} {od_l_rule an_l_rule : Option Addr} {sl_l_rule : Array (Option Value)} {oc_l_rule kV_l_rule dc_l_rule pm_l_rule cd_l_rule ct_l_rule : Value}
    {f_l_made : Addr} {od_l_made an_l_made : Option Addr} {sl_l_made : Array (Option Value)} {oc_l_made kV_l_made dc_l_made pm_l_made cd_l_made ct_l_made : Value}
    {f_l_is_paper : Addr} {od_l_is_paper an_l_is_paper : Option Addr} {sl_l_is_paper : Array (Option Value)} {oc_l_is_paper kV_l_is_paper dc_l_is_paper pm_l_is_paper cd_l_is_paper ct_l_is_paper : Value}
    {f_l_is_entry : Addr} {od_l_is_entry an_l_is_entry : Option Addr} {sl_l_is_entry : Array (Option Value)} {oc_l_is_entry kV_l_is_entry dc_l_is_entry pm_l_is_entry cd_l_is_entry ct_l_is_entry : Value}
    {f_l_common : Addr} {od_l_common an_l_common : Option Addr} {sl_l_common : Array (Option Value)} {oc_l_common kV_l_common dc_l_common pm_l_common cd_l_common ct_l_common : Value}
    {f_l_bent : Addr} {od_l_bent an_l_bent : Option Addr} {sl_l_bent : Array (Option Value)} {oc_l_bent kV_l_bent dc_l_bent pm_l_bent cd_l_bent ct_l_bent : Value}
    {f_law : Addr} {od_law an_law : Option Addr} {sl_law : Array (Option Value)} {oc_law kV_law dc_law pm_law cd_law ct_law : Value}
    {C_Rule : Addr}
    {f_Rule_put : Addr} {od_Rule_put an_Rule_put : Option Addr} {sl_Rule_put : Array (Option Value)} {oc_Rule_put kV_Rule_put dc_Rule_put pm_Rule_put cd_Rule_put ct_Rule_put : Value}
    {f_Rule_longest : Addr} {od_Rule_longest an_Rule_longest : Option Addr} {sl_Rule_longest : Array (Option Value)} {oc_Rule_longest kV_Rule_longest dc_Rule_longest pm_Rule_longest cd_Rule_longest ct_Rule_longest : Value}
    {p_Rule_longest : Addr} {pr_Rule_longest : List Value}
    {f_Rule_put_in : Addr} {od_Rule_put_in an_Rule_put_in : Option Addr} {sl_Rule_put_in : Array (Option Value)} {oc_Rule_put_in kV_Rule_put_in dc_Rule_put_in pm_Rule_put_in cd_Rule_put_in ct_Rule_put_in : Value}
    {f_Rule_is_endless : Addr} {od_Rule_is_endless an_Rule_is_endless : Option Addr} {sl_Rule_is_endless : Array (Option Value)} {oc_Rule_is_endless kV_Rule_is_endless dc_Rule_is_endless pm_Rule_is_endless cd_Rule_is_endless ct_Rule_is_endless : Value}
    {f_Rule_init : Addr} {od_Rule_init an_Rule_init : Option Addr} {sl_Rule_init : Array (Option Value)} {oc_Rule_init kV_Rule_init dc_Rule_init pm_Rule_init cd_Rule_init ct_Rule_init : Value}
    {dT_Rule_init : Addr} {dd_Rule_init : Option Addr} {dn_Rule_init : Nat} {ds_Rule_init : Array (Option Value)} {dE_R : Addr} {dde_R : Option Addr} {dne_R : Nat} {dse_R : Array (Option Value)}
    {tB : Tok}
    (a_is_integer : PySem.W.nsIn K mainGlobals "is_integer" = some (some (.ref f_is_integer)))
    (l_is_integer : K.lookup f_is_integer = some ⟨oc_is_integer, od_is_integer, .func (PySem.W.fnOf "is_integer" "is_integer" (fnArgs s_is_integer) (fnBody s_is_integer) (fnScope s_is_integer) .none kV_is_integer dc_is_integer pm_is_integer an_is_integer cd_is_integer ct_is_integer), sl_is_integer⟩)
    (c_is_integer : PySem.W.codeIn K cd_is_integer "is_integer" = true)
    (k_is_integer : PySem.W.keepIn K (.ref f_is_integer) = true)
    (a_is_sequence : PySem.W.nsIn K mainGlobals "is_sequence" = some (some (.ref f_is_sequence)))
    (l_is_sequence : K.lookup f_is_sequence = some ⟨oc_is_sequence, od_is_sequence, .func (PySem.W.fnOf "is_sequence" "is_sequence" (fnArgs s_is_sequence) (fnBody s_is_sequence) (fnScope s_is_sequence) .none kV_is_sequence dc_is_sequence pm_is_sequence an_is_sequence cd_is_sequence ct_is_sequence), sl_is_sequence⟩)
    (c_is_sequence : PySem.W.codeIn K cd_is_sequence "is_sequence" = true)
    (k_is_sequence : PySem.W.keepIn K (.ref f_is_sequence) = true)
    (a_is_word : PySem.W.nsIn K mainGlobals "is_word" = some (some (.ref f_is_word)))
    (l_is_word : K.lookup f_is_word = some ⟨oc_is_word, od_is_word, .func (PySem.W.fnOf "is_word" "is_word" (fnArgs s_is_word) (fnBody s_is_word) (fnScope s_is_word) .none kV_is_word dc_is_word pm_is_word an_is_word cd_is_word ct_is_word), sl_is_word⟩)
    (c_is_word : PySem.W.codeIn K cd_is_word "is_word" = true)
    (k_is_word : PySem.W.keepIn K (.ref f_is_word) = true)
    (a_is_bit : PySem.W.nsIn K mainGlobals "is_bit" = some (some (.ref f_is_bit)))
    (l_is_bit : K.lookup f_is_bit = some ⟨oc_is_bit, od_is_bit, .func (PySem.W.fnOf "is_bit" "is_bit" (fnArgs s_is_bit) (fnBody s_is_bit) (fnScope s_is_bit) .none kV_is_bit dc_is_bit pm_is_bit an_is_bit cd_is_bit ct_is_bit), sl_is_bit⟩)
    (c_is_bit : PySem.W.codeIn K cd_is_bit "is_bit" = true)
    (k_is_bit : PySem.W.keepIn K (.ref f_is_bit) = true)
    (a_tail : PySem.W.nsIn K mainGlobals "tail" = some (some (.ref f_tail)))
    (l_tail : K.lookup f_tail = some ⟨oc_tail, od_tail, .func (PySem.W.fnOf "tail" "tail" (fnArgs s_tail) (fnBody s_tail) (fnScope s_tail) .none kV_tail dc_tail pm_tail an_tail cd_tail ct_tail), sl_tail⟩)
    (c_tail : PySem.W.codeIn K cd_tail "tail" = true)
    (k_tail : PySem.W.keepIn K (.ref f_tail) = true)
    (a_common : PySem.W.nsIn K mainGlobals "common" = some (some (.ref f_common)))
    (l_common : K.lookup f_common = some ⟨oc_common, od_common, .func (PySem.W.fnOf "common" "common" (fnArgs s_common) (fnBody s_common) (fnScope s_common) .none kV_common dc_common pm_common an_common cd_common ct_common), sl_common⟩)
    (c_common : PySem.W.codeIn K cd_common "common" = true)
    (k_common : PySem.W.keepIn K (.ref f_common) = true)
    (a_lowest : PySem.W.nsIn K mainGlobals "lowest" = some (some (.ref f_lowest)))
    (l_lowest : K.lookup f_lowest = some ⟨oc_lowest, od_lowest, .func (PySem.W.fnOf "lowest" "lowest" (fnArgs s_lowest) (fnBody s_lowest) (fnScope s_lowest) .none kV_lowest dc_lowest pm_lowest an_lowest cd_lowest ct_lowest), sl_lowest⟩)
    (c_lowest : PySem.W.codeIn K cd_lowest "lowest" = true)
    (k_lowest : PySem.W.keepIn K (.ref f_lowest) = true)
    (a_is_value : PySem.W.nsIn K mainGlobals "is_value" = some (some (.ref f_is_value)))
    (l_is_value : K.lookup f_is_value = some ⟨oc_is_value, od_is_value, .func (PySem.W.fnOf "is_value" "is_value" (fnArgs s_is_value) (fnBody s_is_value) (fnScope s_is_value) .none kV_is_value dc_is_value pm_is_value an_is_value cd_is_value ct_is_value), sl_is_value⟩)
    (c_is_value : PySem.W.codeIn K cd_is_value "is_value" = true)
    (k_is_value : PySem.W.keepIn K (.ref f_is_value) = true)
    (a_move : PySem.W.nsIn K mainGlobals "move" = some (some (.ref f_move)))
    (l_move : K.lookup f_move = some ⟨oc_move, od_move, .func (PySem.W.fnOf "move" "move" (fnArgs s_move) (fnBody s_move) (fnScope s_move) .none kV_move dc_move pm_move an_move cd_move ct_move), sl_move⟩)
    (c_move : PySem.W.codeIn K cd_move "move" = true)
    (k_move : PySem.W.keepIn K (.ref f_move) = true)
    (a_moves_of : PySem.W.nsIn K mainGlobals "moves_of" = some (some (.ref f_moves_of)))
    (l_moves_of : K.lookup f_moves_of = some ⟨oc_moves_of, od_moves_of, .func (PySem.W.fnOf "moves_of" "moves_of" (fnArgs s_moves_of) (fnBody s_moves_of) (fnScope s_moves_of) .none kV_moves_of dc_moves_of pm_moves_of an_moves_of cd_moves_of ct_moves_of), sl_moves_of⟩)
    (c_moves_of : PySem.W.codeIn K cd_moves_of "moves_of" = true)
    (k_moves_of : PySem.W.keepIn K (.ref f_moves_of) = true)
    (a_walks : PySem.W.nsIn K mainGlobals "walks" = some (some (.ref f_walks)))
    (l_walks : K.lookup f_walks = some ⟨oc_walks, od_walks, .func (PySem.W.fnOf "walks" "walks" (fnArgs s_walks) (fnBody s_walks) (fnScope s_walks) .none kV_walks dc_walks pm_walks an_walks cd_walks ct_walks), sl_walks⟩)
    (c_walks : PySem.W.codeIn K cd_walks "walks" = true)
    (k_walks : PySem.W.keepIn K (.ref f_walks) = true)
    (a_least_of : PySem.W.nsIn K mainGlobals "least_of" = some (some (.ref f_least_of)))
    (l_least_of : K.lookup f_least_of = some ⟨oc_least_of, od_least_of, .func (PySem.W.fnOf "least_of" "least_of" (fnArgs s_least_of) (fnBody s_least_of) (fnScope s_least_of) .none kV_least_of dc_least_of pm_least_of an_least_of cd_least_of ct_least_of), sl_least_of⟩)
    (c_least_of : PySem.W.codeIn K cd_least_of "least_of" = true)
    (k_least_of : PySem.W.keepIn K (.ref f_least_of) = true)
    (a_rate : PySem.W.nsIn K mainGlobals "rate" = some (some (.ref f_rate)))
    (l_rate : K.lookup f_rate = some ⟨oc_rate, od_rate, .func (PySem.W.fnOf "rate" "rate" (fnArgs s_rate) (fnBody s_rate) (fnScope s_rate) .none kV_rate dc_rate pm_rate an_rate cd_rate ct_rate), sl_rate⟩)
    (c_rate : PySem.W.codeIn K cd_rate "rate" = true)
    (k_rate : PySem.W.keepIn K (.ref f_rate) = true)
    (a_is_at_most : PySem.W.nsIn K mainGlobals "is_at_most" = some (some (.ref f_is_at_most)))
    (l_is_at_most : K.lookup f_is_at_most = some ⟨oc_is_at_most, od_is_at_most, .func (PySem.W.fnOf "is_at_most" "is_at_most" (fnArgs s_is_at_most) (fnBody s_is_at_most) (fnScope s_is_at_most) .none kV_is_at_most dc_is_at_most pm_is_at_most an_is_at_most cd_is_at_most ct_is_at_most), sl_is_at_most⟩)
    (c_is_at_most : PySem.W.codeIn K cd_is_at_most "is_at_most" = true)
    (k_is_at_most : PySem.W.keepIn K (.ref f_is_at_most) = true)
    (a_rate_paper : PySem.W.nsIn K mainGlobals "rate_paper" = some (some (.ref f_rate_paper)))
    (l_rate_paper : K.lookup f_rate_paper = some ⟨oc_rate_paper, od_rate_paper, .func (PySem.W.fnOf "rate_paper" "rate_paper" (fnArgs s_rate_paper) (fnBody s_rate_paper) (fnScope s_rate_paper) .none kV_rate_paper dc_rate_paper pm_rate_paper an_rate_paper cd_rate_paper ct_rate_paper), sl_rate_paper⟩)
    (c_rate_paper : PySem.W.codeIn K cd_rate_paper "rate_paper" = true)
    (k_rate_paper : PySem.W.keepIn K (.ref f_rate_paper) = true)
    (a_is_entry : PySem.W.nsIn K mainGlobals "is_entry" = some (some (.ref f_is_entry)))
    (l_is_entry : K.lookup f_is_entry = some ⟨oc_is_entry, od_is_entry, .func (PySem.W.fnOf "is_entry" "is_entry" (fnArgs s_is_entry) (fnBody s_is_entry) (fnScope s_is_entry) .none kV_is_entry dc_is_entry pm_is_entry an_is_entry cd_is_entry ct_is_entry), sl_is_entry⟩)
    (c_is_entry : PySem.W.codeIn K cd_is_entry "is_entry" = true)
    (k_is_entry : PySem.W.keepIn K (.ref f_is_entry) = true)
    (a_is_kept : PySem.W.nsIn K mainGlobals "is_kept" = some (some (.ref f_is_kept)))
    (l_is_kept : K.lookup f_is_kept = some ⟨oc_is_kept, od_is_kept, .func (PySem.W.fnOf "is_kept" "is_kept" (fnArgs s_is_kept) (fnBody s_is_kept) (fnScope s_is_kept) .none kV_is_kept dc_is_kept pm_is_kept an_is_kept cd_is_kept ct_is_kept), sl_is_kept⟩)
    (c_is_kept : PySem.W.codeIn K cd_is_kept "is_kept" = true)
    (k_is_kept : PySem.W.keepIn K (.ref f_is_kept) = true)
    (a_rate_paper_holds : PySem.W.nsIn K mainGlobals "rate_paper_holds" = some (some (.ref f_rate_paper_holds)))
    (l_rate_paper_holds : K.lookup f_rate_paper_holds = some ⟨oc_rate_paper_holds, od_rate_paper_holds, .func (PySem.W.fnOf "rate_paper_holds" "rate_paper_holds" (fnArgs s_rate_paper_holds) (fnBody s_rate_paper_holds) (fnScope s_rate_paper_holds) .none kV_rate_paper_holds dc_rate_paper_holds pm_rate_paper_holds an_rate_paper_holds cd_rate_paper_holds ct_rate_paper_holds), sl_rate_paper_holds⟩)
    (c_rate_paper_holds : PySem.W.codeIn K cd_rate_paper_holds "rate_paper_holds" = true)
    (k_rate_paper_holds : PySem.W.keepIn K (.ref f_rate_paper_holds) = true)
    (a_is_stuff : PySem.W.nsIn K mainGlobals "is_stuff" = some (some (.ref f_is_stuff)))
    (l_is_stuff : K.lookup f_is_stuff = some ⟨oc_is_stuff, od_is_stuff, .func (PySem.W.fnOf "is_stuff" "is_stuff" (fnArgs s_is_stuff) (fnBody s_is_stuff) (fnScope s_is_stuff) .none kV_is_stuff dc_is_stuff pm_is_stuff an_is_stuff cd_is_stuff ct_is_stuff), sl_is_stuff⟩)
    (c_is_stuff : PySem.W.codeIn K cd_is_stuff "is_stuff" = true)
    (k_is_stuff : PySem.W.keepIn K (.ref f_is_stuff) = true)
    (a_are_stuffs : PySem.W.nsIn K mainGlobals "are_stuffs" = some (some (.ref f_are_stuffs)))
    (l_are_stuffs : K.lookup f_are_stuffs = some ⟨oc_are_stuffs, od_are_stuffs, .func (PySem.W.fnOf "are_stuffs" "are_stuffs" (fnArgs s_are_stuffs) (fnBody s_are_stuffs) (fnScope s_are_stuffs) .none kV_are_stuffs dc_are_stuffs pm_are_stuffs an_are_stuffs cd_are_stuffs ct_are_stuffs), sl_are_stuffs⟩)
    (c_are_stuffs : PySem.W.codeIn K cd_are_stuffs "are_stuffs" = true)
    (k_are_stuffs : PySem.W.keepIn K (.ref f_are_stuffs) = true)
    (a_l_seed : PySem.W.nsIn K mainGlobals "_law_seed" = some (some (.ref f_l_seed)))
    (l_l_seed : K.lookup f_l_seed = some ⟨oc_l_seed, od_l_seed, .func (PySem.W.fnOf "_law_seed" "_law_seed" (fnArgs s_l_seed) (fnBody s_l_seed) (fnScope s_l_seed) .none kV_l_seed dc_l_seed pm_l_seed an_l_seed cd_l_seed ct_l_seed), sl_l_seed⟩)
    (c_l_seed : PySem.W.codeIn K cd_l_seed "_law_seed" = true)
    (k_l_seed : PySem.W.keepIn K (.ref f_l_seed) = true)
    (a_l_choose : PySem.W.nsIn K mainGlobals "_law_choose" = some (some (.ref f_l_choose)))
    (l_l_choose : K.lookup f_l_choose = some ⟨oc_l_choose, od_l_choose, .func (PySem.W.fnOf "_law_choose" "_law_choose" (fnArgs s_l_choose) (fnBody s_l_choose) (fnScope s_l_choose) .none kV_l_choose dc_l_choose pm_l_choose an_l_choose cd_l_choose ct_l_choose), sl_l_choose⟩)
    (c_l_choose : PySem.W.codeIn K cd_l_choose "_law_choose" = true)
    (k_l_choose : PySem.W.keepIn K (.ref f_l_choose) = true)
    (a_l_one_of : PySem.W.nsIn K mainGlobals "_law_one_of" = some (some (.ref f_l_one_of)))
    (l_l_one_of : K.lookup f_l_one_of = some ⟨oc_l_one_of, od_l_one_of, .func (PySem.W.fnOf "_law_one_of" "_law_one_of" (fnArgs s_l_one_of) (fnBody s_l_one_of) (fnScope s_l_one_of) .none kV_l_one_of dc_l_one_of pm_l_one_of an_l_one_of cd_l_one_of ct_l_one_of), sl_l_one_of⟩)
    (c_l_one_of : PySem.W.codeIn K cd_l_one_of "_law_one_of" = true)
    (k_l_one_of : PySem.W.keepIn K (.ref f_l_one_of) = true)
    (a_l_word : PySem.W.nsIn K mainGlobals "_law_word" = some (some (.ref f_l_word)))
    (l_l_word : K.lookup f_l_word = some ⟨oc_l_word, od_l_word, .func (PySem.W.fnOf "_law_word" "_law_word" (fnArgs s_l_word) (fnBody s_l_word) (fnScope s_l_word) .none kV_l_word dc_l_word pm_l_word an_l_word cd_l_word ct_l_word), sl_l_word⟩)
    (c_l_word : PySem.W.codeIn K cd_l_word "_law_word" = true)
    (k_l_word : PySem.W.keepIn K (.ref f_l_word) = true)
    (a_l_put : PySem.W.nsIn K mainGlobals "_law_put" = some (some (.ref f_l_put)))
    (l_l_put : K.lookup f_l_put = some ⟨oc_l_put, od_l_put, .func (PySem.W.fnOf "_law_put" "_law_put" (fnArgs s_l_put) (fnBody s_l_put) (fnScope s_l_put) .none kV_l_put dc_l_put pm_l_put an_l_put cd_l_put ct_l_put), sl_l_put⟩)
    (c_l_put : PySem.W.codeIn K cd_l_put "_law_put" = true)
    (k_l_put : PySem.W.keepIn K (.ref f_l_put) = true)
    (a_l_is_rule : PySem.W.nsIn K mainGlobals "_law_is_rule" = some (some (.ref f_l_is_rule)))
    (l_l_is_rule : K.lookup f_l_is_rule = some ⟨oc_l_is_rule, od_l_is_rule, .func (PySem.W.fnOf "_law_is_rule" "_law_is_rule" (fnArgs s_l_is_rule) (fnBody s_l_is_rule) (fnScope s_l_is_rule) .none kV_l_is_rule dc_l_is_rule pm_l_is_rule an_l_is_rule cd_l_is_rule ct_l_is_rule), sl_l_is_rule⟩)
    (c_l_is_rule : PySem.W.codeIn K cd_l_is_rule "_law_is_rule" = true)
    (k_l_is_rule : PySem.W.keepIn K (.ref f_l_is_rule) = true)
    (a_l_rule : PySem.W.nsIn K mainGlobals "_law_rule" = some (some (.ref f_l_rule)))
    (l_l_rule : K.lookup f_l_rule = some ⟨oc_l_rule, od_l_rule, .func (PySem.W.fnOf "_law_rule" "_law_rule" (fnArgs s_l_rule) (fnBody s_l_rule) (fnScope s_l_rule) .none kV_l_rule dc_l_rule pm_l_rule an_l_rule cd_l_rule ct_l_rule), sl_l_rule⟩)
    (c_l_rule : PySem.W.codeIn K cd_l_rule "_law_rule" = true)
    (k_l_rule : PySem.W.keepIn K (.ref f_l_rule) = true)
    (a_l_made : PySem.W.nsIn K mainGlobals "_law_made" = some (some (.ref f_l_made)))
    (l_l_made : K.lookup f_l_made = some ⟨oc_l_made, od_l_made, .func (PySem.W.fnOf "_law_made" "_law_made" (fnArgs s_l_made) (fnBody s_l_made) (fnScope s_l_made) .none kV_l_made dc_l_made pm_l_made an_l_made cd_l_made ct_l_made), sl_l_made⟩)
    (c_l_made : PySem.W.codeIn K cd_l_made "_law_made" = true)
    (k_l_made : PySem.W.keepIn K (.ref f_l_made) = true)
    (a_l_is_paper : PySem.W.nsIn K mainGlobals "_law_is_paper" = some (some (.ref f_l_is_paper)))
    (l_l_is_paper : K.lookup f_l_is_paper = some ⟨oc_l_is_paper, od_l_is_paper, .func (PySem.W.fnOf "_law_is_paper" "_law_is_paper" (fnArgs s_l_is_paper) (fnBody s_l_is_paper) (fnScope s_l_is_paper) .none kV_l_is_paper dc_l_is_paper pm_l_is_paper an_l_is_paper cd_l_is_paper ct_l_is_paper), sl_l_is_paper⟩)
    (c_l_is_paper : PySem.W.codeIn K cd_l_is_paper "_law_is_paper" = true)
    (k_l_is_paper : PySem.W.keepIn K (.ref f_l_is_paper) = true)
    (a_l_is_entry : PySem.W.nsIn K mainGlobals "_law_is_entry" = some (some (.ref f_l_is_entry)))
    (l_l_is_entry : K.lookup f_l_is_entry = some ⟨oc_l_is_entry, od_l_is_entry, .func (PySem.W.fnOf "_law_is_entry" "_law_is_entry" (fnArgs s_l_is_entry) (fnBody s_l_is_entry) (fnScope s_l_is_entry) .none kV_l_is_entry dc_l_is_entry pm_l_is_entry an_l_is_entry cd_l_is_entry ct_l_is_entry), sl_l_is_entry⟩)
    (c_l_is_entry : PySem.W.codeIn K cd_l_is_entry "_law_is_entry" = true)
    (k_l_is_entry : PySem.W.keepIn K (.ref f_l_is_entry) = true)
    (a_l_common : PySem.W.nsIn K mainGlobals "_law_common" = some (some (.ref f_l_common)))
    (l_l_common : K.lookup f_l_common = some ⟨oc_l_common, od_l_common, .func (PySem.W.fnOf "_law_common" "_law_common" (fnArgs s_l_common) (fnBody s_l_common) (fnScope s_l_common) .none kV_l_common dc_l_common pm_l_common an_l_common cd_l_common ct_l_common), sl_l_common⟩)
    (c_l_common : PySem.W.codeIn K cd_l_common "_law_common" = true)
    (k_l_common : PySem.W.keepIn K (.ref f_l_common) = true)
    (a_l_bent : PySem.W.nsIn K mainGlobals "_law_bent" = some (some (.ref f_l_bent)))
    (l_l_bent : K.lookup f_l_bent = some ⟨oc_l_bent, od_l_bent, .func (PySem.W.fnOf "_law_bent" "_law_bent" (fnArgs s_l_bent) (fnBody s_l_bent) (fnScope s_l_bent) .none kV_l_bent dc_l_bent pm_l_bent an_l_bent cd_l_bent ct_l_bent), sl_l_bent⟩)
    (c_l_bent : PySem.W.codeIn K cd_l_bent "_law_bent" = true)
    (k_l_bent : PySem.W.keepIn K (.ref f_l_bent) = true)
    (a_law : PySem.W.nsIn K mainGlobals "law" = some (some (.ref f_law)))
    (l_law : K.lookup f_law = some ⟨oc_law, od_law, .func (PySem.W.fnOf "law" "law" (fnArgs s_law) (fnBody s_law) (fnScope s_law) .none kV_law dc_law pm_law an_law cd_law ct_law), sl_law⟩)
    (c_law : PySem.W.codeIn K cd_law "law" = true)
    (k_law : PySem.W.keepIn K (.ref f_law) = true)
    (aC_Rule : PySem.W.nsIn K mainGlobals "Rule" = some (some (.ref C_Rule)))
    (pg_Rule : PySem.W.plainGet K C_Rule Str.empty = true)
    (hd_Rule : PySem.W.hasDictIn K C_Rule = true)
    (po_Rule : PySem.W.plainOver K C_Rule = true)
    (sa_Rule : PySem.W.findIn K (.ref C_Rule) "__setattr__" = some (some (.builtin "object.__setattr__")))
    (mk_Rule : PySem.W.makesIn K C_Rule = true)
    (kc_Rule : PySem.W.keepIn K (.ref C_Rule) = true)
    (n_Rule_flag : PySem.W.findIn K (.ref C_Rule) "flag" = some none)
    (n_Rule_stuffs : PySem.W.findIn K (.ref C_Rule) "stuffs" = some none)
    (a_Rule_put : PySem.W.findIn K (.ref C_Rule) "put" = some (some (.ref f_Rule_put)))
    (i_Rule_put : PySem.W.isFn K (.ref f_Rule_put) = true)
    (l_Rule_put : K.lookup f_Rule_put = some ⟨oc_Rule_put, od_Rule_put, .func (PySem.W.fnOf "put" "Rule.put" (fnArgs s_Rule_put) (fnBody s_Rule_put) (fnScope s_Rule_put) .none kV_Rule_put dc_Rule_put pm_Rule_put an_Rule_put cd_Rule_put ct_Rule_put), sl_Rule_put⟩)
    (c_Rule_put : PySem.W.codeIn K cd_Rule_put "Rule.put" = true)
    (k_Rule_put : PySem.W.keepIn K (.ref f_Rule_put) = true)
    (a_Rule_longest : PySem.W.findIn K (.ref C_Rule) "longest" = some (some (.ref p_Rule_longest)))
    (g_Rule_longest : PySem.W.specialIn K (.ref p_Rule_longest) "__get__" = some (some (.builtin "property.__get__")))
    (t_Rule_longest : PySem.W.takesIn K (.ref p_Rule_longest) = some true)
    (r_Rule_longest : PySem.W.recIn K p_Rule_longest "property" = some (.ref f_Rule_longest :: pr_Rule_longest))
    (l_Rule_longest : K.lookup f_Rule_longest = some ⟨oc_Rule_longest, od_Rule_longest, .func (PySem.W.fnOf "longest" "Rule.longest" (fnArgs s_Rule_longest) (fnBody s_Rule_longest) (fnScope s_Rule_longest) .none kV_Rule_longest dc_Rule_longest pm_Rule_longest an_Rule_longest cd_Rule_longest ct_Rule_longest), sl_Rule_longest⟩)
    (c_Rule_longest : PySem.W.codeIn K cd_Rule_longest "Rule.longest" = true)
    (a_Rule_put_in : PySem.W.findIn K (.ref C_Rule) "put_in" = some (some (.ref f_Rule_put_in)))
    (i_Rule_put_in : PySem.W.isFn K (.ref f_Rule_put_in) = true)
    (l_Rule_put_in : K.lookup f_Rule_put_in = some ⟨oc_Rule_put_in, od_Rule_put_in, .func (PySem.W.fnOf "put_in" "Rule.put_in" (fnArgs s_Rule_put_in) (fnBody s_Rule_put_in) (fnScope s_Rule_put_in) .none kV_Rule_put_in dc_Rule_put_in pm_Rule_put_in an_Rule_put_in cd_Rule_put_in ct_Rule_put_in), sl_Rule_put_in⟩)
    (c_Rule_put_in : PySem.W.codeIn K cd_Rule_put_in "Rule.put_in" = true)
    (k_Rule_put_in : PySem.W.keepIn K (.ref f_Rule_put_in) = true)
    (a_Rule_is_endless : PySem.W.findIn K (.ref C_Rule) "is_endless" = some (some (.ref f_Rule_is_endless)))
    (i_Rule_is_endless : PySem.W.isFn K (.ref f_Rule_is_endless) = true)
    (l_Rule_is_endless : K.lookup f_Rule_is_endless = some ⟨oc_Rule_is_endless, od_Rule_is_endless, .func (PySem.W.fnOf "is_endless" "Rule.is_endless" (fnArgs s_Rule_is_endless) (fnBody s_Rule_is_endless) (fnScope s_Rule_is_endless) .none kV_Rule_is_endless dc_Rule_is_endless pm_Rule_is_endless an_Rule_is_endless cd_Rule_is_endless ct_Rule_is_endless), sl_Rule_is_endless⟩)
    (c_Rule_is_endless : PySem.W.codeIn K cd_Rule_is_endless "Rule.is_endless" = true)
    (k_Rule_is_endless : PySem.W.keepIn K (.ref f_Rule_is_endless) = true)
    (a_Rule_init : PySem.W.findIn K (.ref C_Rule) "__init__" = some (some (.ref f_Rule_init)))
    (i_Rule_init : PySem.W.isFn K (.ref f_Rule_init) = true)
    (l_Rule_init : K.lookup f_Rule_init = some ⟨oc_Rule_init, od_Rule_init, .func (PySem.W.fnOf "__init__" "Rule.__init__" (fnArgs s_Rule_init) (fnBody s_Rule_init) (fnScope s_Rule_init) (.ref dT_Rule_init) kV_Rule_init dc_Rule_init pm_Rule_init an_Rule_init cd_Rule_init ct_Rule_init), sl_Rule_init⟩)
    (c_Rule_init : PySem.W.codeIn K cd_Rule_init "Rule.__init__" = true)
    (k_Rule_init : PySem.W.keepIn K (.ref f_Rule_init) = true)
    (dl_Rule_init : K.lookup dT_Rule_init = some ⟨.type "tuple", dd_Rule_init, .seq #[.ref dE_R] dn_Rule_init, ds_Rule_init⟩)
    (dlE_Rule : K.lookup dE_R = some ⟨.type "tuple", dde_R, .seq #[] dne_R, dse_R⟩)
    (gBITS : PySem.W.nsIn K mainGlobals "BITS" = some (some (.str "01" tB)))
    (z_len : PySem.W.nsIn K mainGlobals "len" = some none)
    (z_abs : PySem.W.nsIn K mainGlobals "abs" = some none)
    (z_int : PySem.W.nsIn K mainGlobals "int" = some none)
    (z_range : PySem.W.nsIn K mainGlobals "range" = some none)
    (z_max : PySem.W.nsIn K mainGlobals "max" = some none)
    (z_min : PySem.W.nsIn K mainGlobals "min" = some none)
    (z_enumerate : PySem.W.nsIn K mainGlobals "enumerate" = some none)
    (z_zip : PySem.W.nsIn K mainGlobals "zip" = some none)
    (z_dict : PySem.W.nsIn K mainGlobals "dict" = some none)
    (z_list : PySem.W.nsIn K mainGlobals "list" = some none)
    (z_tuple : PySem.W.nsIn K mainGlobals "tuple" = some none)
    (z_isinstance : PySem.W.nsIn K mainGlobals "isinstance" = some none)
    (z_bool : PySem.W.nsIn K mainGlobals "bool" = some none)
    (z_str : PySem.W.nsIn K mainGlobals "str" = some none)
    (z_all : PySem.W.nsIn K mainGlobals "all" = some none)
    (z_any : PySem.W.nsIn K mainGlobals "any" = some none)
    (z_sum : PySem.W.nsIn K mainGlobals "sum" = some none)
    (z_sorted : PySem.W.nsIn K mainGlobals "sorted" = some none)
    (z_repr : PySem.W.nsIn K mainGlobals "repr" = some none) :
    ∃ fd : FuncData, (∀ (s : Shared) (v : Value), BindsTo s fd ⟨[v], []⟩ [("_law_script", v)]) ∧ ∀ base : Heap, K.In base → base.Ns mainGlobals mg → FnOk l.prog w K mg base CX0 9 fa fd ["_law_script"] (spLaw K) := by
  have e : f_law = fa := Value.ref.inj (Option.some.inj ((PySem.W.mg_of X G a_law).symm.trans hfa))
  subst e
  have T : Tx mg := ⟨PySem.W.mg_none_of X G z_len, PySem.W.mg_none_of X G z_abs, PySem.W.mg_none_of X G z_int, PySem.W.mg_none_of X G z_range, PySem.W.mg_none_of X G z_max, PySem.W.mg_none_of X G z_min, PySem.W.mg_none_of X G z_enumerate, PySem.W.mg_none_of X G z_zip, PySem.W.mg_none_of X G z_dict, PySem.W.mg_none_of X G z_list, PySem.W.mg_none_of X G z_tuple, PySem.W.mg_none_of X G z_isinstance, PySem.W.mg_none_of X G z_bool, PySem.W.mg_none_of X G z_str, PySem.W.mg_none_of X G z_all, PySem.W.mg_none_of X G z_any, PySem.W.mg_none_of X G z_sum, PySem.W.mg_none_of X G z_sorted, PySem.W.mg_none_of X G z_repr⟩
  have F_is_integer : Def K mg "is_integer" s_is_integer f_is_integer (PySem.W.fnOf "is_integer" "is_integer" (fnArgs s_is_integer) (fnBody s_is_integer) (fnScope s_is_integer) .none kV_is_integer dc_is_integer pm_is_integer an_is_integer cd_is_integer ct_is_integer) := ⟨⟨_, _, _, _, _, _, _, _, _, _, rfl, l_is_integer, c_is_integer⟩, PySem.W.mg_of X G a_is_integer, k_is_integer⟩
  have b_is_integer := C8.Fun.binds (ps := ["value"]) F_is_integer.fn rfl fun _ _ _ _ _ _ us hl => match us, hl with | [_], _ => rfl
  have F_is_sequence : Def K mg "is_sequence" s_is_sequence f_is_sequence (PySem.W.fnOf "is_sequence" "is_sequence" (fnArgs s_is_sequence) (fnBody s_is_sequence) (fnScope s_is_sequence) .none kV_is_sequence dc_is_sequence pm_is_sequence an_is_sequence cd_is_sequence ct_is_sequence) := ⟨⟨_, _, _, _, _, _, _, _, _, _, rfl, l_is_sequence, c_is_sequence⟩, PySem.W.mg_of X G a_is_sequence, k_is_sequence⟩
  have b_is_sequence := C8.Fun.binds (ps := ["value"]) F_is_sequence.fn rfl fun _ _ _ _ _ _ us hl => match us, hl with | [_], _ => rfl
  have F_is_word : Def K mg "is_word" s_is_word f_is_word (PySem.W.fnOf "is_word" "is_word" (fnArgs s_is_word) (fnBody s_is_word) (fnScope s_is_word) .none kV_is_word dc_is_word pm_is_word an_is_word cd_is_word ct_is_word) := ⟨⟨_, _, _, _, _, _, _, _, _, _, rfl, l_is_word, c_is_word⟩, PySem.W.mg_of X G a_is_word, k_is_word⟩
  have b_is_word := C8.Fun.binds (ps := ["value"]) F_is_word.fn rfl fun _ _ _ _ _ _ us hl => match us, hl with | [_], _ => rfl
  have F_is_bit : Def K mg "is_bit" s_is_bit f_is_bit (PySem.W.fnOf "is_bit" "is_bit" (fnArgs s_is_bit) (fnBody s_is_bit) (fnScope s_is_bit) .none kV_is_bit dc_is_bit pm_is_bit an_is_bit cd_is_bit ct_is_bit) := ⟨⟨_, _, _, _, _, _, _, _, _, _, rfl, l_is_bit, c_is_bit⟩, PySem.W.mg_of X G a_is_bit, k_is_bit⟩
  have b_is_bit := C8.Fun.binds (ps := ["value"]) F_is_bit.fn rfl fun _ _ _ _ _ _ us hl => match us, hl with | [_], _ => rfl
  have F_tail : Def K mg "tail" s_tail f_tail (PySem.W.fnOf "tail" "tail" (fnArgs s_tail) (fnBody s_tail) (fnScope s_tail) .none kV_tail dc_tail pm_tail an_tail cd_tail ct_tail) := ⟨⟨_, _, _, _, _, _, _, _, _, _, rfl, l_tail, c_tail⟩, PySem.W.mg_of X G a_tail, k_tail⟩
  have b_tail := C8.Fun.binds (ps := ["line", "size"]) F_tail.fn rfl fun _ _ _ _ _ _ us hl => match us, hl with | [_, _], _ => rfl
  have F_common : Def K mg "common" s_common f_common (PySem.W.fnOf "common" "common" (fnArgs s_common) (fnBody s_common) (fnScope s_common) .none kV_common dc_common pm_common an_common cd_common ct_common) := ⟨⟨_, _, _, _, _, _, _, _, _, _, rfl, l_common, c_common⟩, PySem.W.mg_of X G a_common, k_common⟩
  have b_common := C8.Fun.binds (ps := ["p", "q"]) F_common.fn rfl fun _ _ _ _ _ _ us hl => match us, hl with | [_, _], _ => rfl
  have F_lowest : Def K mg "lowest" s_lowest f_lowest (PySem.W.fnOf "lowest" "lowest" (fnArgs s_lowest) (fnBody s_lowest) (fnScope s_lowest) .none kV_lowest dc_lowest pm_lowest an_lowest cd_lowest ct_lowest) := ⟨⟨_, _, _, _, _, _, _, _, _, _, rfl, l_lowest, c_lowest⟩, PySem.W.mg_of X G a_lowest, k_lowest⟩
  have b_lowest := C8.Fun.binds (ps := ["p", "q"]) F_lowest.fn rfl fun _ _ _ _ _ _ us hl => match us, hl with | [_, _], _ => rfl
  have F_is_value : Def K mg "is_value" s_is_value f_is_value (PySem.W.fnOf "is_value" "is_value" (fnArgs s_is_value) (fnBody s_is_value) (fnScope s_is_value) .none kV_is_value dc_is_value pm_is_value an_is_value cd_is_value ct_is_value) := ⟨⟨_, _, _, _, _, _, _, _, _, _, rfl, l_is_value, c_is_value⟩, PySem.W.mg_of X G a_is_value, k_is_value⟩
  have b_is_value := C8.Fun.binds (ps := ["value"]) F_is_value.fn rfl fun _ _ _ _ _ _ us hl => match us, hl with | [_], _ => rfl
  have F_move : Def K mg "move" s_move f_move (PySem.W.fnOf "move" "move" (fnArgs s_move) (fnBody s_move) (fnScope s_move) .none kV_move dc_move pm_move an_move cd_move ct_move) := ⟨⟨_, _, _, _, _, _, _, _, _, _, rfl, l_move, c_move⟩, PySem.W.mg_of X G a_move, k_move⟩
  have b_move := C8.Fun.binds (ps := ["rule", "standing", "bit"]) F_move.fn rfl fun _ _ _ _ _ _ us hl => match us, hl with | [_, _, _], _ => rfl
  have F_moves_of : Def K mg "moves_of" s_moves_of f_moves_of (PySem.W.fnOf "moves_of" "moves_of" (fnArgs s_moves_of) (fnBody s_moves_of) (fnScope s_moves_of) .none kV_moves_of dc_moves_of pm_moves_of an_moves_of cd_moves_of ct_moves_of) := ⟨⟨_, _, _, _, _, _, _, _, _, _, rfl, l_moves_of, c_moves_of⟩, PySem.W.mg_of X G a_moves_of, k_moves_of⟩
  have b_moves_of := C8.Fun.binds (ps := ["rule"]) F_moves_of.fn rfl fun _ _ _ _ _ _ us hl => match us, hl with | [_], _ => rfl
  have F_walks : Def K mg "walks" s_walks f_walks (PySem.W.fnOf "walks" "walks" (fnArgs s_walks) (fnBody s_walks) (fnScope s_walks) .none kV_walks dc_walks pm_walks an_walks cd_walks ct_walks) := ⟨⟨_, _, _, _, _, _, _, _, _, _, rfl, l_walks, c_walks⟩, PySem.W.mg_of X G a_walks, k_walks⟩
  have b_walks := C8.Fun.binds (ps := ["moves"]) F_walks.fn rfl fun _ _ _ _ _ _ us hl => match us, hl with | [_], _ => rfl
  have F_least_of : Def K mg "least_of" s_least_of f_least_of (PySem.W.fnOf "least_of" "least_of" (fnArgs s_least_of) (fnBody s_least_of) (fnScope s_least_of) .none kV_least_of dc_least_of pm_least_of an_least_of cd_least_of ct_least_of) := ⟨⟨_, _, _, _, _, _, _, _, _, _, rfl, l_least_of, c_least_of⟩, PySem.W.mg_of X G a_least_of, k_least_of⟩
  have b_least_of := C8.Fun.binds (ps := ["values"]) F_least_of.fn rfl fun _ _ _ _ _ _ us hl => match us, hl with | [_], _ => rfl
  have F_rate : Def K mg "rate" s_rate f_rate (PySem.W.fnOf "rate" "rate" (fnArgs s_rate) (fnBody s_rate) (fnScope s_rate) .none kV_rate dc_rate pm_rate an_rate cd_rate ct_rate) := ⟨⟨_, _, _, _, _, _, _, _, _, _, rfl, l_rate, c_rate⟩, PySem.W.mg_of X G a_rate, k_rate⟩
  have b_rate := C8.Fun.binds (ps := ["rule"]) F_rate.fn rfl fun _ _ _ _ _ _ us hl => match us, hl with | [_], _ => rfl
  have F_is_at_most : Def K mg "is_at_most" s_is_at_most f_is_at_most (PySem.W.fnOf "is_at_most" "is_at_most" (fnArgs s_is_at_most) (fnBody s_is_at_most) (fnScope s_is_at_most) .none kV_is_at_most dc_is_at_most pm_is_at_most an_is_at_most cd_is_at_most ct_is_at_most) := ⟨⟨_, _, _, _, _, _, _, _, _, _, rfl, l_is_at_most, c_is_at_most⟩, PySem.W.mg_of X G a_is_at_most, k_is_at_most⟩
  have b_is_at_most := C8.Fun.binds (ps := ["one", "two"]) F_is_at_most.fn rfl fun _ _ _ _ _ _ us hl => match us, hl with | [_, _], _ => rfl
  have F_rate_paper : Def K mg "rate_paper" s_rate_paper f_rate_paper (PySem.W.fnOf "rate_paper" "rate_paper" (fnArgs s_rate_paper) (fnBody s_rate_paper) (fnScope s_rate_paper) .none kV_rate_paper dc_rate_paper pm_rate_paper an_rate_paper cd_rate_paper ct_rate_paper) := ⟨⟨_, _, _, _, _, _, _, _, _, _, rfl, l_rate_paper, c_rate_paper⟩, PySem.W.mg_of X G a_rate_paper, k_rate_paper⟩
  have b_rate_paper := C8.Fun.binds (ps := ["rule", "value"]) F_rate_paper.fn rfl fun _ _ _ _ _ _ us hl => match us, hl with | [_, _], _ => rfl
  have F_is_entry : Def K mg "is_entry" s_is_entry f_is_entry (PySem.W.fnOf "is_entry" "is_entry" (fnArgs s_is_entry) (fnBody s_is_entry) (fnScope s_is_entry) .none kV_is_entry dc_is_entry pm_is_entry an_is_entry cd_is_entry ct_is_entry) := ⟨⟨_, _, _, _, _, _, _, _, _, _, rfl, l_is_entry, c_is_entry⟩, PySem.W.mg_of X G a_is_entry, k_is_entry⟩
  have b_is_entry := C8.Fun.binds (ps := ["rule", "value"]) F_is_entry.fn rfl fun _ _ _ _ _ _ us hl => match us, hl with | [_, _], _ => rfl
  have F_is_kept : Def K mg "is_kept" s_is_kept f_is_kept (PySem.W.fnOf "is_kept" "is_kept" (fnArgs s_is_kept) (fnBody s_is_kept) (fnScope s_is_kept) .none kV_is_kept dc_is_kept pm_is_kept an_is_kept cd_is_kept ct_is_kept) := ⟨⟨_, _, _, _, _, _, _, _, _, _, rfl, l_is_kept, c_is_kept⟩, PySem.W.mg_of X G a_is_kept, k_is_kept⟩
  have b_is_kept := C8.Fun.binds (ps := ["rule", "value", "heights", "here"]) F_is_kept.fn rfl fun _ _ _ _ _ _ us hl => match us, hl with | [_, _, _, _], _ => rfl
  have F_rate_paper_holds : Def K mg "rate_paper_holds" s_rate_paper_holds f_rate_paper_holds (PySem.W.fnOf "rate_paper_holds" "rate_paper_holds" (fnArgs s_rate_paper_holds) (fnBody s_rate_paper_holds) (fnScope s_rate_paper_holds) .none kV_rate_paper_holds dc_rate_paper_holds pm_rate_paper_holds an_rate_paper_holds cd_rate_paper_holds ct_rate_paper_holds) := ⟨⟨_, _, _, _, _, _, _, _, _, _, rfl, l_rate_paper_holds, c_rate_paper_holds⟩, PySem.W.mg_of X G a_rate_paper_holds, k_rate_paper_holds⟩
  have b_rate_paper_holds := C8.Fun.binds (ps := ["rule", "value", "paper"]) F_rate_paper_holds.fn rfl fun _ _ _ _ _ _ us hl => match us, hl with | [_, _, _], _ => rfl
  have F_is_stuff : Def K mg "is_stuff" s_is_stuff f_is_stuff (PySem.W.fnOf "is_stuff" "is_stuff" (fnArgs s_is_stuff) (fnBody s_is_stuff) (fnScope s_is_stuff) .none kV_is_stuff dc_is_stuff pm_is_stuff an_is_stuff cd_is_stuff ct_is_stuff) := ⟨⟨_, _, _, _, _, _, _, _, _, _, rfl, l_is_stuff, c_is_stuff⟩, PySem.W.mg_of X G a_is_stuff, k_is_stuff⟩
  have b_is_stuff := C8.Fun.binds (ps := ["value"]) F_is_stuff.fn rfl fun _ _ _ _ _ _ us hl => match us, hl with | [_], _ => rfl
  have F_are_stuffs : Def K mg "are_stuffs" s_are_stuffs f_are_stuffs (PySem.W.fnOf "are_stuffs" "are_stuffs" (fnArgs s_are_stuffs) (fnBody s_are_stuffs) (fnScope s_are_stuffs) .none kV_are_stuffs dc_are_stuffs pm_are_stuffs an_are_stuffs cd_are_stuffs ct_are_stuffs) := ⟨⟨_, _, _, _, _, _, _, _, _, _, rfl, l_are_stuffs, c_are_stuffs⟩, PySem.W.mg_of X G a_are_stuffs, k_are_stuffs⟩
  have b_are_stuffs := C8.Fun.binds (ps := ["value"]) F_are_stuffs.fn rfl fun _ _ _ _ _ _ us hl => match us, hl with | [_], _ => rfl
  have F_l_seed : Def K mg "_law_seed" s_l_seed f_l_seed (PySem.W.fnOf "_law_seed" "_law_seed" (fnArgs s_l_seed) (fnBody s_l_seed) (fnScope s_l_seed) .none kV_l_seed dc_l_seed pm_l_seed an_l_seed cd_l_seed ct_l_seed) := ⟨⟨_, _, _, _, _, _, _, _, _, _, rfl, l_l_seed, c_l_seed⟩, PySem.W.mg_of X G a_l_seed, k_l_seed⟩
  have b_l_seed := C8.Fun.binds (ps := ["_law_script", "_law_k"]) F_l_seed.fn rfl fun _ _ _ _ _ _ us hl => match us, hl with | [_, _], _ => rfl
  have F_l_choose : Def K mg "_law_choose" s_l_choose f_l_choose (PySem.W.fnOf "_law_choose" "_law_choose" (fnArgs s_l_choose) (fnBody s_l_choose) (fnScope s_l_choose) .none kV_l_choose dc_l_choose pm_l_choose an_l_choose cd_l_choose ct_l_choose) := ⟨⟨_, _, _, _, _, _, _, _, _, _, rfl, l_l_choose, c_l_choose⟩, PySem.W.mg_of X G a_l_choose, k_l_choose⟩
  have b_l_choose := C8.Fun.binds (ps := ["_law_box", "_law_many"]) F_l_choose.fn rfl fun _ _ _ _ _ _ us hl => match us, hl with | [_, _], _ => rfl
  have F_l_one_of : Def K mg "_law_one_of" s_l_one_of f_l_one_of (PySem.W.fnOf "_law_one_of" "_law_one_of" (fnArgs s_l_one_of) (fnBody s_l_one_of) (fnScope s_l_one_of) .none kV_l_one_of dc_l_one_of pm_l_one_of an_l_one_of cd_l_one_of ct_l_one_of) := ⟨⟨_, _, _, _, _, _, _, _, _, _, rfl, l_l_one_of, c_l_one_of⟩, PySem.W.mg_of X G a_l_one_of, k_l_one_of⟩
  have b_l_one_of := C8.Fun.binds (ps := ["_law_box", "_law_some"]) F_l_one_of.fn rfl fun _ _ _ _ _ _ us hl => match us, hl with | [_, _], _ => rfl
  have F_l_word : Def K mg "_law_word" s_l_word f_l_word (PySem.W.fnOf "_law_word" "_law_word" (fnArgs s_l_word) (fnBody s_l_word) (fnScope s_l_word) .none kV_l_word dc_l_word pm_l_word an_l_word cd_l_word ct_l_word) := ⟨⟨_, _, _, _, _, _, _, _, _, _, rfl, l_l_word, c_l_word⟩, PySem.W.mg_of X G a_l_word, k_l_word⟩
  have b_l_word := C8.Fun.binds (ps := ["_law_box", "_law_few", "_law_many"]) F_l_word.fn rfl fun _ _ _ _ _ _ us hl => match us, hl with | [_, _, _], _ => rfl
  have F_l_put : Def K mg "_law_put" s_l_put f_l_put (PySem.W.fnOf "_law_put" "_law_put" (fnArgs s_l_put) (fnBody s_l_put) (fnScope s_l_put) .none kV_l_put dc_l_put pm_l_put an_l_put cd_l_put ct_l_put) := ⟨⟨_, _, _, _, _, _, _, _, _, _, rfl, l_l_put, c_l_put⟩, PySem.W.mg_of X G a_l_put, k_l_put⟩
  have b_l_put := C8.Fun.binds (ps := ["_law_rule_here", "_law_line"]) F_l_put.fn rfl fun _ _ _ _ _ _ us hl => match us, hl with | [_, _], _ => rfl
  have F_l_is_rule : Def K mg "_law_is_rule" s_l_is_rule f_l_is_rule (PySem.W.fnOf "_law_is_rule" "_law_is_rule" (fnArgs s_l_is_rule) (fnBody s_l_is_rule) (fnScope s_l_is_rule) .none kV_l_is_rule dc_l_is_rule pm_l_is_rule an_l_is_rule cd_l_is_rule ct_l_is_rule) := ⟨⟨_, _, _, _, _, _, _, _, _, _, rfl, l_l_is_rule, c_l_is_rule⟩, PySem.W.mg_of X G a_l_is_rule, k_l_is_rule⟩
  have b_l_is_rule := C8.Fun.binds (ps := ["_law_rule_here"]) F_l_is_rule.fn rfl fun _ _ _ _ _ _ us hl => match us, hl with | [_], _ => rfl
  have F_l_rule : Def K mg "_law_rule" s_l_rule f_l_rule (PySem.W.fnOf "_law_rule" "_law_rule" (fnArgs s_l_rule) (fnBody s_l_rule) (fnScope s_l_rule) .none kV_l_rule dc_l_rule pm_l_rule an_l_rule cd_l_rule ct_l_rule) := ⟨⟨_, _, _, _, _, _, _, _, _, _, rfl, l_l_rule, c_l_rule⟩, PySem.W.mg_of X G a_l_rule, k_l_rule⟩
  have b_l_rule := C8.Fun.binds (ps := ["_law_box", "_law_widest", "_law_longest_one"]) F_l_rule.fn rfl fun _ _ _ _ _ _ us hl => match us, hl with | [_, _, _], _ => rfl
  have F_l_made : Def K mg "_law_made" s_l_made f_l_made (PySem.W.fnOf "_law_made" "_law_made" (fnArgs s_l_made) (fnBody s_l_made) (fnScope s_l_made) .none kV_l_made dc_l_made pm_l_made an_l_made cd_l_made ct_l_made) := ⟨⟨_, _, _, _, _, _, _, _, _, _, rfl, l_l_made, c_l_made⟩, PySem.W.mg_of X G a_l_made, k_l_made⟩
  have b_l_made := C8.Fun.binds (ps := ["_law_rule_here"]) F_l_made.fn rfl fun _ _ _ _ _ _ us hl => match us, hl with | [_], _ => rfl
  have F_l_is_paper : Def K mg "_law_is_paper" s_l_is_paper f_l_is_paper (PySem.W.fnOf "_law_is_paper" "_law_is_paper" (fnArgs s_l_is_paper) (fnBody s_l_is_paper) (fnScope s_l_is_paper) .none kV_l_is_paper dc_l_is_paper pm_l_is_paper an_l_is_paper cd_l_is_paper ct_l_is_paper) := ⟨⟨_, _, _, _, _, _, _, _, _, _, rfl, l_l_is_paper, c_l_is_paper⟩, PySem.W.mg_of X G a_l_is_paper, k_l_is_paper⟩
  have b_l_is_paper := C8.Fun.binds (ps := ["_law_told", "_law_value", "_law_paper"]) F_l_is_paper.fn rfl fun _ _ _ _ _ _ us hl => match us, hl with | [_, _, _], _ => rfl
  have F_l_is_entry : Def K mg "_law_is_entry" s_l_is_entry f_l_is_entry (PySem.W.fnOf "_law_is_entry" "_law_is_entry" (fnArgs s_l_is_entry) (fnBody s_l_is_entry) (fnScope s_l_is_entry) .none kV_l_is_entry dc_l_is_entry pm_l_is_entry an_l_is_entry cd_l_is_entry ct_l_is_entry) := ⟨⟨_, _, _, _, _, _, _, _, _, _, rfl, l_l_is_entry, c_l_is_entry⟩, PySem.W.mg_of X G a_l_is_entry, k_l_is_entry⟩
  have b_l_is_entry := C8.Fun.binds (ps := ["_law_one", "_law_size"]) F_l_is_entry.fn rfl fun _ _ _ _ _ _ us hl => match us, hl with | [_, _], _ => rfl
  have F_l_common : Def K mg "_law_common" s_l_common f_l_common (PySem.W.fnOf "_law_common" "_law_common" (fnArgs s_l_common) (fnBody s_l_common) (fnScope s_l_common) .none kV_l_common dc_l_common pm_l_common an_l_common cd_l_common ct_l_common) := ⟨⟨_, _, _, _, _, _, _, _, _, _, rfl, l_l_common, c_l_common⟩, PySem.W.mg_of X G a_l_common, k_l_common⟩
  have b_l_common := C8.Fun.binds (ps := ["_law_p", "_law_q"]) F_l_common.fn rfl fun _ _ _ _ _ _ us hl => match us, hl with | [_, _], _ => rfl
  have F_l_bent : Def K mg "_law_bent" s_l_bent f_l_bent (PySem.W.fnOf "_law_bent" "_law_bent" (fnArgs s_l_bent) (fnBody s_l_bent) (fnScope s_l_bent) .none kV_l_bent dc_l_bent pm_l_bent an_l_bent cd_l_bent ct_l_bent) := ⟨⟨_, _, _, _, _, _, _, _, _, _, rfl, l_l_bent, c_l_bent⟩, PySem.W.mg_of X G a_l_bent, k_l_bent⟩
  have b_l_bent := C8.Fun.binds (ps := ["_law_box", "_law_rows"]) F_l_bent.fn rfl fun _ _ _ _ _ _ us hl => match us, hl with | [_, _], _ => rfl
  have F_law : Def K mg "law" s_law f_law (PySem.W.fnOf "law" "law" (fnArgs s_law) (fnBody s_law) (fnScope s_law) .none kV_law dc_law pm_law an_law cd_law ct_law) := ⟨⟨_, _, _, _, _, _, _, _, _, _, rfl, l_law, c_law⟩, PySem.W.mg_of X G a_law, k_law⟩
  have b_law := C8.Fun.binds (ps := ["_law_script"]) F_law.fn rfl fun _ _ _ _ _ _ us hl => match us, hl with | [_], _ => rfl
  have CL_Rule : Cls K C_Rule := ⟨pg_Rule, hd_Rule, po_Rule, sa_Rule⟩
  have F_Rule_put : C8.Fun K "put" "Rule.put" s_Rule_put f_Rule_put (PySem.W.fnOf "put" "Rule.put" (fnArgs s_Rule_put) (fnBody s_Rule_put) (fnScope s_Rule_put) .none kV_Rule_put dc_Rule_put pm_Rule_put an_Rule_put cd_Rule_put ct_Rule_put) := ⟨_, _, _, _, _, _, _, _, _, _, rfl, l_Rule_put, c_Rule_put⟩
  have b_Rule_put := C8.Fun.binds (ps := ["self", "line"]) F_Rule_put rfl fun _ _ _ _ _ _ us hl => match us, hl with | [_, _], _ => rfl
  have F_Rule_longest : C8.Fun K "longest" "Rule.longest" s_Rule_longest f_Rule_longest (PySem.W.fnOf "longest" "Rule.longest" (fnArgs s_Rule_longest) (fnBody s_Rule_longest) (fnScope s_Rule_longest) .none kV_Rule_longest dc_Rule_longest pm_Rule_longest an_Rule_longest cd_Rule_longest ct_Rule_longest) := ⟨_, _, _, _, _, _, _, _, _, _, rfl, l_Rule_longest, c_Rule_longest⟩
  have b_Rule_longest := C8.Fun.binds (ps := ["self"]) F_Rule_longest rfl fun _ _ _ _ _ _ us hl => match us, hl with | [_], _ => rfl
  have F_Rule_put_in : C8.Fun K "put_in" "Rule.put_in" s_Rule_put_in f_Rule_put_in (PySem.W.fnOf "put_in" "Rule.put_in" (fnArgs s_Rule_put_in) (fnBody s_Rule_put_in) (fnScope s_Rule_put_in) .none kV_Rule_put_in dc_Rule_put_in pm_Rule_put_in an_Rule_put_in cd_Rule_put_in ct_Rule_put_in) := ⟨_, _, _, _, _, _, _, _, _, _, rfl, l_Rule_put_in, c_Rule_put_in⟩
  have b_Rule_put_in := C8.Fun.binds (ps := ["self", "line"]) F_Rule_put_in rfl fun _ _ _ _ _ _ us hl => match us, hl with | [_, _], _ => rfl
  have F_Rule_is_endless : C8.Fun K "is_endless" "Rule.is_endless" s_Rule_is_endless f_Rule_is_endless (PySem.W.fnOf "is_endless" "Rule.is_endless" (fnArgs s_Rule_is_endless) (fnBody s_Rule_is_endless) (fnScope s_Rule_is_endless) .none kV_Rule_is_endless dc_Rule_is_endless pm_Rule_is_endless an_Rule_is_endless cd_Rule_is_endless ct_Rule_is_endless) := ⟨_, _, _, _, _, _, _, _, _, _, rfl, l_Rule_is_endless, c_Rule_is_endless⟩
  have b_Rule_is_endless := C8.Fun.binds (ps := ["self"]) F_Rule_is_endless rfl fun _ _ _ _ _ _ us hl => match us, hl with | [_], _ => rfl
  have F_Rule_init : C8.Fun K "__init__" "Rule.__init__" s_Rule_init f_Rule_init (PySem.W.fnOf "__init__" "Rule.__init__" (fnArgs s_Rule_init) (fnBody s_Rule_init) (fnScope s_Rule_init) (.ref dT_Rule_init) kV_Rule_init dc_Rule_init pm_Rule_init an_Rule_init cd_Rule_init ct_Rule_init) := ⟨_, _, _, _, _, _, _, _, _, _, rfl, l_Rule_init, c_Rule_init⟩
  have FD_Rule_init : FunD K "__init__" "Rule.__init__" (fnArgs s_Rule_init) (fnBody s_Rule_init) (fnScope s_Rule_init) [.ref dE_R] [] f_Rule_init (PySem.W.fnOf "__init__" "Rule.__init__" (fnArgs s_Rule_init) (fnBody s_Rule_init) (fnScope s_Rule_init) (.ref dT_Rule_init) kV_Rule_init dc_Rule_init pm_Rule_init an_Rule_init cd_Rule_init ct_Rule_init) := ⟨⟨_, _, _, _, _, _, _, _, _, _, rfl, l_Rule_init, c_Rule_init, .inr ⟨List.cons_ne_nil _ _, _, _, _, _, rfl, dl_Rule_init, rfl, .cons rfl .nil⟩, .inl rfl⟩, k_Rule_init⟩
  obtain ⟨ds0_Rule_init, vd0_Rule_init, bd0_Rule_init⟩ := FD_Rule_init.binds1 (ps := ["self", "flag", "stuffs"]) 2 0 (List.cons_ne_nil _ _) rfl fun _ _ _ _ _ _ _ us its h1 h2 => match us, its, h1, h2 with | [_, _], [_], _, _ => ⟨_, rfl, rfl⟩
  obtain ⟨ds1_Rule_init, vd1_Rule_init, bd1_Rule_init⟩ := FD_Rule_init.binds1 (ps := ["self", "flag", "stuffs"]) 3 1 (List.cons_ne_nil _ _) rfl fun _ _ _ _ _ _ _ us its h1 h2 => match us, its, h1, h2 with | [_, _, _], [_], _, _ => ⟨_, rfl, rfl⟩
  refine ⟨PySem.W.fnOf "law" "law" (fnArgs s_law) (fnBody s_law) (fnScope s_law) .none kV_law dc_law pm_law an_law cd_law ct_law, fun s v => .of_eq rfl, fun base _ _ => ?_⟩
  have RT : RuT K C_Rule := ⟨CL_Rule, n_Rule_flag, n_Rule_stuffs⟩
  have c_l_seed := cal_l_seed (P := l.prog) (w := w) (base := base) F_l_seed b_l_seed T
  have c_l_choose := cal_l_choose (P := l.prog) (w := w) (base := base) F_l_choose b_l_choose T
  have c_l_one_of := cal_l_one_of (P := l.prog) (w := w) (base := base) F_l_one_of b_l_one_of T c_l_choose
  have c_l_word := cal_l_word (P := l.prog) (w := w) (base := base) F_l_word b_l_word T c_l_choose c_l_one_of
  have c_l_put := cal_l_put (P := l.prog) (w := w) (base := base) F_l_put b_l_put T
  have c_l_is_rule := cal_l_is_rule (P := l.prog) (w := w) (base := base) F_l_is_rule b_l_is_rule T c_l_put
  have c_l_rule := cal_l_rule (P := l.prog) (w := w) (base := base) F_l_rule b_l_rule T c_l_choose c_l_one_of c_l_word c_l_is_rule
  have g_BITS := PySem.W.mg_of X G gBITS
  have c_is_word := cal_is_word (P := l.prog) (w := w) (base := base) F_is_word b_is_word T g_BITS
  have c_is_sequence := cal_is_sequence (P := l.prog) (w := w) (base := base) F_is_sequence b_is_sequence T
  have c_is_bit := cal_is_bit (P := l.prog) (w := w) (base := base) F_is_bit b_is_bit T c_is_word
  have c_is_stuff := cal_is_stuff (P := l.prog) (w := w) (base := base) F_is_stuff b_is_stuff T c_is_word c_is_bit
  have c_are_stuffs := cal_are_stuffs (P := l.prog) (w := w) (base := base) F_are_stuffs b_are_stuffs T c_is_sequence c_is_stuff
  have c_put := met_put (P := l.prog) (w := w) (base := base) F_Rule_put ⟨a_Rule_put, i_Rule_put, k_Rule_put⟩ b_Rule_put T RT
  have p_longest : Prp l.prog w K mg base 1 C_Rule "longest" (spLongest C_Rule) := ⟨_, _, _, _, CL_Rule, ⟨a_Rule_longest, g_Rule_longest, t_Rule_longest, ⟨_, r_Rule_longest⟩⟩, ok_longest F_Rule_longest T RT, b_Rule_longest⟩
  have c_tail := cal_tail (P := l.prog) (w := w) (base := base) F_tail b_tail T
  have c_put_in := met_put_in (P := l.prog) (w := w) (base := base) F_Rule_put_in ⟨a_Rule_put_in, i_Rule_put_in, k_Rule_put_in⟩ b_Rule_put_in T RT c_put p_longest c_tail
  have c_is_endless := met_is_endless (P := l.prog) (w := w) (base := base) F_Rule_is_endless ⟨a_Rule_is_endless, i_Rule_is_endless, k_Rule_is_endless⟩ b_Rule_is_endless T RT g_BITS c_put_in p_longest c_tail
  have M_Rule : Mk K C_Rule f_Rule_init := ⟨mk_Rule, a_Rule_init, i_Rule_init, kc_Rule⟩
  have i_ok_Rule := ok_Rule_init (P := l.prog) (w := w) (base := base) F_Rule_init T RT c_is_word c_are_stuffs c_is_endless
  have m_Rule2 : Mak l.prog w K mg base 5 "Rule" C_Rule (spRuInit K C_Rule) [] := ⟨_, _, _, _, M_Rule, i_ok_Rule, PySem.W.mg_of X G aC_Rule, bd1_Rule_init, vd1_Rule_init⟩
  have c_l_made := cal_l_made (P := l.prog) (w := w) (base := base) F_l_made b_l_made T m_Rule2
  have c_l_bent := cal_l_bent (P := l.prog) (w := w) (base := base) F_l_bent b_l_bent T c_l_choose c_l_one_of
  have c_l_common := cal_l_common (P := l.prog) (w := w) (base := base) F_l_common b_l_common T
  have c_l_is_entry := cal_l_is_entry (P := l.prog) (w := w) (base := base) F_l_is_entry b_l_is_entry T c_l_common
  have c_l_is_paper := cal_l_is_paper (P := l.prog) (w := w) (base := base) F_l_is_paper b_l_is_paper T c_l_put c_l_is_entry
  have c_move := cal_move (P := l.prog) (w := w) (base := base) F_move b_move T RT c_put_in c_tail p_longest
  have c_moves_of := cal_moves_of (P := l.prog) (w := w) (base := base) F_moves_of b_moves_of T g_BITS c_move
  have c_walks := cal_walks (P := l.prog) (w := w) (base := base) F_walks b_walks T
  have c_least_of := cal_least_of (P := l.prog) (w := w) (base := base) F_least_of b_least_of T
  have c_common := cal_common (P := l.prog) (w := w) (base := base) F_common b_common T
  have c_lowest := cal_lowest (P := l.prog) (w := w) (base := base) F_lowest b_lowest T c_common
  have c_rate := cal_rate (P := l.prog) (w := w) (base := base) F_rate b_rate T c_moves_of c_walks c_least_of c_lowest
  have c_is_at_most := cal_is_at_most (P := l.prog) (w := w) (base := base) F_is_at_most b_is_at_most T
  have c_rate_paper := cal_rate_paper (P := l.prog) (w := w) (base := base) F_rate_paper b_rate_paper T c_is_at_most c_rate c_moves_of c_lowest
  have c_is_integer := cal_is_integer (P := l.prog) (w := w) (base := base) F_is_integer b_is_integer T
  have c_is_value := cal_is_value (P := l.prog) (w := w) (base := base) F_is_value b_is_value T c_is_integer c_lowest
  have c_is_entry := cal_is_entry (P := l.prog) (w := w) (base := base) F_is_entry b_is_entry T RT c_is_word p_longest c_is_value
  have c_put_inX := met_put_inX (P := l.prog) (w := w) (base := base) F_Rule_put_in ⟨a_Rule_put_in, i_Rule_put_in, k_Rule_put_in⟩ b_Rule_put_in T RT c_put p_longest c_tail
  have c_moveX := cal_moveX (P := l.prog) (w := w) (base := base) F_move b_move T RT c_put_inX c_tail p_longest
  have c_is_at_mostX := cal_is_at_mostX (P := l.prog) (w := w) (base := base) F_is_at_most b_is_at_most T
  have c_is_kept := cal_is_kept (P := l.prog) (w := w) (base := base) F_is_kept b_is_kept T g_BITS c_moveX c_is_at_mostX
  have c_rate_paper_holds := cal_rate_paper_holds (P := l.prog) (w := w) (base := base) F_rate_paper_holds b_rate_paper_holds T c_is_entry c_is_kept
  exact ok_law F_law T RT c_l_seed c_l_one_of c_l_rule c_l_made c_l_bent c_l_is_paper c_rate c_rate_paper c_rate_paper_holds
theorem walk {l : PySem.W.OpenLaw} {q : Program} {loose : List Str} {XP : (Str → Option Value) → Heap → Prop} {YP : World → Heap → Prop} {d : DefRec} {K : Params → PySem.W.Frag} (hn : l.most = some 63) (hdf : d.params.defaults = [])
    (hY : ∀ (w : World) (h : Heap), YP w h → (K w.params).In h)
    (F : ∀ (w : World) (mg : Str → Option Value) (fa : Addr) (h : Heap), (K w.params).In h → h.Ns mainGlobals mg → mg d.name = some (.ref fa) →
      ∃ fd : FuncData, (∀ (s : Shared) (u : Value), BindsTo s fd ⟨[u], []⟩ [("_law_script", u)]) ∧ ∀ base : Heap, (K w.params).In base → base.Ns mainGlobals mg → FnOk l.prog w (K w.params) mg base CX0 9 fa fd ["_law_script"] (spLaw (K w.params))) :
    PySem.W.WalkO q loose XP YP l.row.toRowW d [] (fun f vs => PySem.call f vs) :=
  L2.walk_of (n := 63) (k := 9) (x := "_law_script") (CX := fun _ => CX0) (sp := fun w => spLaw (K w.params)) hn (by decide) hdf ⟨rfl, by decide, by decide⟩ hY F (fun _ _ a ns hl _ hS => ⟨a, ns, rfl, hS, hl, fun _ => rfl⟩) fun _ _ _ _ _ z => z
end U
open PySem PySem.W PyProof.Rows
def PySem.W.Fast.tw5345258295137445433 : Unit := ()
def PySem.W.Fast.tw13157366995853367378 : Unit := ()
def PySem.W.Fast.tw15548060300575112360 : Unit := ()
def PySem.W.Fast.tw14839284253873129607 : Unit := ()
def PySem.W.Fast.tw4968232486931508459 : Unit := ()
def PySem.W.Fast.tw13068294959449877283 : Unit := ()
def PySem.W.Fast.tw4063468761407469911 : Unit := ()
def PySem.W.Fast.tw3572369009995129335 : Unit := ()
def PySem.W.Fast.tw12081571325541745018 : Unit := ()
def PySem.W.Fast.tw16213405569966498141 : Unit := ()
def PySem.W.Fast.tw1543483826551777446 : Unit := ()
def PySem.W.Fast.tw10148021770859840940 : Unit := ()
def PySem.W.Fast.tw1369502076000907962 : Unit := ()
def PySem.W.Fast.tw17073093171198200687 : Unit := ()
def PySem.W.Fast.tw801301829119110287 : Unit := ()
def PySem.W.Fast.tw10954385001007147409 : Unit := ()
def PySem.W.Fast.tw13008780916766616664 : Unit := ()
def PySem.W.Fast.tw5817168509490994364 : Unit := ()
def PySem.W.Fast.tw12190989152332718116 : Unit := ()
def PySem.W.Fast.tw3964093406363979556 : Unit := ()
def PySem.W.Fast.tw14952351552068191086 : Unit := ()
def PySem.W.Fast.tw4447261284613787219 : Unit := ()
def PySem.W.Fast.tw3491914709260431003 : Unit := ()
def PySem.W.Fast.tw7843197003903293933 : Unit := ()
def PySem.W.Fast.tw11754343909180627388 : Unit := ()
def PySem.W.Fast.tw1384153630509931282 : Unit := ()
def PySem.W.Fast.tw9722638708474404301 : Unit := ()
def PySem.W.Fast.tw12476432709480087528 : Unit := ()
def PySem.W.Fast.tw12146118147133268943 : Unit := ()
def PySem.W.Fast.tw16904818475717027834 : Unit := ()
def PySem.W.Fast.tw185472497283156508 : Unit := ()
def PySem.W.Fast.tw6700079787105270963 : Unit := ()
def PySem.W.Fast.tw3176507893999338254 : Unit := ()
def PySem.W.Fast.tw15079667431498369369 : Unit := ()
def PySem.W.Fast.tw9762932254985738391 : Unit := ()
def PySem.W.Fast.tw7323459943676166854 : Unit := ()
def PySem.W.Fast.tw16160995082872591331 : Unit := ()
def PySem.W.Fast.tw12287548289003720234 : Unit := ()
def PySem.W.Fast.tw15673967683523742033 : Unit := ()
def PySem.W.Fast.tw14732154246353561572 : Unit := ()
def PySem.W.Fast.tw10961962990925674509 : Unit := ()
def PySem.W.Fast.tw2716519802367973864 : Unit := ()
def PySem.W.Fast.tw14116493564396332486 : Unit := ()
def PySem.W.Fast.tw13432426623286074301 : Unit := ()
def PySem.W.Fast.tw3343856232105313812 : Unit := ()
def PySem.W.Fast.tw10846726059102037047 : Unit := ()
def PySem.W.Fast.tw7974221174526127839 : Unit := ()
def PySem.W.Fast.tw11355300317647646284 : Unit := ()
def PySem.W.Fast.tw15492760966436255210 : Unit := ()
def PySem.W.Fast.tw14690600212893962683 : Unit := ()
def PySem.W.Fast.tw14116534808781602162 : Unit := ()
def PySem.W.Fast.tw17444714450592109730 : Unit := ()
def PySem.W.Fast.tw2256861556220563553 : Unit := ()
def PySem.W.Fast.tw12409483992266319957 : Unit := ()
def PySem.W.Fast.tw5002582091625288118 : Unit := ()
def PySem.W.Fast.tw12466944510147641526 : Unit := ()
def PySem.W.Fast.tw10412448922809905085 : Unit := ()
def PySem.W.Fast.tw11902090030743226236 : Unit := ()
def PySem.W.Fast.tw12644433034120563216 : Unit := ()
def PySem.W.Fast.tw11796497371078274584 : Unit := ()
def PySem.W.Fast.tw16893334665466464371 : Unit := ()
def PySem.W.Fast.tw13996642848534186205 : Unit := ()
def PySem.W.Fast.tw15255510946514886251 : Unit := ()
def PySem.W.Fast.tw3625441111473727431 : Unit := ()
def PySem.W.Fast.tw16665261840547279203 : Unit := ()
def PySem.W.Fast.tw10132414793844874454 : Unit := ()
def PySem.W.Fast.tw17935304197789362010 : Unit := ()
def PySem.W.Fast.tw11365125710272018791 : Unit := ()
def PySem.W.Fast.tw9462454330691175607 : Unit := ()
def PySem.W.Fast.tw4180313601433094510 : Unit := ()
def PySem.W.Fast.tw15951071811437939906 : Unit := ()
def PySem.W.Fast.tw2672705739350417686 : Unit := ()
def PySem.W.Fast.tw14221686391620171036 : Unit := ()
def PySem.W.Fast.tw16684387059965352644 : Unit := ()
def PySem.W.Fast.tw12729895889408799099 : Unit := ()
def PySem.W.Fast.tw3168518266652820198 : Unit := ()
def PySem.W.Fast.tw15188430946788465862 : Unit := ()
def PySem.W.Fast.tw10168697183663291917 : Unit := ()
def PySem.W.Fast.tw12365695247045254746 : Unit := ()
def PySem.W.Fast.tw11465732060629977070 : Unit := ()
def PySem.W.Fast.tw8291684462404365883 : Unit := ()
def PySem.W.Fast.tw5755816697231036388 : Unit := ()
def PySem.W.Fast.tw18435982531307909742 : Unit := ()
def PySem.W.Fast.tw8149449148967237095 : Unit := ()
def PySem.W.Fast.tw9242467012090727735 : Unit := ()
def PySem.W.Fast.tw2226223833937070909 : Unit := ()
def PySem.W.Fast.tw8785355025686080810 : Unit := ()
def PySem.W.Fast.tw11463831328136066059 : Unit := ()
def PySem.W.Fast.tw10019592221347069320 : Unit := ()
def PySem.W.Fast.tw18154339371583746521 : Unit := ()
def PySem.W.Fast.tw17864203450076680541 : Unit := ()
def PySem.W.Fast.tw15013995323625581478 : Unit := ()
def PySem.W.Fast.tw7062476234677088956 : Unit := ()
def PySem.W.Fast.tw5562831166029952646 : Unit := ()
def PySem.W.Fast.tw5450008422706730964 : Unit := ()
def PySem.W.Fast.tw15037028548117196285 : Unit := ()
def PySem.W.Fast.tw5372519780528505060 : Unit := ()
def PySem.W.Fast.tw8212263132918372870 : Unit := ()
def PySem.W.Fast.tw17845316744041815710 : Unit := ()
def PySem.W.Fast.tw16917868575423478592 : Unit := ()
def PySem.W.Fast.tw15236090907814311250 : Unit := ()
def PySem.W.Fast.tw16910729170490209955 : Unit := ()
def PySem.W.Fast.tw9001047273405735495 : Unit := ()
def PySem.W.Fast.tw14426459559259059929 : Unit := ()
def PySem.W.Fast.tw17517669799371890306 : Unit := ()
def PySem.W.Fast.tw16138758117059455579 : Unit := ()
def PySem.W.Fast.tw5357299782424168884 : Unit := ()
def PySem.W.Fast.tw3245722457106953381 : Unit := ()
def PySem.W.Fast.tw735425377514208685 : Unit := ()
def PySem.W.Fast.tw2486711890894059769 : Unit := ()
def PySem.W.Fast.tw15274609976568931579 : Unit := ()
def PySem.W.Fast.tw11101851543100964489 : Unit := ()
def PySem.W.Fast.tw5240189608007691445 : Unit := ()
def PySem.W.Fast.tw16647632253049114716 : Unit := ()
def PySem.W.Fast.tw4720788663973044267 : Unit := ()
def PySem.W.Fast.tw15319839984303251896 : Unit := ()
def PySem.W.Fast.tw8602737993113539740 : Unit := ()
def PySem.W.Fast.tw2496974066727860655 : Unit := ()
def PySem.W.Fast.tw17295582790795593980 : Unit := ()
def PySem.W.Fast.tw16435733709662086629 : Unit := ()
def PySem.W.Fast.tw13499798043503112943 : Unit := ()
def PySem.W.Fast.tw12996642925604737305 : Unit := ()
def PySem.W.Fast.tw17039367562254128234 : Unit := ()
def PySem.W.Fast.tw16546859260702355449 : Unit := ()
def PySem.W.Fast.tw3984178757031990596 : Unit := ()
def PySem.W.Fast.tw15710673942197130094 : Unit := ()
def PySem.W.Fast.tw1902394933076991458 : Unit := ()
def PySem.W.Fast.tw11900252823909580757 : Unit := ()
def PySem.W.Fast.tw12714999375135619353 : Unit := ()
def PySem.W.Fast.tw5773425466658465787 : Unit := ()
def PySem.W.Fast.tw14302728455536598724 : Unit := ()
def PySem.W.Fast.tw15699595813386192149 : Unit := ()
def PySem.W.Fast.tw14383500358167094853 : Unit := ()
def PySem.W.Fast.tw10233378506530017095 : Unit := ()
def PySem.W.Fast.tw1939568810608571721 : Unit := ()
def PySem.W.Fast.tw6021248813521217172 : Unit := ()
def PySem.W.Fast.tw10400646557993242694 : Unit := ()
def PySem.W.Fast.tw10349465677978537198 : Unit := ()
def PySem.W.Fast.tw18189224482235901024 : Unit := ()
def PySem.W.Fast.tw13569619231035052351 : Unit := ()
def PySem.W.Fast.tw11937399077538578942 : Unit := ()
def PySem.W.Fast.tw17740101401230225543 : Unit := ()
def PySem.W.Fast.tw13946992697234677754 : Unit := ()
def PySem.W.Fast.tw10411222080581681285 : Unit := ()
def PySem.W.Fast.tw16684616471726338964 : Unit := ()
def PySem.W.Fast.tw17703992951158770885 : Unit := ()
def PySem.W.Fast.tw877156986552075481 : Unit := ()
def PySem.W.Fast.tw9468307785239049247 : Unit := ()
def PySem.W.Fast.tw13892533720016560409 : Unit := ()
def PySem.W.Fast.tw11425424978203853866 : Unit := ()
def PySem.W.Fast.tw7396645453393958560 : Unit := ()
def PySem.W.Fast.tw1513318100800783254 : Unit := ()
def PySem.W.Fast.tw65428805489915873 : Unit := ()
def PySem.W.Fast.tw9534353297811259338 : Unit := ()
def PySem.W.Fast.tw9002207877217926296 : Unit := ()
def PySem.W.Fast.tw9557071478616894791 : Unit := ()
def PySem.W.Fast.tw12756647201393965952 : Unit := ()
def PySem.W.Fast.tw8707130103042054413 : Unit := ()
def PySem.W.Fast.tw7905982075027732079 : Unit := ()
def PySem.W.Fast.tw5953021318725201305 : Unit := ()
def PySem.W.Fast.tw16735624995852300794 : Unit := ()
def PySem.W.Fast.tw18329069988065941871 : Unit := ()
def PySem.W.Fast.tw13699268612737139199 : Unit := ()
def PySem.W.Fast.tw4512750221298047601 : Unit := ()
def PySem.W.Fast.tw7259800481370719155 : Unit := ()
def PySem.W.Fast.tw12114334015209065294 : Unit := ()
def PySem.W.Fast.tw7561041071525235401 : Unit := ()
def PySem.W.Fast.tw15014133690876160048 : Unit := ()
def PySem.W.Fast.tw11812924457167265158 : Unit := ()
def PySem.W.Fast.tw15263745783961445635 : Unit := ()
def PySem.W.Fast.tw8983505353885573788 : Unit := ()
def PySem.W.Fast.tw12848055557383922328 : Unit := ()
def PySem.W.Fast.tw11360335067068222319 : Unit := ()
def PySem.W.Fast.tw14925199612709069942 : Unit := ()
def PySem.W.Fast.tw82950420634706694 : Unit := ()
def PySem.W.Fast.tw18351540792590216549 : Unit := ()
def PySem.W.Fast.tw18393661221780735111 : Unit := ()
def PySem.W.Fast.tw1242423792229868879 : Unit := ()
def PySem.W.Fast.tw16413432085646425842 : Unit := ()
def PySem.W.Fast.tw14440364523559368367 : Unit := ()
def PySem.W.Fast.tw14522918434673870645 : Unit := ()
def PySem.W.Fast.tw9210384401428501802 : Unit := ()
def PySem.W.Fast.tw11449378118086529186 : Unit := ()
def PySem.W.Fast.tw4903920020205914839 : Unit := ()
def PySem.W.Fast.tw10535989263095823574 : Unit := ()
def PySem.W.Fast.tw4628568552828656288 : Unit := ()
def PySem.W.Fast.tw6657056454739716876 : Unit := ()
def PySem.W.Fast.tw7079833071454172427 : Unit := ()
def PySem.W.Fast.tw7982804873676778901 : Unit := ()
def PySem.W.Fast.tw14400112041918015918 : Unit := ()
def PySem.W.Fast.tw2418562751555569319 : Unit := ()
def PySem.W.Fast.tw10172234169636170140 : Unit := ()
def PySem.W.Fast.tw6252443684836720110 : Unit := ()
def PySem.W.Fast.tw9488238134231721164 : Unit := ()
def PySem.W.Fast.tw17712687719203412482 : Unit := ()
def PySem.W.Fast.tw10301027734502594367 : Unit := ()
def PySem.W.Fast.tw4630683361129267529 : Unit := ()
def PySem.W.Fast.tw17044396908337071413 : Unit := ()
def PySem.W.Fast.tw8290159025933814124 : Unit := ()
def PySem.W.Fast.tw12270248895765777395 : Unit := ()
def PySem.W.Fast.tw2188483151405342386 : Unit := ()
def PySem.W.Fast.tw8967428561660276757 : Unit := ()
def PySem.W.Fast.tw14982399510135414452 : Unit := ()
def PySem.W.Fast.tw228613114407152257 : Unit := ()
def PySem.W.Fast.tw15658303768129590819 : Unit := ()
def PySem.W.Fast.tw17710141145332181847 : Unit := ()
def PySem.W.Fast.tw12821114275540420689 : Unit := ()
def PySem.W.Fast.tw3088869249476129869 : Unit := ()
def PySem.W.Fast.tw14613916892315499066 : Unit := ()
def PySem.W.Fast.tw8255079485185381577 : Unit := ()
def PySem.W.Fast.tw5471292849749666332 : Unit := ()
def PySem.W.Fast.tw4196870596125625621 : Unit := ()
def PySem.W.Fast.tw13540153372360448522 : Unit := ()
def PySem.W.Fast.tw17140567811883114412 : Unit := ()
def PySem.W.Fast.tw3700681405959946236 : Unit := ()
def PySem.W.Fast.tw9022277684021814680 : Unit := ()
def PySem.W.Fast.tw14460202056396865425 : Unit := ()
def PySem.W.Fast.tw10196717458481154308 : Unit := ()
def PySem.W.Fast.tw146050033557162694 : Unit := ()
def PySem.W.Fast.tw14114745071173969108 : Unit := ()
def PySem.W.Fast.tw4909152636933563903 : Unit := ()
def PySem.W.Fast.tw13171614622523072421 : Unit := ()
def PySem.W.Fast.tw18136542242470436632 : Unit := ()
def PySem.W.Fast.tw14395253189912757264 : Unit := ()
def PySem.W.Fast.tw7952143675401436520 : Unit := ()
def PySem.W.Fast.tw14232169202900873060 : Unit := ()
def PySem.W.Fast.tw15882598252767377472 : Unit := ()
def PySem.W.Fast.tw1616488152417352036 : Unit := ()
def PySem.W.Fast.tw1573209243354775961 : Unit := ()
def PySem.W.Fast.tw2659349382678073979 : Unit := ()
def PySem.W.Fast.tw5053660007004148719 : Unit := ()
def PySem.W.Fast.tw11834452235608675101 : Unit := ()
def PySem.W.Fast.tw10783723518031754055 : Unit := ()
def PySem.W.Fast.tw934528362374768284 : Unit := ()
def PySem.W.Fast.tw15429790182974402164 : Unit := ()
def PySem.W.Fast.tw18424016758490950988 : Unit := ()
def PySem.W.Fast.tw6455472283686153080 : Unit := ()
def PySem.W.Fast.tw15341795119208284190 : Unit := ()
def PySem.W.Fast.tw14520398224009174658 : Unit := ()
def PySem.W.Fast.tw9376988413709245336 : Unit := ()
def PySem.W.Fast.tw12061675812478839376 : Unit := ()
def PySem.W.Fast.tw15616577301985962343 : Unit := ()
def PySem.W.Fast.tw16208469916075905566 : Unit := ()
def PySem.W.Fast.tw15702757681181989215 : Unit := ()
def PySem.W.Fast.tw2695973508236338759 : Unit := ()
def PySem.W.Fast.tw9450508128296182964 : Unit := ()
def PySem.W.Fast.tw3399579916905069899 : Unit := ()
def PySem.W.Fast.tw15315445811172507427 : Unit := ()
def PySem.W.Fast.tw1008308107984994002 : Unit := ()
def PySem.W.Fast.tw17768064112063310789 : Unit := ()
def PySem.W.Fast.tw17996335576578959833 : Unit := ()
def PySem.W.Fast.tw3049653295695857465 : Unit := ()
def PySem.W.Fast.tw8255648973007497128 : Unit := ()
def PySem.W.Fast.tw10868754681049913681 : Unit := ()
def PySem.W.Fast.tw6010746073302864812 : Unit := ()
def PySem.W.Fast.tw17928976451721837783 : Unit := ()
def PySem.W.Fast.tw7570062022438967897 : Unit := ()
def PySem.W.Fast.tw6569698930656640215 : Unit := ()
def PySem.W.Fast.tw12943422926349909076 : Unit := ()
def PySem.W.Fast.tw16160993093429430008 : Unit := ()
def PySem.W.Fast.tw7860441384141875109 : Unit := ()
def PySem.W.Fast.tw129513953204232546 : Unit := ()
def PySem.W.Fast.tw3648500566418256606 : Unit := ()
def PySem.W.Fast.tw14715274484305615686 : Unit := ()
def PySem.W.Fast.tw14956227407724904943 : Unit := ()
def PySem.W.Fast.tw11134479544039298739 : Unit := ()
def PySem.W.Fast.tw14265947670191045350 : Unit := ()
def PySem.W.Fast.tw4304669001841681362 : Unit := ()
def PySem.W.Fast.tw17571313454830004375 : Unit := ()
def PySem.W.Fast.tw11826785801686038143 : Unit := ()
def PySem.W.Fast.tw10128234798206201331 : Unit := ()
def PySem.W.Fast.tw18283041411569314968 : Unit := ()
def PySem.W.Fast.tw5414032911050564519 : Unit := ()
def PySem.W.Fast.tw1240794607539064847 : Unit := ()
def PySem.W.Fast.tw13262211757976480119 : Unit := ()
def PySem.W.Fast.tw13711946787428337851 : Unit := ()
def PySem.W.Fast.tw8412671175755446734 : Unit := ()
def PySem.W.Fast.tw11024937958628840596 : Unit := ()
def PySem.W.Fast.tw5257295512231410368 : Unit := ()
def PySem.W.Fast.tw7226546827322827554 : Unit := ()
def PySem.W.Fast.tw9626669965453165557 : Unit := ()
def PySem.W.Fast.tw10846589722359847181 : Unit := ()
def PySem.W.Fast.tw4050596228709362978 : Unit := ()
def PySem.W.Fast.tw15935708423568381873 : Unit := ()
def PySem.W.Fast.tw8602695409401222978 : Unit := ()
def PySem.W.Fast.tw17049919387676627581 : Unit := ()
def PySem.W.Fast.tw10141830323798059788 : Unit := ()
def PySem.W.Fast.tw2857132371852802319 : Unit := ()
def PySem.W.Fast.tw10935861402008251156 : Unit := ()
def PySem.W.Fast.tw6678854312232680255 : Unit := ()
def PySem.W.Fast.tw17337822489662699517 : Unit := ()
def PySem.W.Fast.tw17288314759513887063 : Unit := ()
def PySem.W.Fast.tw7242649311639283907 : Unit := ()
def PySem.W.Fast.tw16767227251460445639 : Unit := ()
def PySem.W.Fast.tw5521481410279279706 : Unit := ()
def PySem.W.Fast.tw16745325442924035378 : Unit := ()
def PySem.W.Fast.tw6585574236565321365 : Unit := ()
def PySem.W.Fast.tw259179069634813263 : Unit := ()
def PySem.W.Fast.tw5677431239176284249 : Unit := ()
def PySem.W.Fast.tw11746518111431287528 : Unit := ()
def PySem.W.Fast.tw15139776735565942256 : Unit := ()
def PySem.W.Fast.tw12277141436622753437 : Unit := ()
def PySem.W.Fast.tw5464414491655381998 : Unit := ()
def PySem.W.Fast.tw8248359501489228028 : Unit := ()
def PySem.W.Fast.tw9495776962940635921 : Unit := ()
def PySem.W.Fast.tw15718790318868628658 : Unit := ()
def PySem.W.Fast.tw16113972190990371083 : Unit := ()
def PySem.W.Fast.tw10260065778482363009 : Unit := ()
def PySem.W.Fast.tw3082832594400933648 : Unit := ()
def PySem.W.Fast.tw16823995644554567338 : Unit := ()
def PySem.W.Fast.tw7928376624533385229 : Unit := ()
def PySem.W.Fast.tw6161263578700898587 : Unit := ()
def PySem.W.Fast.tw14919386549514335614 : Unit := ()
def PySem.W.Fast.tw1592509009758250061 : Unit := ()
def PySem.W.Fast.tw6646750773883571355 : Unit := ()
def PySem.W.Fast.tw5795250149474763382 : Unit := ()
def PySem.W.Fast.tw3306054136926625144 : Unit := ()
def PySem.W.Fast.tw7384092618934924820 : Unit := ()
def PySem.W.Fast.tw12642853303275618018 : Unit := ()
def PySem.W.Fast.tw15352227771137951160 : Unit := ()
def PySem.W.Fast.tw16501425006780041110 : Unit := ()
def PySem.W.Fast.tw11966338997178558979 : Unit := ()
def PySem.W.Fast.tw9050150725904853471 : Unit := ()
def PySem.W.Fast.tw1597364989044163732 : Unit := ()
def PySem.W.Fast.tw8825195065488079815 : Unit := ()
def PySem.W.Fast.tw11512469203679646577 : Unit := ()
def PySem.W.Fast.tw10309054207185538479 : Unit := ()
def PySem.W.Fast.tw6173933078779698204 : Unit := ()
def PySem.W.Fast.tw9952555455655353665 : Unit := ()
def PySem.W.Fast.tw17710047297742049523 : Unit := ()
def PySem.W.Fast.tw3535504173585065597 : Unit := ()
def PySem.W.Fast.tw14998499795317203938 : Unit := ()
def PySem.W.Fast.tw14219188665836178376 : Unit := ()
def PySem.W.Fast.tw10827522068584304726 : Unit := ()
def PySem.W.Fast.tw4006229393318924918 : Unit := ()
def PySem.W.Fast.tw13240789981433434894 : Unit := ()
def PySem.W.Fast.tw7913593367574349260 : Unit := ()
def PySem.W.Fast.tw12462163593560703017 : Unit := ()
def PySem.W.Fast.tw4049866671863542084 : Unit := ()
def PySem.W.Fast.tw2337203723860462792 : Unit := ()
def PySem.W.Fast.tw2301461523134542177 : Unit := ()
def PySem.W.Fast.tw11021239893801620562 : Unit := ()
def PySem.W.Fast.tw5352519888027611734 : Unit := ()
def PySem.W.Fast.tw13181165011622963817 : Unit := ()
def PySem.W.Fast.tw1536618246508567497 : Unit := ()
def PySem.W.Fast.tw12642707594092983289 : Unit := ()
def PySem.W.Fast.tw12467500686078465785 : Unit := ()
def PySem.W.Fast.tw965437049361482037 : Unit := ()
def PySem.W.Fast.tw12410214614153542255 : Unit := ()
def PySem.W.Fast.tw16677767464767305425 : Unit := ()
def PySem.W.Fast.tw2480576625131573920 : Unit := ()
def PySem.W.Fast.tw1477530015806766571 : Unit := ()
def PySem.W.Fast.tw4908737535640328504 : Unit := ()
def PySem.W.Fast.tw6061552540313921452 : Unit := ()
def PySem.W.Fast.tw10657103133104773521 : Unit := ()
def PySem.W.Fast.tw5258774454708569088 : Unit := ()
def PySem.W.Fast.tw10592856565933210674 : Unit := ()
def PySem.W.Fast.tw17862689340519542697 : Unit := ()
def PySem.W.Fast.tw4896124954461248949 : Unit := ()
def PySem.W.Fast.tw11073447225123225916 : Unit := ()
def PySem.W.Fast.tw8413965794056934283 : Unit := ()
def PySem.W.Fast.tw4131542677906179653 : Unit := ()
def PySem.W.Fast.tw5727653110223705944 : Unit := ()
def PySem.W.Fast.tw14984556897995617442 : Unit := ()
def PySem.W.Fast.tw12185609199287094276 : Unit := ()
def PySem.W.Fast.tw16563598628672205989 : Unit := ()
def PySem.W.Fast.tw7983423324098337667 : Unit := ()
def PySem.W.Fast.tw6895727068143272389 : Unit := ()
def PySem.W.Fast.tw1467491051662404749 : Unit := ()
def PySem.W.Fast.tw2092956141820782475 : Unit := ()
def PySem.W.Fast.tw14899270928942954793 : Unit := ()
def PySem.W.Fast.tw7933897322924421872 : Unit := ()
def PySem.W.Fast.tw15944852758405495410 : Unit := ()
def PySem.W.Fast.tw3238324602372639720 : Unit := ()
def PySem.W.Fast.tw8906879404375373137 : Unit := ()
def PySem.W.Fast.tw11635827186992550037 : Unit := ()
def PySem.W.Fast.tw3582009922464804866 : Unit := ()
def PySem.W.Fast.tw13428315265101290883 : Unit := ()
def PySem.W.Fast.tw6977427534410890356 : Unit := ()
def PySem.W.Fast.tw228180748910957502 : Unit := ()
def PySem.W.Fast.tw12011718564225863085 : Unit := ()
def PySem.W.Fast.tw16597762286689986832 : Unit := ()
def PySem.W.Fast.tw17119664180578945010 : Unit := ()
def PySem.W.Fast.tw15729120696970563698 : Unit := ()
def PySem.W.Fast.tw6555802618283839059 : Unit := ()
def PySem.W.Fast.tw5619958766168691101 : Unit := ()
def PySem.W.Fast.tw1172260798555384568 : Unit := ()
def PySem.W.Fast.tw9855050675377417004 : Unit := ()
def PySem.W.Fast.tw15466581582519340864 : Unit := ()
def PySem.W.Fast.tw8942422800368835352 : Unit := ()
def PySem.W.Fast.tw1394967357224579180 : Unit := ()
def PySem.W.Fast.tw12279424715546830995 : Unit := ()
def PySem.W.Fast.tw2119235555472621393 : Unit := ()
def PySem.W.Fast.tw434294520672195810 : Unit := ()
def PySem.W.Fast.tw2098965963873888286 : Unit := ()
def PySem.W.Fast.tw6153997406282377643 : Unit := ()
def PySem.W.Fast.tw6109276592903278362 : Unit := ()
def PySem.W.Fast.tw12160307498571027075 : Unit := ()
def PySem.W.Fast.tw5615465492090924660 : Unit := ()
def PySem.W.Fast.tw11811752787452802691 : Unit := ()
def PySem.W.Fast.tw17030808640522337808 : Unit := ()
def PySem.W.Fast.tw7490998312921742398 : Unit := ()
def PySem.W.Fast.tw1769056835559274844 : Unit := ()
def PySem.W.Fast.tw5200233935749223750 : Unit := ()
def PySem.W.Fast.tw1108965466003094892 : Unit := ()
def PySem.W.Fast.tw17519307511364239098 : Unit := ()
def PySem.W.Fast.tw349535857434074920 : Unit := ()
def PySem.W.Fast.tw772870409633406181 : Unit := ()
def PySem.W.Fast.tw5972484281607153599 : Unit := ()
def PySem.W.Fast.tw3288250984758221802 : Unit := ()
def PySem.W.Fast.tw6846126766576368315 : Unit := ()
def PySem.W.Fast.tw15601573695661424398 : Unit := ()
def PySem.W.Fast.tw12956607076705384330 : Unit := ()
def PySem.W.Fast.tw15087417035250524176 : Unit := ()
def PySem.W.Fast.tw15594816207421210313 : Unit := ()
def PySem.W.Fast.tw14015187000074701433 : Unit := ()
def PySem.W.Fast.tw6275849409125850312 : Unit := ()
def PySem.W.Fast.tw1810078374139833079 : Unit := ()
def PySem.W.Fast.tw14400002453044445572 : Unit := ()
def PySem.W.Fast.tw259272344022285702 : Unit := ()
def PySem.W.Fast.tw17933762300837343725 : Unit := ()
def PySem.W.Fast.tw3458233707182222049 : Unit := ()
def PySem.W.Fast.tw14005372497334888330 : Unit := ()
def PySem.W.Fast.tw12291332009970146371 : Unit := ()
def PySem.W.Fast.tw7379311045989564081 : Unit := ()
def PySem.W.Fast.tw12401208551801099279 : Unit := ()
def PySem.W.Fast.tw2453568047886215440 : Unit := ()
def PySem.W.Fast.tw10247549114267035301 : Unit := ()
def PySem.W.Fast.tw8546764477682186334 : Unit := ()
def PySem.W.Fast.tw10124540236359982636 : Unit := ()
def PySem.W.Fast.tw13469855321943249589 : Unit := ()
def PySem.W.Fast.tw1476275384223037988 : Unit := ()
def PySem.W.Fast.tw7875075187679166388 : Unit := ()
def PySem.W.Fast.tw8509570246757920924 : Unit := ()
def PySem.W.Fast.tw4419730134314400648 : Unit := ()
def PySem.W.Fast.tw10343145112499818594 : Unit := ()
def PySem.W.Fast.tw13881462452908136169 : Unit := ()
def PySem.W.Fast.tw9482152650884404534 : Unit := ()
def PySem.W.Fast.tw10655685946444271299 : Unit := ()
def PySem.W.Fast.tw17733855685057063174 : Unit := ()
def PySem.W.Fast.tw6637382308595523340 : Unit := ()
def PySem.W.Fast.tw9917303136281222991 : Unit := ()
def PySem.W.Fast.tw9645955407382987950 : Unit := ()
def PySem.W.Fast.tw2774429819594406443 : Unit := ()
def PySem.W.Fast.tw8488564340879630246 : Unit := ()
def PySem.W.Fast.tw17811290592642165245 : Unit := ()
def PySem.W.Fast.tw1153812590369758222 : Unit := ()
def PySem.W.Fast.tw17609043136903737585 : Unit := ()
def PySem.W.Fast.tw6269542321926176942 : Unit := ()
def PySem.W.Fast.tw14865374278587664440 : Unit := ()
def PySem.W.Fast.tw12390632601163402781 : Unit := ()
def PySem.W.Fast.tw876794564396109509 : Unit := ()
def PySem.W.Fast.tw5598460376755965295 : Unit := ()
def PySem.W.Fast.tw13361139474308645099 : Unit := ()
def PySem.W.Fast.tw16288416190095787329 : Unit := ()
def PySem.W.Fast.tw18188086067637137459 : Unit := ()
def PySem.W.Fast.tw18108433230172453526 : Unit := ()
def PySem.W.Fast.tw12659516753628086625 : Unit := ()
def PySem.W.Fast.tw16656721718785666348 : Unit := ()
def PySem.W.Fast.tw13736955051891190269 : Unit := ()
def PySem.W.Fast.tw372908300166978727 : Unit := ()
def PySem.W.Fast.tw15681677672926173549 : Unit := ()
def PySem.W.Fast.tw9191679228471025013 : Unit := ()
def PySem.W.Fast.tw18228948200787206816 : Unit := ()
def PySem.W.Fast.tw17768967124144575565 : Unit := ()
def PySem.W.Fast.tw12424132030542945777 : Unit := ()
def PySem.W.Fast.tw4140676551838616940 : Unit := ()
def PySem.W.Fast.tw696126466369876366 : Unit := ()
def PySem.W.Fast.tw3577764658114606103 : Unit := ()
def PySem.W.Fast.tw3645734554030891276 : Unit := ()
def PySem.W.Fast.tw14142762474175881295 : Unit := ()
def PySem.W.Fast.tw2234223643691622129 : Unit := ()
def PySem.W.Fast.tw13325698602645682943 : Unit := ()
def PySem.W.Fast.tw17190086048402348755 : Unit := ()
def PySem.W.Fast.tw14468716382472373240 : Unit := ()
def PySem.W.Fast.tw11336537918569314306 : Unit := ()
def PySem.W.Fast.tw18269720563261061749 : Unit := ()
def PySem.W.Fast.tw12894101999263246992 : Unit := ()
def PySem.W.Fast.tw8793062339764037709 : Unit := ()
def PySem.W.Fast.tw66731480986519091 : Unit := ()
def PySem.W.Fast.tw5872000712224413935 : Unit := ()
def PySem.W.Fast.tw18214917160943366281 : Unit := ()
def PySem.W.Fast.tw13349191340902612995 : Unit := ()
def PySem.W.Fast.tw2269956863503758850 : Unit := ()
def PySem.W.Fast.tw14551993767751809161 : Unit := ()
def PySem.W.Fast.tw7172390236445989554 : Unit := ()
def PySem.W.Fast.tw3058023927535367022 : Unit := ()
def PySem.W.Fast.tw15548344970914741548 : Unit := ()
def PySem.W.Fast.tw16063942365283188345 : Unit := ()
def PySem.W.Fast.tw17162178218855314056 : Unit := ()
def PySem.W.Fast.tw12933520056393553250 : Unit := ()
def PySem.W.Fast.tw10105415656917874270 : Unit := ()
def PySem.W.Fast.tw4068718432300973794 : Unit := ()
def PySem.W.Fast.tw1895638927790381056 : Unit := ()
def PySem.W.Fast.tw326692930824028302 : Unit := ()
def PySem.W.Fast.tw9579368250644830960 : Unit := ()
def PySem.W.Fast.tw8210006489594819449 : Unit := ()
def PySem.W.Fast.tw17636512579691829088 : Unit := ()
def PySem.W.Fast.tw9637675317126435511 : Unit := ()
def PySem.W.Fast.tw16541952092400590420 : Unit := ()
def PySem.W.Fast.tw8041747023191654611 : Unit := ()
def PySem.W.Fast.tw12424502969595425416 : Unit := ()
def PySem.W.Fast.tw12392818836491618237 : Unit := ()
def PySem.W.Fast.tw5009452874607478022 : Unit := ()
def PySem.W.Fast.tw1288636050588697745 : Unit := ()
def PySem.W.Fast.tw11027430942383900239 : Unit := ()
def PySem.W.Fast.tw12878685702029364262 : Unit := ()
def PySem.W.Fast.tw17165743201594283848 : Unit := ()
def PySem.W.Fast.tw7787434189411480476 : Unit := ()
def PySem.W.Fast.tw3026077068449764246 : Unit := ()
def PySem.W.Fast.tw5212028695858946428 : Unit := ()
def PySem.W.Fast.tw4997845116223742497 : Unit := ()
def PySem.W.Fast.tw15855126144427949306 : Unit := ()
def PySem.W.Fast.tw10620251990049374850 : Unit := ()
def PySem.W.Fast.tw15869761413828557124 : Unit := ()
def PySem.W.Fast.tw14442341884584908186 : Unit := ()
def PySem.W.Fast.tw15525480160813881152 : Unit := ()
def PySem.W.Fast.tw8091868242079857770 : Unit := ()
def PySem.W.Fast.tw18286799165244167627 : Unit := ()
def PySem.W.Fast.tw11206176293544534246 : Unit := ()
def PySem.W.Fast.tw568302251324460516 : Unit := ()
def PySem.W.Fast.tw17458871712760745073 : Unit := ()
def PySem.W.Fast.tw5144736564390013213 : Unit := ()
def PySem.W.Fast.tw15995780600691440787 : Unit := ()
def PySem.W.Fast.tw13448761825436872341 : Unit := ()
def PySem.W.Fast.tw929393778998810225 : Unit := ()
def PySem.W.Fast.tw11104621308774701265 : Unit := ()
def PySem.W.Fast.tw5689832532295836093 : Unit := ()
def PySem.W.Fast.tw2186329417025820004 : Unit := ()
def PySem.W.Fast.tw14798870182438001787 : Unit := ()
def PySem.W.Fast.tw132848560869044989 : Unit := ()
def PySem.W.Fast.tw1177795183942450746 : Unit := ()
def PySem.W.Fast.tw12232027230878786237 : Unit := ()
def PySem.W.Fast.tw17546064988062414956 : Unit := ()
def PySem.W.Fast.tw10122202792080804545 : Unit := ()
def PySem.W.Fast.tw734745649104562672 : Unit := ()
def PySem.W.Fast.tw1218370955131635781 : Unit := ()
def PySem.W.Fast.tw4408934519569591563 : Unit := ()
def PySem.W.Fast.tw16986323109961350435 : Unit := ()
def PySem.W.Fast.tw16153740565750731332 : Unit := ()
def PySem.W.Fast.tw4401268328334234925 : Unit := ()
def PySem.W.Fast.tw13624406101571140354 : Unit := ()
def PySem.W.Fast.tw17618002617035925759 : Unit := ()
def PySem.W.Fast.tw11748050766813923341 : Unit := ()
def PySem.W.Fast.tw6310549345557381456 : Unit := ()
def PySem.W.Fast.tw8333031478274167509 : Unit := ()
def PySem.W.Fast.tw2278218824234758978 : Unit := ()
def PySem.W.Fast.tw2313629955576442317 : Unit := ()
def PySem.W.Fast.tw17649108655647629782 : Unit := ()
def PySem.W.Fast.tw10555776649422403378 : Unit := ()
def PySem.W.Fast.tw11013778943609556317 : Unit := ()
def PySem.W.Fast.tw1642044418879113356 : Unit := ()
def PySem.W.Fast.tw14278262866534851961 : Unit := ()
def PySem.W.Fast.tw2880350948111340691 : Unit := ()
def PySem.W.Fast.tw3853307859454941745 : Unit := ()
def PySem.W.Fast.tw10589920211745859668 : Unit := ()
def PySem.W.Fast.tw1490386198709407072 : Unit := ()
def PySem.W.Fast.tw875296809331762794 : Unit := ()
def PySem.W.Fast.tw10899138925094068003 : Unit := ()
def PySem.W.Fast.tw17435928204762494211 : Unit := ()
def PySem.W.Fast.tw11441931134785473693 : Unit := ()
def PySem.W.Fast.tw4669992121205392988 : Unit := ()
def PySem.W.Fast.tw1850338456307194677 : Unit := ()
def PySem.W.Fast.tw9380372189694532114 : Unit := ()
def PySem.W.Fast.tw11110712416760326588 : Unit := ()
def PySem.W.Fast.tw4511398928718844377 : Unit := ()
def PySem.W.Fast.tw663646711556763591 : Unit := ()
def PySem.W.Fast.tw15712942077864216361 : Unit := ()
def PySem.W.Fast.tw8431874858855276983 : Unit := ()
def PySem.W.Fast.tw6227643856771531135 : Unit := ()
def PySem.W.Fast.tw5662657562634360908 : Unit := ()
def PySem.W.Fast.tw5032986615092514744 : Unit := ()
def PySem.W.Fast.tw8749511704860800101 : Unit := ()
def PySem.W.Fast.tw3260457480102296234 : Unit := ()
def PySem.W.Fast.tw1973809753542877431 : Unit := ()
def PySem.W.Fast.tw3094958082707482585 : Unit := ()
def PySem.W.Fast.tw2738196112407888140 : Unit := ()
def PySem.W.Fast.tw14343363409828321130 : Unit := ()
def PySem.W.Fast.tw6273507025956640363 : Unit := ()
def PySem.W.Fast.tw1240531687385577879 : Unit := ()
def PySem.W.Fast.tw6994075911063214847 : Unit := ()
def PySem.W.Fast.tw11621991006838681557 : Unit := ()
def PySem.W.Fast.tw7497486159242485032 : Unit := ()
def PySem.W.Fast.tw1749714713339433601 : Unit := ()
def PySem.W.Fast.tw17945282172606877174 : Unit := ()
def PySem.W.Fast.tw10994750331712041097 : Unit := ()
def PySem.W.Fast.tw14636224124224185428 : Unit := ()
def PySem.W.Fast.tw5415392901578582771 : Unit := ()
def PySem.W.Fast.tw12684548414855946236 : Unit := ()
def PySem.W.Fast.tw13096385138852756606 : Unit := ()
def PySem.W.Fast.tw13442673445931470313 : Unit := ()
def PySem.W.Fast.tw1062097541897637360 : Unit := ()
def PySem.W.Fast.tw1754529896810637435 : Unit := ()
def PySem.W.Fast.tw15887282118596996152 : Unit := ()
def PySem.W.Fast.tw9170551605965280505 : Unit := ()
def PySem.W.Fast.tw12643198721710324128 : Unit := ()
def PySem.W.Fast.tw15563677945838583234 : Unit := ()
def PySem.W.Fast.tw2137396627181811607 : Unit := ()
def PySem.W.Fast.tw592140283199067762 : Unit := ()
def PySem.W.Fast.tw3559660365769377330 : Unit := ()
def PySem.W.Fast.tw17326532505488104436 : Unit := ()
def PySem.W.Fast.tw10202943279982236419 : Unit := ()
def PySem.W.Fast.tw241436656156400946 : Unit := ()
def PySem.W.Fast.tw17337553142676107906 : Unit := ()
def PySem.W.Fast.tw6051675429476301211 : Unit := ()
def PySem.W.Fast.tw8507014808532096825 : Unit := ()
def PySem.W.Fast.tw15103103508893098711 : Unit := ()
def PySem.W.Fast.tw14603710923524545512 : Unit := ()
def PySem.W.Fast.tw13290458885952920433 : Unit := ()
def PySem.W.Fast.tw1084949785918255129 : Unit := ()
def PySem.W.Fast.tw13680927619398233210 : Unit := ()
def PySem.W.Fast.tw508123713714448099 : Unit := ()
def PySem.W.Fast.tw16531212245861763730 : Unit := ()
def PySem.W.Fast.tw1795873726730251523 : Unit := ()
def PySem.W.Fast.tw831121663467976403 : Unit := ()
def PySem.W.Fast.tw17480994738394083790 : Unit := ()
def PySem.W.Fast.tw15608572361313951628 : Unit := ()
def PySem.W.Fast.tw14752618137483698816 : Unit := ()
def PySem.W.Fast.tw1782936354732669712 : Unit := ()
def PySem.W.Fast.tw1527397839679929420 : Unit := ()
def PySem.W.Fast.tw3791275993580264470 : Unit := ()
def PySem.W.Fast.tw10318296544197131986 : Unit := ()
def PySem.W.Fast.tw1663164445026766978 : Unit := ()
def PySem.W.Fast.tw4435132956426272663 : Unit := ()
def PySem.W.Fast.tw15040999753429005069 : Unit := ()
def PySem.W.Fast.tw3202300909723556474 : Unit := ()
def PySem.W.Fast.tw8184248771365466757 : Unit := ()
def PySem.W.Fast.tw15681681128412986584 : Unit := ()
def PySem.W.Fast.tw4669349810396551088 : Unit := ()
def PySem.W.Fast.tw6731145596556431995 : Unit := ()
def PySem.W.Fast.tw10849669445297723797 : Unit := ()
def PySem.W.Fast.tw15150442728772012757 : Unit := ()
def PySem.W.Fast.tw5332835456654955431 : Unit := ()
def PySem.W.Fast.tw12933673449903254972 : Unit := ()
def PySem.W.Fast.tw7290200273489940050 : Unit := ()
def PySem.W.Fast.tw10600846199186319998 : Unit := ()
def PySem.W.Fast.tw15453342295531969518 : Unit := ()
def PySem.W.Fast.tw6535165058663596542 : Unit := ()
def PySem.W.Fast.tw4932005358507723663 : Unit := ()
def PySem.W.Fast.tw15978072206999170843 : Unit := ()
def PySem.W.Fast.tw6818641688195306919 : Unit := ()
def PySem.W.Fast.tw6626969215719334600 : Unit := ()
def PySem.W.Fast.tw17472664785406389754 : Unit := ()
def PySem.W.Fast.tw669554197615501734 : Unit := ()
def PySem.W.Fast.tw6654083916182078795 : Unit := ()
def PySem.W.Fast.tw4382699428500031726 : Unit := ()
def PySem.W.Fast.tw12076951483482659644 : Unit := ()
def PySem.W.Fast.tw11645946765348934200 : Unit := ()
def PySem.W.Fast.tw17328899561993149510 : Unit := ()
def PySem.W.Fast.tw11010961274789754043 : Unit := ()
def PySem.W.Fast.tw7213679480824557711 : Unit := ()
def PySem.W.Fast.tw16310909093223946416 : Unit := ()
def PySem.W.Fast.tw9993883539799610345 : Unit := ()
def PySem.W.Fast.tw60121674412643266 : Unit := ()
def PySem.W.Fast.tw5190444727956870946 : Unit := ()
def PySem.W.Fast.tw7942131491616099040 : Unit := ()
def PySem.W.Fast.tw14193433564461061590 : Unit := ()
def PySem.W.Fast.tw77424334116048173 : Unit := ()
def PySem.W.Fast.tw331488655200193569 : Unit := ()
def PySem.W.Fast.tw8149353982148407754 : Unit := ()
def PySem.W.Fast.tw11772015597546183879 : Unit := ()
def PySem.W.Fast.tw9414080431530912900 : Unit := ()
def PySem.W.Fast.tw13179839794325093268 : Unit := ()
def PySem.W.Fast.tw13821563295157796312 : Unit := ()
def PySem.W.Fast.tw16310453720807314356 : Unit := ()
def PySem.W.Fast.tw7789158543957357440 : Unit := ()
def PySem.W.Fast.tw9425535417535537042 : Unit := ()
def PySem.W.Fast.tw4925858158112435428 : Unit := ()
def PySem.W.Fast.tw17901576435660701561 : Unit := ()
def PySem.W.Fast.tw16339574821162841193 : Unit := ()
def PySem.W.Fast.tw7427364079548707596 : Unit := ()
def PySem.W.Fast.tw9829635755530738461 : Unit := ()
def PySem.W.Fast.tw5033480120085087720 : Unit := ()
def PySem.W.Fast.tw7026920649618489855 : Unit := ()
def PySem.W.Fast.tw3369707106503716098 : Unit := ()
def PySem.W.Fast.tw3991824315191789449 : Unit := ()
def PySem.W.Fast.tw7500888771964468044 : Unit := ()
def PySem.W.Fast.tw17864102400619805215 : Unit := ()
def PySem.W.Fast.tw7014291600619031543 : Unit := ()
def PySem.W.Fast.tw11951833035833095703 : Unit := ()
def PySem.W.Fast.tw2759768199820397733 : Unit := ()
def PySem.W.Fast.tw2988108122933419661 : Unit := ()
def PySem.W.Fast.tw6515611697396296389 : Unit := ()
def PySem.W.Fast.tw5120010801679001169 : Unit := ()
def PySem.W.Fast.tw13297267803990335242 : Unit := ()
def PySem.W.Fast.tw6153724002599206710 : Unit := ()
def PySem.W.Fast.tw11593698450714607767 : Unit := ()
def PySem.W.Fast.tw17862369883760230423 : Unit := ()
def PySem.W.Fast.tw10924185824421396867 : Unit := ()
def PySem.W.Fast.tw15922300617632114797 : Unit := ()
def PySem.W.Fast.tw3043842767472500418 : Unit := ()
def PySem.W.Fast.tw365256147738680072 : Unit := ()
def PySem.W.Fast.tw2303491447451442052 : Unit := ()
def PySem.W.Fast.tw11215611534588876932 : Unit := ()
def PySem.W.Fast.tw1075814258927958628 : Unit := ()
def PySem.W.Fast.tw1578235708413328050 : Unit := ()
def PySem.W.Fast.tw15466854745871232038 : Unit := ()
def PySem.W.Fast.tw15687949341477146240 : Unit := ()
def PySem.W.Fast.tw14325443881257270356 : Unit := ()
def PySem.W.Fast.tw16401991445737515777 : Unit := ()
def PySem.W.Fast.tw17324256469102611313 : Unit := ()
def PySem.W.Fast.tw13585454465710559276 : Unit := ()
def PySem.W.Fast.tw17798228927288867798 : Unit := ()
def PySem.W.Fast.tw14580762133501273385 : Unit := ()
def PySem.W.Fast.tw8675843931139651979 : Unit := ()
def PySem.W.Fast.tw13787004878906363041 : Unit := ()
def PySem.W.Fast.tw12325454524995092855 : Unit := ()
def PySem.W.Fast.tw15269648691759111068 : Unit := ()
def PySem.W.Fast.tw3734898601311684691 : Unit := ()
def PySem.W.Fast.tw305911780187928886 : Unit := ()
def PySem.W.Fast.tw9550411373627495097 : Unit := ()
def PySem.W.Fast.tw4281777902614356351 : Unit := ()
def PySem.W.Fast.tw13679871150853552034 : Unit := ()
def PySem.W.Fast.tw16290852471531929784 : Unit := ()
def PySem.W.Fast.tw11734761353595463453 : Unit := ()
def PySem.W.Fast.tw2353518071525496021 : Unit := ()
def PySem.W.Fast.tw3186396340709726693 : Unit := ()
def PySem.W.Fast.tw1591087564254418073 : Unit := ()
def PySem.W.Fast.tw6532763448467134664 : Unit := ()
def PySem.W.Fast.tw7219223196765235023 : Unit := ()
def PySem.W.Fast.tw6397145269132651510 : Unit := ()
def PySem.W.Fast.tw2174492201518781614 : Unit := ()
def PySem.W.Fast.tw3586061677292348446 : Unit := ()
def PySem.W.Fast.tw9911476555620826535 : Unit := ()
def PySem.W.Fast.tw3948860873085171209 : Unit := ()
def PySem.W.Fast.tw8485075702742376045 : Unit := ()
def PySem.W.Fast.tw4364911211414785179 : Unit := ()
def PySem.W.Fast.tw13444361927133029135 : Unit := ()
def PySem.W.Fast.tw14788610837627388458 : Unit := ()
def PySem.W.Fast.tw13436724825346732362 : Unit := ()
def PySem.W.Fast.tw16524457422245782401 : Unit := ()
def PySem.W.Fast.tw14826116132944074819 : Unit := ()
def PySem.W.Fast.tw16691495569670664193 : Unit := ()
def PySem.W.Fast.tw9048916123669069724 : Unit := ()
def PySem.W.Fast.tw17305022460395852934 : Unit := ()
def PySem.W.Fast.tw13937969026904818872 : Unit := ()
def PySem.W.Fast.tw2243492133192447569 : Unit := ()
def PySem.W.Fast.tw1113944623253555508 : Unit := ()
def PySem.W.Fast.tw9317214307055125611 : Unit := ()
def PySem.W.Fast.tw3269497286593629104 : Unit := ()
def PySem.W.Fast.tw1432166387051055922 : Unit := ()
def PySem.W.Fast.tw11551141578351249919 : Unit := ()
def PySem.W.Fast.tw4853894248654405293 : Unit := ()
def PySem.W.Fast.tw6626549880201110734 : Unit := ()
def PySem.W.Fast.tw17005059189809001494 : Unit := ()
def PySem.W.Fast.tw12145821196529489706 : Unit := ()
def PySem.W.Fast.tw6690064469526290622 : Unit := ()
def PySem.W.Fast.tw16002901630335940440 : Unit := ()
def PySem.W.Fast.tw3662952272099573534 : Unit := ()
def PySem.W.Fast.tw12492046317132059282 : Unit := ()
def PySem.W.Fast.tw9437195475736179882 : Unit := ()
def PySem.W.Fast.tw11443075028709585801 : Unit := ()
def PySem.W.Fast.tw9065888950493319301 : Unit := ()
def PySem.W.Fast.tw17583789279487813106 : Unit := ()
def PySem.W.Fast.tw10082537909652247267 : Unit := ()
def PySem.W.Fast.tw17915841790022937820 : Unit := ()
def PySem.W.Fast.tw5532276013469314735 : Unit := ()
def PySem.W.Fast.tw6726890509477940349 : Unit := ()
def PySem.W.Fast.tw13975107680328582450 : Unit := ()
def PySem.W.Fast.tw1082313834801560311 : Unit := ()
def PySem.W.Fast.tw3322169031564313918 : Unit := ()
def PySem.W.Fast.tw7754930013673710951 : Unit := ()
def PySem.W.Fast.tw2397723165290929738 : Unit := ()
def PySem.W.Fast.tw1806432812806926815 : Unit := ()
def PySem.W.Fast.tw12501176145166596586 : Unit := ()
def PySem.W.Fast.tw6048728513110086376 : Unit := ()
def PySem.W.Fast.tw16403736342486406323 : Unit := ()
def PySem.W.Fast.tw6908594155677877063 : Unit := ()
def PySem.W.Fast.tw15097640813971103887 : Unit := ()
def PySem.W.Fast.tw4056567863840327574 : Unit := ()
def PySem.W.Fast.tw3541986190794199107 : Unit := ()
def PySem.W.Fast.tw18324298211571430080 : Unit := ()
def PySem.W.Fast.tw1130303879958021185 : Unit := ()
def PySem.W.Fast.tw6304101740461248154 : Unit := ()
def PySem.W.Fast.tw12590713499911593783 : Unit := ()
def PySem.W.Fast.tw10401525916977355958 : Unit := ()
def PySem.W.Fast.tw9553631455915949370 : Unit := ()
def PySem.W.Fast.tw14559109246476132382 : Unit := ()
def PySem.W.Fast.tw10348299227568393485 : Unit := ()
def PySem.W.Fast.tw9068819808642249350 : Unit := ()
def PySem.W.Fast.tw7814931274556119768 : Unit := ()
def PySem.W.Fast.tw18313169595005132359 : Unit := ()
def PySem.W.Fast.tw2611986020956678029 : Unit := ()
def PySem.W.Fast.tw4930771719456792200 : Unit := ()
def PySem.W.Fast.tw3391788303043927508 : Unit := ()
def PySem.W.Fast.tw964108905964305153 : Unit := ()
def PySem.W.Fast.tw2340448288167908899 : Unit := ()
def PySem.W.Fast.tw1207788171928720114 : Unit := ()
def PySem.W.Fast.tw4687545642894558343 : Unit := ()
def PySem.W.Fast.tw10399414851484662329 : Unit := ()
def PySem.W.Fast.tw6263076496390572105 : Unit := ()
def PySem.W.Fast.tw1626301628312506854 : Unit := ()
def PySem.W.Fast.tw339887464799769378 : Unit := ()
def PySem.W.Fast.tw6067666143118156909 : Unit := ()
def PySem.W.Fast.tw9379362434210090455 : Unit := ()
def PySem.W.Fast.tw12166511907035255533 : Unit := ()
def PySem.W.Fast.tw10779977909371924442 : Unit := ()
def PySem.W.Fast.tw4399740726780498675 : Unit := ()
def PySem.W.Fast.tw15701360081968005121 : Unit := ()
def PySem.W.Fast.tw15952358877960963849 : Unit := ()
def PySem.W.Fast.tw10246578759149828682 : Unit := ()
def PySem.W.Fast.tw17754134215581958496 : Unit := ()
def PySem.W.Fast.tw6635087522010324587 : Unit := ()
def PySem.W.Fast.tw18197678119259790848 : Unit := ()
def PySem.W.Fast.tw176475655778377066 : Unit := ()
def PySem.W.Fast.tw11783610923543986218 : Unit := ()
def PySem.W.Fast.tw17949529577796862833 : Unit := ()
def PySem.W.Fast.tw6000114691101630456 : Unit := ()
def PySem.W.Fast.tw8518826569875481440 : Unit := ()
def PySem.W.Fast.tw8863354516088746022 : Unit := ()
def PySem.W.Fast.tw16635693476715765711 : Unit := ()
def PySem.W.Fast.tw5007926999897668666 : Unit := ()
def PySem.W.Fast.tw10792539278435814674 : Unit := ()
def PySem.W.Fast.tw12355672624463945498 : Unit := ()
def PySem.W.Fast.tw8329436448245546805 : Unit := ()
def PySem.W.Fast.tw17515718094053908490 : Unit := ()
def PySem.W.Fast.tw9824131448789828915 : Unit := ()
def PySem.W.Fast.tw3819687351568840904 : Unit := ()
def PySem.W.Fast.tw5870220412920146511 : Unit := ()
def PySem.W.Fast.tw13688371113473708777 : Unit := ()
def PySem.W.Fast.tw18365572257025397955 : Unit := ()
def PySem.W.Fast.tw1366923287954459672 : Unit := ()
def PySem.W.Fast.tw12553629764759212451 : Unit := ()
def PySem.W.Fast.tw5045848166736523254 : Unit := ()
def PySem.W.Fast.tw13173556940293067738 : Unit := ()
def PySem.W.Fast.tw9384081471947662831 : Unit := ()
def PySem.W.Fast.tw14683920508090217448 : Unit := ()
def PySem.W.Fast.tw16788578078570573287 : Unit := ()
def PySem.W.Fast.tw5867420421272988853 : Unit := ()
def PySem.W.Fast.tw14509214283559129094 : Unit := ()
def PySem.W.Fast.tw7043806856453572666 : Unit := ()
def PySem.W.Fast.tw3968378451035015438 : Unit := ()
def PySem.W.Fast.tw14711574315665658353 : Unit := ()
def PySem.W.Fast.tw13478742840835804589 : Unit := ()
def PySem.W.Fast.tw16359073056124159120 : Unit := ()
def PySem.W.Fast.tw17668499006655481898 : Unit := ()
def PySem.W.Fast.tw7607176526591908205 : Unit := ()
def PySem.W.Fast.tw13571989665349960205 : Unit := ()
def PySem.W.Fast.tw3271837209298874867 : Unit := ()
def PySem.W.Fast.tw12246330067719734552 : Unit := ()
def PySem.W.Fast.tw10485414615280153035 : Unit := ()
def PySem.W.Fast.tw1927261413692736562 : Unit := ()
def PySem.W.Fast.tw167847881559156717 : Unit := ()
def PySem.W.Fast.tw13992000047161893830 : Unit := ()
def PySem.W.Fast.tw7776203621226822691 : Unit := ()
def PySem.W.Fast.tw17931456263942105478 : Unit := ()
def PySem.W.Fast.tw10705897481921574818 : Unit := ()
def PySem.W.Fast.tw11823735361366589161 : Unit := ()
def PySem.W.Fast.tw11604374496721844498 : Unit := ()
def PySem.W.Fast.tw12439967688886311120 : Unit := ()
def PySem.W.Fast.tw18105234117985980639 : Unit := ()
def PySem.W.Fast.tw15648697985560311117 : Unit := ()
def PySem.W.Fast.tw6215050578373885712 : Unit := ()
def PySem.W.Fast.tw2002637830721427758 : Unit := ()
def PySem.W.Fast.tw4850321011701769881 : Unit := ()
def PySem.W.Fast.tw14147947962418688095 : Unit := ()
def PySem.W.Fast.tw6257962786829895658 : Unit := ()
def PySem.W.Fast.tw676382824441853920 : Unit := ()
def PySem.W.Fast.tw592299115937167191 : Unit := ()
def PySem.W.Fast.tw9916842665693127485 : Unit := ()
def PySem.W.Fast.tw2367578681407431381 : Unit := ()
def PySem.W.Fast.tw13123273296914739457 : Unit := ()
def PySem.W.Fast.tw16540683289521399298 : Unit := ()
def PySem.W.Fast.tw1303922876892370864 : Unit := ()
def PySem.W.Fast.tw16060082790489363472 : Unit := ()
def PySem.W.Fast.tw17565668103925524037 : Unit := ()
def PySem.W.Fast.tw12898815587261463988 : Unit := ()
def PySem.W.Fast.tw9367220633421782876 : Unit := ()
def PySem.W.Fast.tw961210544242218652 : Unit := ()
def PySem.W.Fast.tw13891176063634238969 : Unit := ()
def PySem.W.Fast.tw18167554762897290233 : Unit := ()
def PySem.W.Fast.tw1915011753690438238 : Unit := ()
def PySem.W.Fast.tw17910885389328318281 : Unit := ()
def PySem.W.Fast.tw16728391571163495109 : Unit := ()
def PySem.W.Fast.tw16372415226543648870 : Unit := ()
def PySem.W.Fast.tw10517460739450135450 : Unit := ()
def PySem.W.Fast.tw13456708033451532208 : Unit := ()
def PySem.W.Fast.tw10099983906662831911 : Unit := ()
def PySem.W.Fast.tw7539560091756448114 : Unit := ()
def PySem.W.Fast.tw10280108436774321001 : Unit := ()
def PySem.W.Fast.tw10799639998720074072 : Unit := ()
def PySem.W.Fast.tw2783507612389397360 : Unit := ()
def PySem.W.Fast.tw6015519543129530408 : Unit := ()
def PySem.W.Fast.tw16412589967309176184 : Unit := ()
def PySem.W.Fast.tw16521087984632829921 : Unit := ()
def PySem.W.Fast.tw10014455568344324630 : Unit := ()
def PySem.W.Fast.tw7351234573971557412 : Unit := ()
def PySem.W.Fast.tw4174061555931592003 : Unit := ()
def PySem.W.Fast.tw9131560684190214667 : Unit := ()
def PySem.W.Fast.tw15236117308163147226 : Unit := ()
def PySem.W.Fast.tw12225234603611127893 : Unit := ()
def PySem.W.Fast.tw2277426093113555556 : Unit := ()
def PySem.W.Fast.tw4343078929962028188 : Unit := ()
def PySem.W.Fast.tw15872478909676536949 : Unit := ()
def PySem.W.Fast.tw17257556761777982638 : Unit := ()
def PySem.W.Fast.tw6241625307744030857 : Unit := ()
def PySem.W.Fast.tw17808699428405373999 : Unit := ()
def PySem.W.Fast.tw6722614544803772291 : Unit := ()
def PySem.W.Fast.tw618629206838135941 : Unit := ()
def PySem.W.Fast.tw2904976922068174118 : Unit := ()
def PySem.W.Fast.tw2745520842230058898 : Unit := ()
def PySem.W.Fast.tw13804051898132703150 : Unit := ()
def PySem.W.Fast.tw14827165814989246932 : Unit := ()
def PySem.W.Fast.tw14176428329126975189 : Unit := ()
def PySem.W.Fast.tw9032966761722141743 : Unit := ()
def PySem.W.Fast.tw8152516422831521106 : Unit := ()
def PySem.W.Fast.tw7389698110044318376 : Unit := ()
def PySem.W.Fast.tw7767382641183374993 : Unit := ()
def PySem.W.Fast.tw8811100588174831491 : Unit := ()
def PySem.W.Fast.tw2538935274697594478 : Unit := ()
def PySem.W.Fast.tw12943361337818732103 : Unit := ()
def PySem.W.Fast.tw14805118228725150529 : Unit := ()
def PySem.W.Fast.tw13510090559140481817 : Unit := ()
def PySem.W.Fast.tw3546070359966643447 : Unit := ()
def PySem.W.Fast.tw14092162800925452116 : Unit := ()
def PySem.W.Fast.tw18239139552675138920 : Unit := ()
def PySem.W.Fast.tw3792144354130429043 : Unit := ()
def PySem.W.Fast.tw10681515835186726300 : Unit := ()
def PySem.W.Fast.tw10490926291429982394 : Unit := ()
def PySem.W.Fast.tw8538040865096680857 : Unit := ()
def PySem.W.Fast.tw3891894990533810058 : Unit := ()
def PySem.W.Fast.tw8912209449825490760 : Unit := ()
def PySem.W.Fast.tw18390267004032554928 : Unit := ()
def PySem.W.Fast.tw9643544880578940803 : Unit := ()
def PySem.W.Fast.tw12154529336021750234 : Unit := ()
def PySem.W.Fast.tw15477907748834273681 : Unit := ()
def PySem.W.Fast.tw9335069933085746496 : Unit := ()
def PySem.W.Fast.tw18034816254547649123 : Unit := ()
def PySem.W.Fast.tw12198910831398630832 : Unit := ()
def PySem.W.Fast.tw12924442452753917791 : Unit := ()
def PySem.W.Fast.tw1861914150903210095 : Unit := ()
def PySem.W.Fast.tw9887909667553016121 : Unit := ()
def PySem.W.Fast.tw4917035322183460722 : Unit := ()
def PySem.W.Fast.tw15245023346058565731 : Unit := ()
def PySem.W.Fast.tw4836008530402141994 : Unit := ()
def PySem.W.Fast.tw11235144034747907033 : Unit := ()
def PySem.W.Fast.tw8516334308900877388 : Unit := ()
def PySem.W.Fast.tw1556532759670375323 : Unit := ()
def PySem.W.Fast.tw852063727781434165 : Unit := ()
def PySem.W.Fast.tw8666942388624178922 : Unit := ()
def PySem.W.Fast.tw12403535363827532425 : Unit := ()
def PySem.W.Fast.tw8695702150788283273 : Unit := ()
def PySem.W.Fast.tw9184736596460490872 : Unit := ()
def PySem.W.Fast.tw1670860585067988682 : Unit := ()
def PySem.W.Fast.tw3477401733256708649 : Unit := ()
def PySem.W.Fast.tw10530174952912337862 : Unit := ()
def PySem.W.Fast.tw2282304816497333769 : Unit := ()
def PySem.W.Fast.tw5213361590032662495 : Unit := ()
def PySem.W.Fast.tw7135304999982334467 : Unit := ()
def PySem.W.Fast.tw6048810492617921729 : Unit := ()
def PySem.W.Fast.tw4524029330407965769 : Unit := ()
def PySem.W.Fast.tw11634536283352865671 : Unit := ()
def PySem.W.Fast.tw14288358063275627623 : Unit := ()
def PySem.W.Fast.tw15143273285178281164 : Unit := ()
def PySem.W.Fast.tw1479143634842237527 : Unit := ()
def PySem.W.Fast.tw15729479770600119140 : Unit := ()
def PySem.W.Fast.tw6755684174315154950 : Unit := ()
def PySem.W.Fast.tw6317199578364439586 : Unit := ()
def PySem.W.Fast.tw10604295925532698164 : Unit := ()
def PySem.W.Fast.tw18275601627114573933 : Unit := ()
def PySem.W.Fast.tw7066272300253373355 : Unit := ()
def PySem.W.Fast.tw3217674047739333531 : Unit := ()
def PySem.W.Fast.tw10373342793853841093 : Unit := ()
def PySem.W.Fast.tw10992529918288317586 : Unit := ()
def PySem.W.Fast.tw18384997452653658848 : Unit := ()
def PySem.W.Fast.tw12465293745328165819 : Unit := ()
def PySem.W.Fast.tw3613244222142225434 : Unit := ()
def PySem.W.Fast.tw14715275794120770229 : Unit := ()
def PySem.W.Fast.tw5617402739019537932 : Unit := ()
def PySem.W.Fast.tw11997659275697750671 : Unit := ()
def PySem.W.Fast.tw11857537766949335547 : Unit := ()
def PySem.W.Fast.tw13412281474948368529 : Unit := ()
def PySem.W.Fast.tw5959088495072194232 : Unit := ()
def PySem.W.Fast.tw11768036565772281769 : Unit := ()
def PySem.W.Fast.tw5919340612241281678 : Unit := ()
def PySem.W.Fast.tw6853553649708400828 : Unit := ()
def PySem.W.Fast.tw4344065523200679023 : Unit := ()
def PySem.W.Fast.tw9822528304656809520 : Unit := ()
def PySem.W.Fast.tw15148550749422982751 : Unit := ()
def PySem.W.Fast.tw1412525005642751567 : Unit := ()
def PySem.W.Fast.tw4570119328444166499 : Unit := ()
def PySem.W.Fast.tw8671386025802168552 : Unit := ()
def PySem.W.Fast.tw5215106716928467346 : Unit := ()
def PySem.W.Fast.tw6216893846281325382 : Unit := ()
def PySem.W.Fast.tw2477126843776326907 : Unit := ()
def PySem.W.Fast.tw17278356860566650700 : Unit := ()
def PySem.W.Fast.tw13670963097727198598 : Unit := ()
def PySem.W.Fast.tw14081476096656625090 : Unit := ()
def PySem.W.Fast.tw14595274824098307782 : Unit := ()
def PySem.W.Fast.tw4518135812687504520 : Unit := ()
def PySem.W.Fast.tw11684660529415399236 : Unit := ()
def PySem.W.Fast.tw12998161338120923842 : Unit := ()
def PySem.W.Fast.tw16949761760626208007 : Unit := ()
def PySem.W.Fast.tw12436610529979817677 : Unit := ()
def PySem.W.Fast.tw1443423447849285753 : Unit := ()
def PySem.W.Fast.tw6715805419571314641 : Unit := ()
def PySem.W.Fast.tw10223843457909114089 : Unit := ()
def PySem.W.Fast.tw14892657530773829511 : Unit := ()
def PySem.W.Fast.tw3335727805282530094 : Unit := ()
def PySem.W.Fast.tw1101398123888445666 : Unit := ()
def PySem.W.Fast.tw12005628095902097696 : Unit := ()
def PySem.W.Fast.tw14603155542652143469 : Unit := ()
def PySem.W.Fast.tw8424623627227289366 : Unit := ()
def PySem.W.Fast.tw11852697320438668815 : Unit := ()
def PySem.W.Fast.tw3996376346911875609 : Unit := ()
def PySem.W.Fast.tw10051664655571988345 : Unit := ()
def PySem.W.Fast.tw12592282463939100068 : Unit := ()
def PySem.W.Fast.tw5698986342271520533 : Unit := ()
def PySem.W.Fast.tw798673703033381221 : Unit := ()
def PySem.W.Fast.tw13720977806289963822 : Unit := ()
def PySem.W.Fast.tw13585760821100982902 : Unit := ()
def PySem.W.Fast.tw5340330505352645472 : Unit := ()
def PySem.W.Fast.tw2060221058476147202 : Unit := ()
def PySem.W.Fast.tw13827927476376588256 : Unit := ()
def PySem.W.Fast.tw17568154245783526208 : Unit := ()
def PySem.W.Fast.tw15204028814489325020 : Unit := ()
def PySem.W.Fast.tw6254899053304133343 : Unit := ()
def PySem.W.Fast.tw4666721573028432798 : Unit := ()
def PySem.W.Fast.tw8482210454305880766 : Unit := ()
def PySem.W.Fast.tw2837336082355545056 : Unit := ()
def PySem.W.Fast.tw5445749205722078032 : Unit := ()
def PySem.W.Fast.tw14313474994383834375 : Unit := ()
def PySem.W.Fast.tw15446171224515030115 : Unit := ()
def PySem.W.Fast.tw3693511557621369929 : Unit := ()
def PySem.W.Fast.tw11885431553742250314 : Unit := ()
def PySem.W.Fast.tw2601465029302955002 : Unit := ()
def PySem.W.Fast.tw2363107034042711254 : Unit := ()
def PySem.W.Fast.tw14990285248119867529 : Unit := ()
def PySem.W.Fast.tw3619075248474978146 : Unit := ()
def PySem.W.Fast.tw1389535287891072167 : Unit := ()
def PySem.W.Fast.tw15556228512493782043 : Unit := ()
def PySem.W.Fast.tw6986148112110040390 : Unit := ()
def PySem.W.Fast.tw11414526935863064739 : Unit := ()
def PySem.W.Fast.tw4353735108357606346 : Unit := ()
def PySem.W.Fast.tw8796150719922181728 : Unit := ()
def PySem.W.Fast.tw9921986260101719764 : Unit := ()
def PySem.W.Fast.tw760280552665574213 : Unit := ()
def PySem.W.Fast.tw9039225524915219461 : Unit := ()
def PySem.W.Fast.tw7934047920655804971 : Unit := ()
def PySem.W.Fast.tw8153870996922502780 : Unit := ()
def PySem.W.Fast.tw5822413800142495818 : Unit := ()
def PySem.W.Fast.tw14787954043851919293 : Unit := ()
def PySem.W.Fast.tw7678103797205207684 : Unit := ()
def PySem.W.Fast.tw10188041179850072306 : Unit := ()
def PySem.W.Fast.tw13782457323216699506 : Unit := ()
def PySem.W.Fast.tw14426182152822440726 : Unit := ()
def PySem.W.Fast.tw5452337700688557038 : Unit := ()
def PySem.W.Fast.tw15687633446752450700 : Unit := ()
def PySem.W.Fast.tw16780382260710014831 : Unit := ()
def PySem.W.Fast.tw2729086387334712873 : Unit := ()
def PySem.W.Fast.tw7503095855629478854 : Unit := ()
def PySem.W.Fast.tw1409786545683650931 : Unit := ()
def PySem.W.Fast.tw12460879822616254599 : Unit := ()
def PySem.W.Fast.tw3618440823316776190 : Unit := ()
def PySem.W.Fast.tw9485145583892337465 : Unit := ()
def PySem.W.Fast.tw12478080263263202188 : Unit := ()
def PySem.W.Fast.tw1713997285923520392 : Unit := ()
def PySem.W.Fast.tw14113768030692035159 : Unit := ()
def PySem.W.Fast.tw15198164562274116691 : Unit := ()
def PySem.W.Fast.tw16857878855269966639 : Unit := ()
def PySem.W.Fast.tw8975819096668821242 : Unit := ()
def PySem.W.Fast.tw14825723744070077271 : Unit := ()
def PySem.W.Fast.tw13847150535522716233 : Unit := ()
def PySem.W.Fast.tw9427069327293947802 : Unit := ()
def PySem.W.Fast.tw12148949734207590240 : Unit := ()
def PySem.W.Fast.tw9949045764435154907 : Unit := ()
def PySem.W.Fast.tw15262714251311200695 : Unit := ()
def PySem.W.Fast.tw8589968120896336523 : Unit := ()
def PySem.W.Fast.tw5317700136286900656 : Unit := ()
def PySem.W.Fast.tw12821046756632106131 : Unit := ()
def PySem.W.Fast.tw9193070036881219087 : Unit := ()
def PySem.W.Fast.tw1007276478057505685 : Unit := ()
def PySem.W.Fast.tw14359829332126153895 : Unit := ()
def PySem.W.Fast.tw6447607184428074253 : Unit := ()
def PySem.W.Fast.tw16115147006098245607 : Unit := ()
def PySem.W.Fast.tw16791852171703114844 : Unit := ()
def PySem.W.Fast.tw7131513011078012965 : Unit := ()
def PySem.W.Fast.tw12064656676667413521 : Unit := ()
def PySem.W.Fast.tw6640529808827995371 : Unit := ()
def PySem.W.Fast.tw14781818762009925612 : Unit := ()
def PySem.W.Fast.tw17910713262655893328 : Unit := ()
def PySem.W.Fast.tw9990216247082972947 : Unit := ()
def PySem.W.Fast.tw818112131789509475 : Unit := ()
def PySem.W.Fast.tw11752476090746437402 : Unit := ()
def PySem.W.Fast.tw490576552291708176 : Unit := ()
def PySem.W.Fast.tw4775536971743638596 : Unit := ()
def PySem.W.Fast.tw9345868218556695355 : Unit := ()
def PySem.W.Fast.tw12054651406319911450 : Unit := ()
def PySem.W.Fast.tw3138335479396115805 : Unit := ()
def PySem.W.Fast.tw18383819604818276629 : Unit := ()
def PySem.W.Fast.tw8427325526543248736 : Unit := ()
def PySem.W.Fast.tw11193213918321143877 : Unit := ()
def PySem.W.Fast.tw15844164496823995602 : Unit := ()
def PySem.W.Fast.tw11457928238519956526 : Unit := ()
def PySem.W.Fast.tw9239710985491332072 : Unit := ()
def PySem.W.Fast.tw12741952459762427563 : Unit := ()
def PySem.W.Fast.tw16828403133751659962 : Unit := ()
def PySem.W.Fast.tw11036104218693062918 : Unit := ()
def PySem.W.Fast.tw10427449580837192745 : Unit := ()
def PySem.W.Fast.tw12293255156840346788 : Unit := ()
def PySem.W.Fast.tw12498127064053270338 : Unit := ()
def PySem.W.Fast.tw1923713450225280857 : Unit := ()
def PySem.W.Fast.tw12819161763383599412 : Unit := ()
def PySem.W.Fast.tw15729003353066919849 : Unit := ()
def PySem.W.Fast.tw12550658446091277363 : Unit := ()
def PySem.W.Fast.tw15678550045535185385 : Unit := ()
def PySem.W.Fast.tw10318848403577151453 : Unit := ()
def PySem.W.Fast.tw7011255897902389029 : Unit := ()
def PySem.W.Fast.tw14871198002625415634 : Unit := ()
def PySem.W.Fast.tw12137266113172076327 : Unit := ()
def PySem.W.Fast.tw5666859423683200285 : Unit := ()
def PySem.W.Fast.tw1636040661389471797 : Unit := ()
def PySem.W.Fast.tw16964914616426228552 : Unit := ()
def PySem.W.Fast.tw17667933828861429738 : Unit := ()
def PySem.W.Fast.tw8613643120945471947 : Unit := ()
def PySem.W.Fast.tw1134930135208226364 : Unit := ()
def PySem.W.Fast.tw320440277092668449 : Unit := ()
def PySem.W.Fast.tw16207866735431236148 : Unit := ()
def PySem.W.Fast.tw6246744375882697200 : Unit := ()
def PySem.W.Fast.tw8899955941477042204 : Unit := ()
def PySem.W.Fast.tw9030741918987821527 : Unit := ()
def PySem.W.Fast.tw6685242810841284149 : Unit := ()
def PySem.W.Fast.tw7679690560054041505 : Unit := ()
def PySem.W.Fast.tw4284384622541920478 : Unit := ()
def PySem.W.Fast.tw18026223455939437202 : Unit := ()
def PySem.W.Fast.tw9120732028434179391 : Unit := ()
def PySem.W.Fast.tw11263613123912186642 : Unit := ()
def PySem.W.Fast.tw1725873513125036913 : Unit := ()
def PySem.W.Fast.tw12447191963062634012 : Unit := ()
def PySem.W.Fast.tw5367281340444458274 : Unit := ()
def PySem.W.Fast.tw223921213236022391 : Unit := ()
def PySem.W.Fast.tw5688982099294380795 : Unit := ()
def PySem.W.Fast.tw8857958374681937083 : Unit := ()
def PySem.W.Fast.tw3474896891753136281 : Unit := ()
def PySem.W.Fast.tw2178733981820030555 : Unit := ()
def PySem.W.Fast.tw1209864681260631324 : Unit := ()
def PySem.W.Fast.tw9951102967428348762 : Unit := ()
def PySem.W.Fast.tw16328108742667338083 : Unit := ()
def PySem.W.Fast.tw13925479181291805251 : Unit := ()
def PySem.W.Fast.tw1811551781555721508 : Unit := ()
def PySem.W.Fast.tw70019844786530763 : Unit := ()
def PySem.W.Fast.tw2014314740197448719 : Unit := ()
def PySem.W.Fast.tw5373181717116033130 : Unit := ()
def PySem.W.Fast.tw11973155873627143197 : Unit := ()
def PySem.W.Fast.tw3748645386968838910 : Unit := ()
def PySem.W.Fast.tw15566559070765314114 : Unit := ()
def PySem.W.Fast.tw4424891678360259885 : Unit := ()
def PySem.W.Fast.tw10907532044591374464 : Unit := ()
def PySem.W.Fast.tw17783844340275252409 : Unit := ()
def PySem.W.Fast.tw7233920801374053212 : Unit := ()
def PySem.W.Fast.tw16391611771799067352 : Unit := ()
def PySem.W.Fast.tw16913865478514383853 : Unit := ()
def PySem.W.Fast.tw10110620816062154722 : Unit := ()
def PySem.W.Fast.tw10802563520901631923 : Unit := ()
def PySem.W.Fast.tw17968859381176712121 : Unit := ()
def PySem.W.Fast.tw3679936103640934010 : Unit := ()
def PySem.W.Fast.tw4539658409892609294 : Unit := ()
def PySem.W.Fast.tw1443368896678861294 : Unit := ()
def PySem.W.Fast.tw13242944616372917965 : Unit := ()
def PySem.W.Fast.tw9860722663379440634 : Unit := ()
def PySem.W.Fast.tw2075284095725466597 : Unit := ()
def PySem.W.Fast.tw8047407339410487289 : Unit := ()
def PySem.W.Fast.tw5689954400748837139 : Unit := ()
def PySem.W.Fast.tw1284419742483016507 : Unit := ()
def PySem.W.Fast.tw15817636451729089868 : Unit := ()
def PySem.W.Fast.tw18387455463958611644 : Unit := ()
def PySem.W.Fast.tw11495044477456586746 : Unit := ()
def PySem.W.Fast.tw8616466025538421466 : Unit := ()
def PySem.W.Fast.tw6226220782009881141 : Unit := ()
def PySem.W.Fast.tw10747330068929476762 : Unit := ()
def PySem.W.Fast.tw7137354765286855961 : Unit := ()
def PySem.W.Fast.tw896228408825527956 : Unit := ()
def PySem.W.Fast.tw6569660949100703040 : Unit := ()
def PySem.W.Fast.tw16653680562884883641 : Unit := ()
def PySem.W.Fast.tw12054837896178912598 : Unit := ()
def PySem.W.Fast.tw11313038889043441152 : Unit := ()
def PySem.W.Fast.tw7495915476406337651 : Unit := ()
def PySem.W.Fast.tw2749952123707870407 : Unit := ()
def PySem.W.Fast.tw14565479770877160149 : Unit := ()
def PySem.W.Fast.tw1350683508139912030 : Unit := ()
def PySem.W.Fast.tw2262951385032147953 : Unit := ()
def PySem.W.Fast.tw9514364821233014103 : Unit := ()
def PySem.W.Fast.tw989305177090558032 : Unit := ()
def PySem.W.Fast.tw1731694626039806571 : Unit := ()
def PySem.W.Fast.tw12321565628185625832 : Unit := ()
def PySem.W.Fast.tw4273542057413955936 : Unit := ()
def PySem.W.Fast.tw7813446403794664257 : Unit := ()
def PySem.W.Fast.tw931008661441289241 : Unit := ()
def PySem.W.Fast.tw4012091365620029183 : Unit := ()
def PySem.W.Fast.tw11544491973483113593 : Unit := ()
def PySem.W.Fast.tw8802227995418099016 : Unit := ()
def PySem.W.Fast.tw5974488650633291868 : Unit := ()
def PySem.W.Fast.tw10949942396994955590 : Unit := ()
def PySem.W.Fast.tw17651289307206003909 : Unit := ()
def PySem.W.Fast.tw5789296795694118381 : Unit := ()
def PySem.W.Fast.tw4496032625954269217 : Unit := ()
def PySem.W.Fast.tw4605479333166465052 : Unit := ()
def PySem.W.Fast.tw8680668695088342885 : Unit := ()
def PySem.W.Fast.tw4682574479799027405 : Unit := ()
def PySem.W.Fast.tw6902194362834267949 : Unit := ()
def PySem.W.Fast.tw12084794263164261184 : Unit := ()
def PySem.W.Fast.tw8517234151655507296 : Unit := ()
def PySem.W.Fast.tw14632557550369758497 : Unit := ()
def PySem.W.Fast.tw11466734588784976189 : Unit := ()
def PySem.W.Fast.tw5518401146458991161 : Unit := ()
def PySem.W.Fast.tw15145185529223744981 : Unit := ()
def PySem.W.Fast.tw10506928429267107020 : Unit := ()
def PySem.W.Fast.tw10518942741865374675 : Unit := ()
def PySem.W.Fast.tw14150991593294300837 : Unit := ()
def PySem.W.Fast.tw7015110786153596223 : Unit := ()
def PySem.W.Fast.tw10733964494110653602 : Unit := ()
def PySem.W.Fast.tw1770113407363128659 : Unit := ()
def PySem.W.Fast.tw10263448509342862865 : Unit := ()
def PySem.W.Fast.tw1632699337855956002 : Unit := ()
def PySem.W.Fast.tw2073514975950584405 : Unit := ()
def PySem.W.Fast.tw1704011755814226606 : Unit := ()
def PySem.W.Fast.tw203239065484667052 : Unit := ()
def PySem.W.Fast.tw5810318332460827383 : Unit := ()
def PySem.W.Fast.tw6031625329933376858 : Unit := ()
def PySem.W.Fast.tw2994459994844572944 : Unit := ()
def PySem.W.Fast.tw6557731542392986634 : Unit := ()
def PySem.W.Fast.tw18097754194261036792 : Unit := ()
def PySem.W.Fast.tw4871954939463879156 : Unit := ()
def PySem.W.Fast.tw15119341247723155401 : Unit := ()
def PySem.W.Fast.tw14399141564817879297 : Unit := ()
def PySem.W.Fast.tw9368352423722148599 : Unit := ()
def PySem.W.Fast.tw4872495455849938501 : Unit := ()
def PySem.W.Fast.tw3801282187032163073 : Unit := ()
def PySem.W.Fast.tw1875540693084547454 : Unit := ()
def PySem.W.Fast.tw3090545659426864487 : Unit := ()
def PySem.W.Fast.tw15010663954763023850 : Unit := ()
def PySem.W.Fast.tw10881336580406279270 : Unit := ()
def PySem.W.Fast.tw10877652508343762120 : Unit := ()
def PySem.W.Fast.tw8824087285898567443 : Unit := ()
def PySem.W.Fast.tw11633205247523957363 : Unit := ()
def PySem.W.Fast.tw10385623034763014379 : Unit := ()
def PySem.W.Fast.tw16672202087027249647 : Unit := ()
def PySem.W.Fast.tw15898234614855771696 : Unit := ()
def PySem.W.Fast.tw4078569315602159127 : Unit := ()
def PySem.W.Fast.tw14983273029229027165 : Unit := ()
def PySem.W.Fast.tw17877307812607853 : Unit := ()
def PySem.W.Fast.tw11802341354621947236 : Unit := ()
def PySem.W.Fast.tw1767702487723785228 : Unit := ()
def PySem.W.Fast.tw2254667694364327580 : Unit := ()
def PySem.W.Fast.tw3000896257540415748 : Unit := ()
def PySem.W.Fast.tw6166077352476236479 : Unit := ()
def PySem.W.Fast.tw4245127241575844922 : Unit := ()
def PySem.W.Fast.tw10689020371342767430 : Unit := ()
def PySem.W.Fast.tw13059061866672456132 : Unit := ()
def PySem.W.Fast.tw794280094914622082 : Unit := ()
def PySem.W.Fast.tw15997075162043263200 : Unit := ()
def PySem.W.Fast.tw1744590608822909075 : Unit := ()
def PySem.W.Fast.tw2971300063988526382 : Unit := ()
def PySem.W.Fast.tw11690884453563292567 : Unit := ()
def PySem.W.Fast.tw2573841396447624991 : Unit := ()
def PySem.W.Fast.tw9474262505216234464 : Unit := ()
def PySem.W.Fast.tw17508898215439846616 : Unit := ()
def PySem.W.Fast.tw8610370354444894485 : Unit := ()
def PySem.W.Fast.tw18369882624671071906 : Unit := ()
def PySem.W.Fast.tw16213262492672982459 : Unit := ()
def PySem.W.Fast.tw16353625461144759529 : Unit := ()
def PySem.W.Fast.tw10470037812462024987 : Unit := ()
def PySem.W.Fast.tw14739954822279921930 : Unit := ()
def PySem.W.Fast.tw6505339995328605397 : Unit := ()
def PySem.W.Fast.tw6516983026227454591 : Unit := ()
def PySem.W.Fast.tw2849713028477990100 : Unit := ()
def PySem.W.Fast.tw3902019672961845101 : Unit := ()
def PySem.W.Fast.tw13258805978116030552 : Unit := ()
def PySem.W.Fast.tw16631058009534651899 : Unit := ()
def PySem.W.Fast.tw122754615591099138 : Unit := ()
def PySem.W.Fast.tw3482619789971947191 : Unit := ()
def PySem.W.Fast.tw12195093191780500090 : Unit := ()
def PySem.W.Fast.tw17864112975816682486 : Unit := ()
def PySem.W.Fast.tw4573140639585238127 : Unit := ()
def PySem.W.Fast.tw16377410305799528015 : Unit := ()
def PySem.W.Fast.tw16990191756090748938 : Unit := ()
def PySem.W.Fast.tw8901322800761068881 : Unit := ()
def PySem.W.Fast.tw8995784623602228523 : Unit := ()
def PySem.W.Fast.tw18420233512464090940 : Unit := ()
def PySem.W.Fast.tw18405107921038123249 : Unit := ()
def PySem.W.Fast.tw11115868322979364893 : Unit := ()
def PySem.W.Fast.tw3578835406414218754 : Unit := ()
def PySem.W.Fast.tw13480095796519292465 : Unit := ()
def PySem.W.Fast.tw1651337723338535330 : Unit := ()
def PySem.W.Fast.tw4999122698808251534 : Unit := ()
def PySem.W.Fast.tw13020548326576907368 : Unit := ()
def PySem.W.Fast.tw9846043530901793456 : Unit := ()
def PySem.W.Fast.tw17509264740874720272 : Unit := ()
def PySem.W.Fast.tw14560713139133193315 : Unit := ()
def PySem.W.Fast.tw14112981799532263955 : Unit := ()
def PySem.W.Fast.tw10621478999334118755 : Unit := ()
def PySem.W.Fast.tw2156512285959818855 : Unit := ()
def PySem.W.Fast.tw9530314934981777005 : Unit := ()
def PySem.W.Fast.tw7029550468224582374 : Unit := ()
def PySem.W.Fast.tw8548421487114664836 : Unit := ()
def PySem.W.Fast.tw15588397442329417526 : Unit := ()
def PySem.W.Fast.tw9776636621352140285 : Unit := ()
def PySem.W.Fast.tw10096366127370947605 : Unit := ()
def PySem.W.Fast.tw9233188230223282065 : Unit := ()
def PySem.W.Fast.tw13568534314090777514 : Unit := ()
def PySem.W.Fast.tw5228828942424125112 : Unit := ()
def PySem.W.Fast.tw15253955123811246260 : Unit := ()
def PySem.W.Fast.tw9425388801907509570 : Unit := ()
def PySem.W.Fast.tw3717797327438730458 : Unit := ()
def PySem.W.Fast.tw10954541270613093 : Unit := ()
def PySem.W.Fast.tw8520605399620290208 : Unit := ()
def PySem.W.Fast.tw9922920152349259645 : Unit := ()
def PySem.W.Fast.tw18442725951533380623 : Unit := ()
def PySem.W.Fast.tw2882518133429763007 : Unit := ()
def PySem.W.Fast.tw15644131930961419909 : Unit := ()
def PySem.W.Fast.tw3860015120005382591 : Unit := ()
def PySem.W.Fast.tw14225972329644190845 : Unit := ()
def PySem.W.Fast.tw14639142308366699501 : Unit := ()
def PySem.W.Fast.tw7833135388778323441 : Unit := ()
def PySem.W.Fast.tw17831633188039011631 : Unit := ()
def PySem.W.Fast.tw12388028574991600772 : Unit := ()
def PySem.W.Fast.tw18218538594351679422 : Unit := ()
def PySem.W.Fast.tw13153324309069952113 : Unit := ()
def PySem.W.Fast.tw4764167963579920953 : Unit := ()
def PySem.W.Fast.tw12148526326725095450 : Unit := ()
def PySem.W.Fast.tw14781543721980424634 : Unit := ()
def PySem.W.Fast.tw7763865820118140708 : Unit := ()
def PySem.W.Fast.tw2417101034800235014 : Unit := ()
def PySem.W.Fast.tw12470281546960537970 : Unit := ()
def PySem.W.Fast.tw9132193961046229722 : Unit := ()
def PySem.W.Fast.tw2693782726390819609 : Unit := ()
def PySem.W.Fast.tw6061173225596317001 : Unit := ()
def PySem.W.Fast.tw13412881284045098683 : Unit := ()
def PySem.W.Fast.tw11401280275305369174 : Unit := ()
def PySem.W.Fast.tw4113285659290178684 : Unit := ()
def PySem.W.Fast.tw8117300109091265925 : Unit := ()
def PySem.W.Fast.tw10461084143206153587 : Unit := ()
def PySem.W.Fast.tw12655287522835698350 : Unit := ()
def PySem.W.Fast.tw1837177425834286014 : Unit := ()
def PySem.W.Fast.tw10913125265707075280 : Unit := ()
def PySem.W.Fast.tw11298359702042811463 : Unit := ()
def PySem.W.Fast.tw1384265518941171161 : Unit := ()
def PySem.W.Fast.tw6360141776670877034 : Unit := ()
def PySem.W.Fast.tw17694548597897475619 : Unit := ()
def PySem.W.Fast.tw14731340401933094583 : Unit := ()
def PySem.W.Fast.tw17468999940426206112 : Unit := ()
def PySem.W.Fast.tw17024128056320736930 : Unit := ()
def PySem.W.Fast.tw15850751972238460669 : Unit := ()
def PySem.W.Fast.tw7224889903238606074 : Unit := ()
def PySem.W.Fast.tw17128692435160489193 : Unit := ()
def PySem.W.Fast.tw3895761905246650975 : Unit := ()
def PySem.W.Fast.tw3384393299844712013 : Unit := ()
def PySem.W.Fast.tw7951698363641414346 : Unit := ()
def PySem.W.Fast.tw12839718476822218694 : Unit := ()
def PySem.W.Fast.tw9593026199307358501 : Unit := ()
def PySem.W.Fast.tw12073602305352242924 : Unit := ()
def PySem.W.Fast.tw16202337754309683903 : Unit := ()
def PySem.W.Fast.tw2365803456166411561 : Unit := ()
def PySem.W.Fast.tw2445181897178697819 : Unit := ()
def PySem.W.Fast.tw13028583415822455880 : Unit := ()
def PySem.W.Fast.tw2518123534105597839 : Unit := ()
def PySem.W.Fast.tw17004039031257282258 : Unit := ()
def PySem.W.Fast.tw13653612662333990448 : Unit := ()
def PySem.W.Fast.tw9658344651552634676 : Unit := ()
def PySem.W.Fast.tw15398235187825376572 : Unit := ()
def PySem.W.Fast.tw6283361743560813325 : Unit := ()
def PySem.W.Fast.tw11950125137715708853 : Unit := ()
def PySem.W.Fast.tw12402184723061328725 : Unit := ()
def PySem.W.Fast.tw13601551001815448548 : Unit := ()
def PySem.W.Fast.tw9250854623041134651 : Unit := ()
def PySem.W.Fast.tw310341038143473649 : Unit := ()
def PySem.W.Fast.tw7267894035656281152 : Unit := ()
def PySem.W.Fast.tw9413161865477993107 : Unit := ()
def PySem.W.Fast.tw13568415100526032889 : Unit := ()
def PySem.W.Fast.tw2053545007925865634 : Unit := ()
def PySem.W.Fast.tw14941901846540286014 : Unit := ()
def PySem.W.Fast.tw471461243643768267 : Unit := ()
def PySem.W.Fast.tw6650130979208177389 : Unit := ()
def PySem.W.Fast.tw1073955993437757013 : Unit := ()
def PySem.W.Fast.tw11305020869987184094 : Unit := ()
def PySem.W.Fast.tw14918153912725946530 : Unit := ()
def PySem.W.Fast.tw7366669134214348033 : Unit := ()
def PySem.W.Fast.tw2502875989722628020 : Unit := ()
def PySem.W.Fast.tw5289384720941262392 : Unit := ()
def PySem.W.Fast.tw620345184891348635 : Unit := ()
def PySem.W.Fast.tw4059672245364618382 : Unit := ()
def PySem.W.Fast.tw6678457060837334162 : Unit := ()
def PySem.W.Fast.tw17106469515611517043 : Unit := ()
def PySem.W.Fast.tw12413978061764638250 : Unit := ()
def PySem.W.Fast.tw15270717013164628934 : Unit := ()
def PySem.W.Fast.tw4854428724572432045 : Unit := ()
def PySem.W.Fast.tw8755081057538103555 : Unit := ()
def PySem.W.Fast.tw13326102549122885692 : Unit := ()
def PySem.W.Fast.tw11662534758807531815 : Unit := ()
def PySem.W.Fast.tw3938847592704997554 : Unit := ()
def PySem.W.Fast.tw5734854208580109467 : Unit := ()
def PySem.W.Fast.tw6732892033471656272 : Unit := ()
def PySem.W.Fast.tw2410802035147655826 : Unit := ()
def PySem.W.Fast.tw2479029430399280031 : Unit := ()
def PySem.W.Fast.tw12535421268108706213 : Unit := ()
def PySem.W.Fast.tw5165440336292505843 : Unit := ()
def PySem.W.Fast.tw10861221312810759175 : Unit := ()
def PySem.W.Fast.tw6799341819460482196 : Unit := ()
def PySem.W.Fast.tw1280002007791888558 : Unit := ()
def PySem.W.Fast.tw3397609726967922086 : Unit := ()
def PySem.W.Fast.tw13918466140610513323 : Unit := ()
def PySem.W.Fast.tw8427470985846142979 : Unit := ()
def PySem.W.Fast.tw14491677819621901397 : Unit := ()
def PySem.W.Fast.tw10238908009973006949 : Unit := ()
def PySem.W.Fast.tw9819711163432768670 : Unit := ()
def PySem.W.Fast.tw11883951737189475032 : Unit := ()
def PySem.W.Fast.tw1804749383558948260 : Unit := ()
def PySem.W.Fast.tw14798907032282618825 : Unit := ()
def PySem.W.Fast.tw8181106071623127203 : Unit := ()
def PySem.W.Fast.tw15618448630369606491 : Unit := ()
def PySem.W.Fast.tw10800742761471374038 : Unit := ()
def PySem.W.Fast.tw10013315586316905995 : Unit := ()
def PySem.W.Fast.tw17574097236304259064 : Unit := ()
def PySem.W.Fast.tw14173989898203289029 : Unit := ()
def PySem.W.Fast.tw14051735733424090753 : Unit := ()
def PySem.W.Fast.tw15362752295440684643 : Unit := ()
def PySem.W.Fast.tw2025749126899776453 : Unit := ()
def PySem.W.Fast.tw7981018994189085619 : Unit := ()
def PySem.W.Fast.tw7376036644887560764 : Unit := ()
def PySem.W.Fast.tw4127326308134596107 : Unit := ()
def PySem.W.Fast.tw1392196929691924469 : Unit := ()
def PySem.W.Fast.tw2084708474955774883 : Unit := ()
def PySem.W.Fast.tw15623218726264742471 : Unit := ()
def PySem.W.Fast.tw7273805642633040759 : Unit := ()
def PySem.W.Fast.tw4220601465503978890 : Unit := ()
def PySem.W.Fast.tw13541458766115462571 : Unit := ()
def PySem.W.Fast.tw8292520206026506769 : Unit := ()
def PySem.W.Fast.tw2048395136985786870 : Unit := ()
def PySem.W.Fast.tw6050423703700705708 : Unit := ()
def PySem.W.Fast.tw10408271366203571137 : Unit := ()
def PySem.W.Fast.tw17514426564625415082 : Unit := ()
def PySem.W.Fast.tw1321553458678788124 : Unit := ()
def PySem.W.Fast.tw10149985274867951185 : Unit := ()
def PySem.W.Fast.tw7336951937657451933 : Unit := ()
def PySem.W.Fast.tw151464583466950795 : Unit := ()
def PySem.W.Fast.tw7095463964573258338 : Unit := ()
def PySem.W.Fast.tw12973216558505172315 : Unit := ()
def PySem.W.Fast.tw7862581793210392088 : Unit := ()
def PySem.W.Fast.tw14283458356451095261 : Unit := ()
def PySem.W.Fast.tw7086099074335608181 : Unit := ()
def PySem.W.Fast.tw16650303193677433630 : Unit := ()
def PySem.W.Fast.tw16719509493633133169 : Unit := ()
def PySem.W.Fast.tw5688480311877975570 : Unit := ()
def PySem.W.Fast.tw18353368342739538880 : Unit := ()
def PySem.W.Fast.tw2357494838262522911 : Unit := ()
def PySem.W.Fast.tw17149593483015748270 : Unit := ()
def PySem.W.Fast.tw4079605366847819790 : Unit := ()
def PySem.W.Fast.tw2055286694386128102 : Unit := ()
def PySem.W.Fast.tw16752204293902077038 : Unit := ()
def PySem.W.Fast.tw18329629616891307089 : Unit := ()
def PySem.W.Fast.tw7389517876177694202 : Unit := ()
def PySem.W.Fast.tw17715898474992770361 : Unit := ()
def PySem.W.Fast.tw16001784686616498496 : Unit := ()
def PySem.W.Fast.tw5976888745080667801 : Unit := ()
def PySem.W.Fast.tw8085380652287133818 : Unit := ()
def PySem.W.Fast.tw16021149299836587445 : Unit := ()
def PySem.W.Fast.tw12923403744117605888 : Unit := ()
def PySem.W.Fast.tw10055830239681230533 : Unit := ()
def PySem.W.Fast.tw13762616009658265706 : Unit := ()
def PySem.W.Fast.tw4125229121453529410 : Unit := ()
def PySem.W.Fast.tw14482096261609038127 : Unit := ()
def PySem.W.Fast.tw17052624294198289753 : Unit := ()
def PySem.W.Fast.tw13445340878265477386 : Unit := ()
def PySem.W.Fast.tw7828285276868622171 : Unit := ()
def PySem.W.Fast.tw201120566601671961 : Unit := ()
def PySem.W.Fast.tw4139729918769529495 : Unit := ()
def PySem.W.Fast.tw3441679258500521954 : Unit := ()
def PySem.W.Fast.tw11893378013704475311 : Unit := ()
def PySem.W.Fast.tw13676777790652900635 : Unit := ()
def PySem.W.Fast.tw2570926095367243111 : Unit := ()
def PySem.W.Fast.tw16967946213485776828 : Unit := ()
def PySem.W.Fast.tw2289258826415577097 : Unit := ()
def PySem.W.Fast.tw17443054493575482853 : Unit := ()
def PySem.W.Fast.tw12944693257283019880 : Unit := ()
def PySem.W.Fast.tw121927957481000354 : Unit := ()
def PySem.W.Fast.tw3720956878319170263 : Unit := ()
def PySem.W.Fast.tw11545659681093481066 : Unit := ()
def PySem.W.Fast.tw13970826503867629112 : Unit := ()
def PySem.W.Fast.tw14619828002514812423 : Unit := ()
def PySem.W.Fast.tw15485032672259907561 : Unit := ()
def PySem.W.Fast.tw17469772727649292868 : Unit := ()
def PySem.W.Fast.tw12746538594432261795 : Unit := ()
def PySem.W.Fast.tw5512080357527349005 : Unit := ()
def PySem.W.Fast.tw9331877169320261632 : Unit := ()
def PySem.W.Fast.tw14182514470853954677 : Unit := ()
def PySem.W.Fast.tw10438972997971512723 : Unit := ()
def PySem.W.Fast.tw1454250871713003418 : Unit := ()
def PySem.W.Fast.tw11586242736041750850 : Unit := ()
def PySem.W.Fast.tw15428752076925259939 : Unit := ()
def PySem.W.Fast.tw15403531005994394312 : Unit := ()
def PySem.W.Fast.tw6987768589639121029 : Unit := ()
def PySem.W.Fast.tw4022412866421862356 : Unit := ()
def PySem.W.Fast.tw7393379756285029036 : Unit := ()
def PySem.W.Fast.tw14957786645631086256 : Unit := ()
def PySem.W.Fast.tw15629216502657370814 : Unit := ()
def PySem.W.Fast.tw13590569420030817287 : Unit := ()
def PySem.W.Fast.tw5323919913763575178 : Unit := ()
def PySem.W.Fast.tw13050436220382374 : Unit := ()
def PySem.W.Fast.tw13430335428334313424 : Unit := ()
def PySem.W.Fast.tw17862461459041311427 : Unit := ()
def PySem.W.Fast.tw12977784144803642755 : Unit := ()
def PySem.W.Fast.tw14640420398086299745 : Unit := ()
def PySem.W.Fast.tw8528019484873881972 : Unit := ()
def PySem.W.Fast.tw851616858380404154 : Unit := ()
def PySem.W.Fast.tw12602236950547982686 : Unit := ()
def PySem.W.Fast.tw3205850579956717742 : Unit := ()
def PySem.W.Fast.tw18122520670550974673 : Unit := ()
def PySem.W.Fast.tw12736702221860489660 : Unit := ()
def PySem.W.Fast.tw5271292134872571996 : Unit := ()
def PySem.W.Fast.tw7095709233877639064 : Unit := ()
def PySem.W.Fast.tw16179588652637970126 : Unit := ()
def PySem.W.Fast.tw1659752932788852616 : Unit := ()
def PySem.W.Fast.tw9670416661078993739 : Unit := ()
def PySem.W.Fast.tw15308571164413582872 : Unit := ()
def PySem.W.Fast.tw4765074861570010981 : Unit := ()
def PySem.W.Fast.tw5105203080886755521 : Unit := ()
def PySem.W.Fast.tw10090168063416339539 : Unit := ()
def PySem.W.Fast.tw8471414703619020654 : Unit := ()
def PySem.W.Fast.tw12286814092838960158 : Unit := ()
def PySem.W.Fast.tw12984442451356155121 : Unit := ()
def PySem.W.Fast.tw16509781114744184573 : Unit := ()
def PySem.W.Fast.tw406666793048690251 : Unit := ()
def PySem.W.Fast.tw13456333139758372025 : Unit := ()
def PySem.W.Fast.tw15137260375005562188 : Unit := ()
def PySem.W.Fast.tw2842469275788161009 : Unit := ()
def PySem.W.Fast.tw9387738977146253839 : Unit := ()
def PySem.W.Fast.tw1398900632720242141 : Unit := ()
def PySem.W.Fast.tw7171872910087689008 : Unit := ()
def PySem.W.Fast.tw8719989773579648768 : Unit := ()
def PySem.W.Fast.tw11757775194150051104 : Unit := ()
def PySem.W.Fast.tw8527108655821420388 : Unit := ()
def PySem.W.Fast.tw3081420547019868911 : Unit := ()
def PySem.W.Fast.tw3282680267857786128 : Unit := ()
def PySem.W.Fast.tw10271646305996918206 : Unit := ()
def PySem.W.Fast.tw6836878343559203568 : Unit := ()
def PySem.W.Fast.tw4703020245940276186 : Unit := ()
def PySem.W.Fast.tw16875524027784003711 : Unit := ()
def PySem.W.Fast.tw14471366361496131419 : Unit := ()
def PySem.W.Fast.tw2585468958339669710 : Unit := ()
def PySem.W.Fast.tw6205125209098663293 : Unit := ()
def PySem.W.Fast.tw16380606976828417033 : Unit := ()
def PySem.W.Fast.tw17464100973300384852 : Unit := ()
def PySem.W.Fast.tw16132057565598372213 : Unit := ()
def PySem.W.Fast.tw15446271599882073895 : Unit := ()
def PySem.W.Fast.tw1795496778397359561 : Unit := ()
def PySem.W.Fast.tw8251234551915609553 : Unit := ()
def PySem.W.Fast.tw12164311676057453155 : Unit := ()
def PySem.W.Fast.tw1520843801592775703 : Unit := ()
def PySem.W.Fast.tw2884737741594877793 : Unit := ()
def PySem.W.Fast.tw14805469788058894434 : Unit := ()
def PySem.W.Fast.tw9989026955295417008 : Unit := ()
def PySem.W.Fast.tw15880904587575136685 : Unit := ()
def PySem.W.Fast.tw9252147644077159032 : Unit := ()
def PySem.W.Fast.tw12301408818536903178 : Unit := ()
def PySem.W.Fast.tw13011743623056137343 : Unit := ()
def PySem.W.Fast.tw2815749948227103923 : Unit := ()
def PySem.W.Fast.tw18004875710303013530 : Unit := ()
def PySem.W.Fast.tw9229280041166402223 : Unit := ()
def PySem.W.Fast.tw11555683273570283324 : Unit := ()
def PySem.W.Fast.tw12483344379832110216 : Unit := ()
def PySem.W.Fast.tw13452409778205843801 : Unit := ()
def PySem.W.Fast.tw6890090577833512015 : Unit := ()
def PySem.W.Fast.tw7043850936022338544 : Unit := ()
def PySem.W.Fast.tw2222351773939150006 : Unit := ()
def PySem.W.Fast.tw3746952923091875175 : Unit := ()
def PySem.W.Fast.tw1554104429113392897 : Unit := ()
def PySem.W.Fast.tw13579728169930198586 : Unit := ()
def PySem.W.Fast.tw15568466664548733023 : Unit := ()
def PySem.W.Fast.tw9955004384299414982 : Unit := ()
def PySem.W.Fast.tw6031039882491537169 : Unit := ()
def PySem.W.Fast.tw18399010969111161028 : Unit := ()
def PySem.W.Fast.tw17513227987791004846 : Unit := ()
def PySem.W.Fast.tw1731708536731287180 : Unit := ()
def PySem.W.Fast.tw834183759337297501 : Unit := ()
def PySem.W.Fast.tw8340101622026254784 : Unit := ()
def PySem.W.Fast.tw1868734580698947501 : Unit := ()
def PySem.W.Fast.tw13344188596773709838 : Unit := ()
def PySem.W.Fast.tw6116391805250933431 : Unit := ()
def PySem.W.Fast.tw12586514969439955218 : Unit := ()
def PySem.W.Fast.tw9065116649882714782 : Unit := ()
def PySem.W.Fast.tw15296910166905281376 : Unit := ()
def PySem.W.Fast.tw14801272653428227922 : Unit := ()
def PySem.W.Fast.tw11269659857828550443 : Unit := ()
def PySem.W.Fast.tw4332432873586427783 : Unit := ()
def PySem.W.Fast.tw2725960360092124155 : Unit := ()
def PySem.W.Fast.tw7803430785376597848 : Unit := ()
def PySem.W.Fast.tw8001774570734863633 : Unit := ()
def PySem.W.Fast.tw3397031459328544195 : Unit := ()
def PySem.W.Fast.tw15374575391296390719 : Unit := ()
def PySem.W.Fast.tw6821140808683894228 : Unit := ()
def PySem.W.Fast.tw15089933503565755894 : Unit := ()
def PySem.W.Fast.tw16611519218354596296 : Unit := ()
def PySem.W.Fast.tw18358354309594339485 : Unit := ()
def PySem.W.Fast.tw5463466208971051785 : Unit := ()
def PySem.W.Fast.tw5206944089751556284 : Unit := ()
def PySem.W.Fast.tw13612102136427543813 : Unit := ()
def PySem.W.Fast.tw12401741475330809737 : Unit := ()
def PySem.W.Fast.tw15648221846675179393 : Unit := ()
def PySem.W.Fast.tw12667282647858930094 : Unit := ()
def PySem.W.Fast.tw7319208066871063784 : Unit := ()
def PySem.W.Fast.tw16204795743887355950 : Unit := ()
def PySem.W.Fast.tw548592410635426315 : Unit := ()
def PySem.W.Fast.tw17391783901779315730 : Unit := ()
def PySem.W.Fast.tw17960658168412582337 : Unit := ()
def PySem.W.Fast.tw538885190256695427 : Unit := ()
def PySem.W.Fast.tw17464848114476878084 : Unit := ()
def PySem.W.Fast.tw16011394991875433314 : Unit := ()
def PySem.W.Fast.tw12725524746254395228 : Unit := ()
def PySem.W.Fast.tw1372448649645108745 : Unit := ()
def PySem.W.Fast.tw10084579254402777395 : Unit := ()
def PySem.W.Fast.tw12531387313204971005 : Unit := ()
def PySem.W.Fast.tw3021112002738176565 : Unit := ()
def PySem.W.Fast.tw13616219836563794175 : Unit := ()
def PySem.W.Fast.tw7058347559402850817 : Unit := ()
def PySem.W.Fast.tw14313640035392423078 : Unit := ()
def PySem.W.Fast.tw3083049371356154364 : Unit := ()
def PySem.W.Fast.tw11733413470250352486 : Unit := ()
def PySem.W.Fast.tw14796630853664491362 : Unit := ()
def PySem.W.Fast.tw2947687742873148220 : Unit := ()
def PySem.W.Fast.tw8098512388823367602 : Unit := ()
def PySem.W.Fast.tw8635137155959778463 : Unit := ()
def PySem.W.Fast.tw13398046130859666484 : Unit := ()
def PySem.W.Fast.tw5955269620817845509 : Unit := ()
def PySem.W.Fast.tw1257475679932626341 : Unit := ()
def PySem.W.Fast.tw12520931155161827161 : Unit := ()
def PySem.W.Fast.tw14614083196300381893 : Unit := ()
def PySem.W.Fast.tw452026074151799083 : Unit := ()
def PySem.W.Fast.tw15465621586590222430 : Unit := ()
def PySem.W.Fast.tw5680747493179843158 : Unit := ()
def PySem.W.Fast.tw13611219578248477224 : Unit := ()
def PySem.W.Fast.tw13440282073357842358 : Unit := ()
def PySem.W.Fast.tw12493925531318350433 : Unit := ()
def PySem.W.Fast.tw802978058934388316 : Unit := ()
def PySem.W.Fast.tw12348343889747192529 : Unit := ()
def PySem.W.Fast.tw15080887889579742615 : Unit := ()
def PySem.W.Fast.tw8787178047854416555 : Unit := ()
def PySem.W.Fast.tw13426044199838594838 : Unit := ()
def PySem.W.Fast.tw9457103553966236907 : Unit := ()
def PySem.W.Fast.tw2731333240861916864 : Unit := ()
def PySem.W.Fast.tw15368195386567176754 : Unit := ()
def PySem.W.Fast.tw10343564544951947298 : Unit := ()
def PySem.W.Fast.tw5199095758658185491 : Unit := ()
def PySem.W.Fast.tw13796801078682819195 : Unit := ()
def PySem.W.Fast.tw6798917016063283778 : Unit := ()
def PySem.W.Fast.tw13655303030025783828 : Unit := ()
def PySem.W.Fast.tw2415603788681991279 : Unit := ()
def PySem.W.Fast.tw13064612360663444906 : Unit := ()
def PySem.W.Fast.tw588422377896047470 : Unit := ()
def PySem.W.Fast.tw7540761176460177212 : Unit := ()
def PySem.W.Fast.tw13913686425866914759 : Unit := ()
def PySem.W.Fast.tw11925286529221340818 : Unit := ()
def PySem.W.Fast.tw7946524899373837593 : Unit := ()
def PySem.W.Fast.tw8738415670493299349 : Unit := ()
def PySem.W.Fast.tw17201390887379128014 : Unit := ()
def PySem.W.Fast.tw10896833391916530167 : Unit := ()
def PySem.W.Fast.tw4756343773694681031 : Unit := ()
def PySem.W.Fast.tw14506568310410660181 : Unit := ()
def PySem.W.Fast.tw12829236448093702847 : Unit := ()
def PySem.W.Fast.tw8720859492307889398 : Unit := ()
def PySem.W.Fast.tw7942479273908454912 : Unit := ()
def PySem.W.Fast.tw4321904652856828952 : Unit := ()
def PySem.W.Fast.tw5615195780667143988 : Unit := ()
def PySem.W.Fast.tw7774893187636047621 : Unit := ()
def PySem.W.Fast.tw9854680816596890820 : Unit := ()
def PySem.W.Fast.tw18067005114847961719 : Unit := ()
def PySem.W.Fast.tw10425388001305600892 : Unit := ()
def PySem.W.Fast.tw15794186181239576738 : Unit := ()
def PySem.W.Fast.tw9418230243073890513 : Unit := ()
def PySem.W.Fast.tw7474994886925630330 : Unit := ()
def PySem.W.Fast.tw403003847980894538 : Unit := ()
def PySem.W.Fast.tw1372271886288123763 : Unit := ()
def PySem.W.Fast.tw4669448313249421316 : Unit := ()
def PySem.W.Fast.tw422251586627353669 : Unit := ()
def PySem.W.Fast.tw10325339586401016352 : Unit := ()
def PySem.W.Fast.tw16626727531819370610 : Unit := ()
def PySem.W.Fast.tw12589417494027956552 : Unit := ()
def PySem.W.Fast.tw18017160393216667938 : Unit := ()
def PySem.W.Fast.tw2675762217440096793 : Unit := ()
def PySem.W.Fast.tw6120534344820346797 : Unit := ()
def PySem.W.Fast.tw4827185856096372874 : Unit := ()
def PySem.W.Fast.tw1417051138470723359 : Unit := ()
def PySem.W.Fast.tw3771009212242020555 : Unit := ()
def PySem.W.Fast.tw12084094332883433341 : Unit := ()
def PySem.W.Fast.tw14816521018272781518 : Unit := ()
def PySem.W.Fast.tw2707711877446210917 : Unit := ()
def PySem.W.Fast.tw2214938196039818545 : Unit := ()
def PySem.W.Fast.tw8428848010174438935 : Unit := ()
def PySem.W.Fast.tw1485679196694771485 : Unit := ()
def PySem.W.Fast.tw8821747975167354718 : Unit := ()
def PySem.W.Fast.tw12098416253111898926 : Unit := ()
def PySem.W.Fast.tw16529112622151625842 : Unit := ()
def PySem.W.Fast.tw142566004300896620 : Unit := ()
def PySem.W.Fast.tw9986977931400604997 : Unit := ()
def PySem.W.Fast.tw3104438632985949857 : Unit := ()
def PySem.W.Fast.tw5949501864143688078 : Unit := ()
def PySem.W.Fast.tw952164415912279959 : Unit := ()
def PySem.W.Fast.tw15564615001695482870 : Unit := ()
def PySem.W.Fast.tw2418303171670197674 : Unit := ()
def PySem.W.Fast.tw9035454500355983105 : Unit := ()
def PySem.W.Fast.tw2670361588555299810 : Unit := ()
def PySem.W.Fast.tw9590546936731013743 : Unit := ()
def PySem.W.Fast.tw327972884080690716 : Unit := ()
def PySem.W.Fast.tw3977412489863124255 : Unit := ()
def PySem.W.Fast.tw10217545189384164742 : Unit := ()
def PySem.W.Fast.tw12711614791351788335 : Unit := ()
def PySem.W.Fast.tw4838804788244583675 : Unit := ()
def PySem.W.Fast.tw10282409550094128957 : Unit := ()
def PySem.W.Fast.tw12366944294273717876 : Unit := ()
def PySem.W.Fast.tw11111023351935908986 : Unit := ()
def PySem.W.Fast.tw17174156326956576920 : Unit := ()
def PySem.W.Fast.tw17603197915280572239 : Unit := ()
def PySem.W.Fast.tw11183516845665511775 : Unit := ()
def PySem.W.Fast.tw7944353605010445201 : Unit := ()
def PySem.W.Fast.tw4514195485799049589 : Unit := ()
def PySem.W.Fast.tw10791860794988527261 : Unit := ()
def PySem.W.Fast.tw766483449307830688 : Unit := ()
def PySem.W.Fast.tw7320757211832480662 : Unit := ()
def PySem.W.Fast.tw8742309722626558945 : Unit := ()
def PySem.W.Fast.tw2214320447104157087 : Unit := ()
def PySem.W.Fast.tw7466686623335403442 : Unit := ()
def PySem.W.Fast.tw15438305693544915977 : Unit := ()
def PySem.W.Fast.tw5768323312505175388 : Unit := ()
def PySem.W.Fast.tw15724998630991838532 : Unit := ()
def PySem.W.Fast.tw11512660546136455105 : Unit := ()
def PySem.W.Fast.tw14313602277014276726 : Unit := ()
def PySem.W.Fast.tw2068629322434734173 : Unit := ()
def PySem.W.Fast.tw10203367008053684951 : Unit := ()
def PySem.W.Fast.tw4615172651946496725 : Unit := ()
def PySem.W.Fast.tw12091932831326876206 : Unit := ()
def PySem.W.Fast.tw4321148539904006671 : Unit := ()
def PySem.W.Fast.tw9151868659656409741 : Unit := ()
def PySem.W.Fast.tw12986844489431536188 : Unit := ()
def PySem.W.Fast.tw14860117878197889630 : Unit := ()
def PySem.W.Fast.tw12567647233760560475 : Unit := ()
def PySem.W.Fast.tw4806448163850076509 : Unit := ()
def PySem.W.Fast.tw3528649294354333130 : Unit := ()
def PySem.W.Fast.tw4752974992272633130 : Unit := ()
def PySem.W.Fast.tw10044482572665607577 : Unit := ()
def PySem.W.Fast.tw15908721112950089271 : Unit := ()
def PySem.W.Fast.tw15321766517537766886 : Unit := ()
def PySem.W.Fast.tw17603733117189155364 : Unit := ()
def PySem.W.Fast.tw4386041647998237218 : Unit := ()
def PySem.W.Fast.tw2018577634108680070 : Unit := ()
def PySem.W.Fast.tw17629047829880849145 : Unit := ()
def PySem.W.Fast.tw3845552306617366094 : Unit := ()
def PySem.W.Fast.tw6853277820837809872 : Unit := ()
def PySem.W.Fast.tw10908108576568318275 : Unit := ()
def PySem.W.Fast.tw3405577441209504509 : Unit := ()
def PySem.W.Fast.tw18026530991267656575 : Unit := ()
def PySem.W.Fast.tw6416216665397076112 : Unit := ()
def PySem.W.Fast.tw9937377871631682577 : Unit := ()
def PySem.W.Fast.tw932016393277284693 : Unit := ()
def PySem.W.Fast.tw12179911303253462245 : Unit := ()
def PySem.W.Fast.tw9230656693112723253 : Unit := ()
def PySem.W.Fast.tw12809657990382089845 : Unit := ()
def PySem.W.Fast.tw18359473300670006041 : Unit := ()
def PySem.W.Fast.tw12928647638989961908 : Unit := ()
def PySem.W.Fast.tw3353958414227423334 : Unit := ()
def PySem.W.Fast.tw7270252857385867482 : Unit := ()
def PySem.W.Fast.tw4194694900947213435 : Unit := ()
def PySem.W.Fast.tw7067261097166140567 : Unit := ()
def PySem.W.Fast.tw11540193219108668968 : Unit := ()
def PySem.W.Fast.tw9066200766221493757 : Unit := ()
def PySem.W.Fast.tw8691766837654320468 : Unit := ()
def PySem.W.Fast.tw11439601170333354637 : Unit := ()
def PySem.W.Fast.tw16152285634157416376 : Unit := ()
def PySem.W.Fast.tw607321453874324530 : Unit := ()
def PySem.W.Fast.tw12826454452164476680 : Unit := ()
def PySem.W.Fast.tw4558486712495350607 : Unit := ()
def PySem.W.Fast.tw14357345441234046845 : Unit := ()
def PySem.W.Fast.tw3446778984967263013 : Unit := ()
def PySem.W.Fast.tw2965119172018391699 : Unit := ()
def PySem.W.Fast.tw13275668355054868929 : Unit := ()
def PySem.W.Fast.tw3352606515115187803 : Unit := ()
def PySem.W.Fast.tw16948846184225435109 : Unit := ()
def PySem.W.Fast.tw16145863068867400564 : Unit := ()
def PySem.W.Fast.tw9071144921060132619 : Unit := ()
def PySem.W.Fast.tw1548524023242101267 : Unit := ()
def PySem.W.Fast.tw878912611921104252 : Unit := ()
def PySem.W.Fast.tw4667645276770217903 : Unit := ()
def PySem.W.Fast.tw18192854720381727251 : Unit := ()
def PySem.W.Fast.tw9157170679598471745 : Unit := ()
def PySem.W.Fast.tw10425564204085774537 : Unit := ()
def PySem.W.Fast.tw13101424882842482817 : Unit := ()
def PySem.W.Fast.tw7900596137396006928 : Unit := ()
def PySem.W.Fast.tw16246919888014752321 : Unit := ()
def PySem.W.Fast.tw6444777832086134843 : Unit := ()
def PySem.W.Fast.tw16430372903090473882 : Unit := ()
def PySem.W.Fast.tw14377422639948002173 : Unit := ()
def PySem.W.Fast.tw5166174329889458437 : Unit := ()
def PySem.W.Fast.tw3564665609411639111 : Unit := ()
def PySem.W.Fast.tw7588502529025953439 : Unit := ()
def PySem.W.Fast.tw1156648891297350893 : Unit := ()
def PySem.W.Fast.tw17000504961679520128 : Unit := ()
def PySem.W.Fast.tw2721148012041092683 : Unit := ()
def PySem.W.Fast.tw14229352359385091321 : Unit := ()
def PySem.W.Fast.tw9846016517890014884 : Unit := ()
def PySem.W.Fast.tw8315098487064200335 : Unit := ()
def PySem.W.Fast.tw1851142459658271531 : Unit := ()
def PySem.W.Fast.tw15241737336732218290 : Unit := ()
def PySem.W.Fast.tw1528692528469427972 : Unit := ()
def PySem.W.Fast.tw12653331372516707775 : Unit := ()
def PySem.W.Fast.tw4166217560475511321 : Unit := ()
def PySem.W.Fast.tw4727972911110790343 : Unit := ()
def PySem.W.Fast.tw8564454493288527124 : Unit := ()
def PySem.W.Fast.tw1902870403795571083 : Unit := ()
def PySem.W.Fast.tw5566411642396068155 : Unit := ()
def PySem.W.Fast.tw3526800987465656052 : Unit := ()
def PySem.W.Fast.tw10708221422724003584 : Unit := ()
def PySem.W.Fast.tw10278697525656163591 : Unit := ()
def PySem.W.Fast.tw330834561938854810 : Unit := ()
def PySem.W.Fast.tw1108259665716090329 : Unit := ()
def PySem.W.Fast.tw10725230823344343076 : Unit := ()
def PySem.W.Fast.tw15519331293351703199 : Unit := ()
def PySem.W.Fast.tw3351690611645458204 : Unit := ()
def PySem.W.Fast.tw13105415035136284715 : Unit := ()
def PySem.W.Fast.tw12901255213446575268 : Unit := ()
def PySem.W.Fast.tw15457192630099601652 : Unit := ()
def PySem.W.Fast.tw16399252326884735951 : Unit := ()
def PySem.W.Fast.tw11574053577457586596 : Unit := ()
def PySem.W.Fast.tw2234588361868842285 : Unit := ()
def PySem.W.Fast.tw7397928190655527857 : Unit := ()
def PySem.W.Fast.tw934601856686244695 : Unit := ()
def PySem.W.Fast.tw1895765114326277205 : Unit := ()
def PySem.W.Fast.tw1967200339096796622 : Unit := ()
def PySem.W.Fast.tw3577824484241769158 : Unit := ()
def PySem.W.Fast.tw9425691493007844709 : Unit := ()
def PySem.W.Fast.tw13235865083827617355 : Unit := ()
def PySem.W.Fast.tw8822508838103691248 : Unit := ()
def PySem.W.Fast.tw17130044969668045711 : Unit := ()
def PySem.W.Fast.tw8358495072294419288 : Unit := ()
def PySem.W.Fast.tw603597455347584003 : Unit := ()
def PySem.W.Fast.tw3804448411156676622 : Unit := ()
def PySem.W.Fast.tw16795820047286858676 : Unit := ()
def PySem.W.Fast.tw15185949971863822001 : Unit := ()
def PySem.W.Fast.tw11002178671341655014 : Unit := ()
def PySem.W.Fast.tw14292109524421897042 : Unit := ()
def PySem.W.Fast.tw247527979507147156 : Unit := ()
def PySem.W.Fast.tw7594269278766983961 : Unit := ()
def PySem.W.Fast.tw12179558370840303308 : Unit := ()
def PySem.W.Fast.tw4664156336237507930 : Unit := ()
def PySem.W.Fast.tw7153280318461083491 : Unit := ()
def PySem.W.Fast.tw2882891091451924920 : Unit := ()
def PySem.W.Fast.tw3172826697074338204 : Unit := ()
def PySem.W.Fast.tw5358074845091243021 : Unit := ()
def PySem.W.Fast.tw15007665066834339019 : Unit := ()
def PySem.W.Fast.tw13295844200921365053 : Unit := ()
def PySem.W.Fast.tw11884256095744182456 : Unit := ()
def PySem.W.Fast.tw14235762761529408358 : Unit := ()
def PySem.W.Fast.tw6585296884521931674 : Unit := ()
def PySem.W.Fast.tw10265116189592539459 : Unit := ()
def PySem.W.Fast.tw4803831633469274344 : Unit := ()
def PySem.W.Fast.tw2441412627085234485 : Unit := ()
def PySem.W.Fast.tw11796596590504672697 : Unit := ()
def PySem.W.Fast.tw17940143485675188785 : Unit := ()
def PySem.W.Fast.tw8980135149083535390 : Unit := ()
def PySem.W.Fast.tw8933793654414220386 : Unit := ()
def PySem.W.Fast.tw14043702325150897823 : Unit := ()
def PySem.W.Fast.tw13138256598290913001 : Unit := ()
def PySem.W.Fast.tw11686713646193340205 : Unit := ()
def PySem.W.Fast.tw12648689675241771936 : Unit := ()
def PySem.W.Fast.tw9078818605152135361 : Unit := ()
def PySem.W.Fast.tw10353732721668734599 : Unit := ()
def PySem.W.Fast.tw1116615279899935933 : Unit := ()
def PySem.W.Fast.tw12196757938038716604 : Unit := ()
def PySem.W.Fast.tw2196133518738426239 : Unit := ()
def PySem.W.Fast.tw13521753925399220731 : Unit := ()
def PySem.W.Fast.tw3828052210351709257 : Unit := ()
def PySem.W.Fast.tw11660674759443509532 : Unit := ()
def PySem.W.Fast.tw700788841183973247 : Unit := ()
def PySem.W.Fast.tw11170113381526734292 : Unit := ()
def PySem.W.Fast.tw12708235043765728331 : Unit := ()
def PySem.W.Fast.tw5310176759304486884 : Unit := ()
def PySem.W.Fast.tw4708857752397340126 : Unit := ()
def PySem.W.Fast.tw13616762701017354343 : Unit := ()
def PySem.W.Fast.tw9182476934156271643 : Unit := ()
def PySem.W.Fast.tw3307968808145191341 : Unit := ()
def PySem.W.Fast.tw17043959042868119290 : Unit := ()
def PySem.W.Fast.tw3286122063458478027 : Unit := ()
def PySem.W.Fast.tw1178447612124462848 : Unit := ()
def PySem.W.Fast.tw17955633641866899128 : Unit := ()
def PySem.W.Fast.tw12236161660390768249 : Unit := ()
def PySem.W.Fast.tw4213848243635426542 : Unit := ()
def PySem.W.Fast.tw6712390651038356467 : Unit := ()
def PySem.W.Fast.tw2116663827115727899 : Unit := ()
def PySem.W.Fast.tw7834548778042515598 : Unit := ()
def PySem.W.Fast.tw6380004982041815446 : Unit := ()
def PySem.W.Fast.tw9536649547203094003 : Unit := ()
def PySem.W.Fast.tw5328445138252657791 : Unit := ()
def PySem.W.Fast.tw15987610828232307042 : Unit := ()
def PySem.W.Fast.tw4701682798581352908 : Unit := ()
def PySem.W.Fast.tw34297107239545046 : Unit := ()
def PySem.W.Fast.tw1739451601063116256 : Unit := ()
def PySem.W.Fast.tw17008277461821574364 : Unit := ()
def PySem.W.Fast.tw10548988088536033709 : Unit := ()
def PySem.W.Fast.tw14482844795543583422 : Unit := ()
def PySem.W.Fast.tw12442460764581987129 : Unit := ()
def PySem.W.Fast.tw8238048214050848321 : Unit := ()
def PySem.W.Fast.tw9404954409230875590 : Unit := ()
def PySem.W.Fast.tw15045407247147072091 : Unit := ()
def PySem.W.Fast.tw11238522188791942915 : Unit := ()
def PySem.W.Fast.tw4270613690822758091 : Unit := ()
def PySem.W.Fast.tw13848578401143228017 : Unit := ()
def PySem.W.Fast.tw4836097894590225433 : Unit := ()
def PySem.W.Fast.tw13064806357160492232 : Unit := ()
def PySem.W.Fast.tw17320837146412479337 : Unit := ()
def PySem.W.Fast.tw14922556355601442078 : Unit := ()
def PySem.W.Fast.tw5659077810731491449 : Unit := ()
def PySem.W.Fast.tw12970001225622975427 : Unit := ()
def PySem.W.Fast.tw17637810469719672073 : Unit := ()
def PySem.W.Fast.tw2014522741096151934 : Unit := ()
def PySem.W.Fast.tw11717435392482332764 : Unit := ()
def PySem.W.Fast.tw441752653113160003 : Unit := ()
def PySem.W.Fast.tw13930803758714055042 : Unit := ()
def PySem.W.Fast.tw5216675880320335584 : Unit := ()
def PySem.W.Fast.tw10133530474368058414 : Unit := ()
def PySem.W.Fast.tw16984206796696756307 : Unit := ()
def PySem.W.Fast.tw4870686172236313629 : Unit := ()
def PySem.W.Fast.tw14798540556907815144 : Unit := ()
def PySem.W.Fast.tw13952284245705617808 : Unit := ()
def PySem.W.Fast.tw16686879135499313979 : Unit := ()
def PySem.W.Fast.tw17246648542102825534 : Unit := ()
def PySem.W.Fast.tw14129615131245608789 : Unit := ()
def PySem.W.Fast.tw3566674731233665 : Unit := ()
def PySem.W.Fast.tw15633812522165360052 : Unit := ()
def PySem.W.Fast.tw9081503279195274695 : Unit := ()
def PySem.W.Fast.tw1501962343600091461 : Unit := ()
def PySem.W.Fast.tw11891805654976933981 : Unit := ()
def PySem.W.Fast.tw13690188898719364782 : Unit := ()
def PySem.W.Fast.tw5512373104844813705 : Unit := ()
def PySem.W.Fast.tw2207164614215157609 : Unit := ()
def PySem.W.Fast.tw10968291414140715587 : Unit := ()
def PySem.W.Fast.tw9027490050181252010 : Unit := ()
def PySem.W.Fast.tw4522961205288555804 : Unit := ()
def PySem.W.Fast.tw7980206557729348583 : Unit := ()
def PySem.W.Fast.tw9475535111018448245 : Unit := ()
def PySem.W.Fast.tw11310377646654213302 : Unit := ()
def PySem.W.Fast.tw985029261027697170 : Unit := ()
def PySem.W.Fast.tw8712521597221556404 : Unit := ()
def PySem.W.Fast.tw3739865894239932726 : Unit := ()
def PySem.W.Fast.tw6829458800210019179 : Unit := ()
def PySem.W.Fast.tw16496759945869239173 : Unit := ()
def PySem.W.Fast.tw2010996452611807727 : Unit := ()
def PySem.W.Fast.tw8774989127344839509 : Unit := ()
def PySem.W.Fast.tw2633085768391795972 : Unit := ()
def PySem.W.Fast.tw6437507448644378498 : Unit := ()
def PySem.W.Fast.tw17017388066999708643 : Unit := ()
def PySem.W.Fast.tw9389708737284248316 : Unit := ()
def PySem.W.Fast.tw17279966046342777665 : Unit := ()
def PySem.W.Fast.tw14008258220399757548 : Unit := ()
def PySem.W.Fast.tw18191752578931236091 : Unit := ()
def PySem.W.Fast.tw11826040078919618160 : Unit := ()
def PySem.W.Fast.tw65243874262911180 : Unit := ()
def PySem.W.Fast.tw9666523139567114528 : Unit := ()
def PySem.W.Fast.tw5117733791551545664 : Unit := ()
def PySem.W.Fast.tw10375577645473620477 : Unit := ()
def PySem.W.Fast.tw1204781565405617883 : Unit := ()
def PySem.W.Fast.tw17098946845385703440 : Unit := ()
def PySem.W.Fast.tw6349760876601564984 : Unit := ()
def PySem.W.Fast.tw3108161405930442813 : Unit := ()
def PySem.W.Fast.tw10711730697140174670 : Unit := ()
def PySem.W.Fast.tw17597698418167745665 : Unit := ()
def PySem.W.Fast.tw9262966354944706156 : Unit := ()
def PySem.W.Fast.tw4553528130579406050 : Unit := ()
def PySem.W.Fast.tw18352505927300968695 : Unit := ()
def PySem.W.Fast.tw15375080011003060483 : Unit := ()
def PySem.W.Fast.tw16108467074925044305 : Unit := ()
def PySem.W.Fast.tw3808650045742225755 : Unit := ()
def PySem.W.Fast.tw15886471500135830289 : Unit := ()
def PySem.W.Fast.tw17738524939420007626 : Unit := ()
def PySem.W.Fast.tw7357985237537168087 : Unit := ()
def PySem.W.Fast.tw13102336368471501075 : Unit := ()
def PySem.W.Fast.tw7311654147900090528 : Unit := ()
def PySem.W.Fast.tw14413391294680096652 : Unit := ()
def PySem.W.Fast.tw9738919411247434913 : Unit := ()
def PySem.W.Fast.tw2242235648785895981 : Unit := ()
def PySem.W.Fast.tw9585439685587994901 : Unit := ()
def PySem.W.Fast.tw10086940018297305097 : Unit := ()
def PySem.W.Fast.tw6959912687510207802 : Unit := ()
def PySem.W.Fast.tw8185355630361330543 : Unit := ()
def PySem.W.Fast.tw6263515513185933640 : Unit := ()
def PySem.W.Fast.tw5617707421643283031 : Unit := ()
def PySem.W.Fast.tw9613331074174167690 : Unit := ()
def PySem.W.Fast.tw16661981477871104380 : Unit := ()
def PySem.W.Fast.tw15994398760450811304 : Unit := ()
def PySem.W.Fast.tw3803208929394492752 : Unit := ()
def PySem.W.Fast.tw6129523711439581579 : Unit := ()
def PySem.W.Fast.tw15739938944173031290 : Unit := ()
def PySem.W.Fast.tw3901407907182687024 : Unit := ()
def PySem.W.Fast.tw10487098099238792587 : Unit := ()
def PySem.W.Fast.tw2855230857495995423 : Unit := ()
def PySem.W.Fast.tw2622946193166566959 : Unit := ()
def PySem.W.Fast.tw17609267471072040104 : Unit := ()
def PySem.W.Fast.tw12023733962597772433 : Unit := ()
def PySem.W.Fast.tw12861867121802846036 : Unit := ()
def PySem.W.Fast.tw2494054903512891491 : Unit := ()
def PySem.W.Fast.tw3922497361879747661 : Unit := ()
def PySem.W.Fast.tw14684138218358590612 : Unit := ()
def PySem.W.Fast.tw16833361918994575276 : Unit := ()
def PySem.W.Fast.tw17229282427791648024 : Unit := ()
def PySem.W.Fast.tw4249719974590302983 : Unit := ()
def PySem.W.Fast.tw12697413926112632083 : Unit := ()
def PySem.W.Fast.tw1936160189001392775 : Unit := ()
def PySem.W.Fast.tw4880552686546840093 : Unit := ()
def PySem.W.Fast.tw17905888385760525524 : Unit := ()
def PySem.W.Fast.tw12170446480135830270 : Unit := ()
def PySem.W.Fast.tw3113015619776207875 : Unit := ()
def PySem.W.Fast.tw11741304681053389812 : Unit := ()
def PySem.W.Fast.tw18094923172834148262 : Unit := ()
def PySem.W.Fast.tw5462842468554547551 : Unit := ()
def PySem.W.Fast.tw7190083069661644524 : Unit := ()
def PySem.W.Fast.tw8735542771458581266 : Unit := ()
def PySem.W.Fast.tw5976281014822048844 : Unit := ()
def PySem.W.Fast.tw10383810819412684550 : Unit := ()
def PySem.W.Fast.tw8508688281086134847 : Unit := ()
def PySem.W.Fast.tw12628294044526938743 : Unit := ()
def PySem.W.Fast.tw13137365390261145133 : Unit := ()
def PySem.W.Fast.tw12125126259355263011 : Unit := ()
def PySem.W.Fast.tw13095620920665595172 : Unit := ()
def PySem.W.Fast.tw12992969131433696751 : Unit := ()
def PySem.W.Fast.tw6842279577849392368 : Unit := ()
def PySem.W.Fast.tw11589660062187089554 : Unit := ()
def PySem.W.Fast.tw9221506333594522481 : Unit := ()
def PySem.W.Fast.tw4122421345948578725 : Unit := ()
def PySem.W.Fast.tw13734736041651985913 : Unit := ()
def PySem.W.Fast.tw898694143634141691 : Unit := ()
def PySem.W.Fast.tw13384275078598429558 : Unit := ()
def PySem.W.Fast.tw14026382504293062044 : Unit := ()
def PySem.W.Fast.tw12034113219707919966 : Unit := ()
def PySem.W.Fast.tw12917517699579386598 : Unit := ()
def PySem.W.Fast.tw864099959912018473 : Unit := ()
def PySem.W.Fast.tw191312002368210427 : Unit := ()
def PySem.W.Fast.tw2278061385122427580 : Unit := ()
def PySem.W.Fast.tw13733487455563036144 : Unit := ()
def PySem.W.Fast.tw6678153992268310383 : Unit := ()
def PySem.W.Fast.tw5265268891959133785 : Unit := ()
def PySem.W.Fast.tw10016239146541047554 : Unit := ()
def PySem.W.Fast.tw16394522444111326001 : Unit := ()
def PySem.W.Fast.tw5532748378601974485 : Unit := ()
def PySem.W.Fast.tw14146255405694497349 : Unit := ()
def PySem.W.Fast.tw4498097769224586009 : Unit := ()
def PySem.W.Fast.tw6593245054865182830 : Unit := ()
def PySem.W.Fast.tw5126174032733659017 : Unit := ()
def PySem.W.Fast.tw17839765313296248412 : Unit := ()
def PySem.W.Fast.tw2787687844117337863 : Unit := ()
def PySem.W.Fast.tw2131786167213516001 : Unit := ()
def PySem.W.Fast.tw18261533106687784823 : Unit := ()
def PySem.W.Fast.tw15479047896822724989 : Unit := ()
def PySem.W.Fast.tw7318596675350167948 : Unit := ()
def PySem.W.Fast.tw17058986376691346527 : Unit := ()
def PySem.W.Fast.tw13783530537738334875 : Unit := ()
def PySem.W.Fast.tw6449581848569118659 : Unit := ()
def PySem.W.Fast.tw7150862603643362651 : Unit := ()
def PySem.W.Fast.tw15911087457874894827 : Unit := ()
def PySem.W.Fast.tw16283793386809208135 : Unit := ()
def PySem.W.Fast.tw6531713442146431649 : Unit := ()
def PySem.W.Fast.tw13729338761427927350 : Unit := ()
def PySem.W.Fast.tw5427982067263351913 : Unit := ()
def PySem.W.Fast.tw12306884220426550426 : Unit := ()
def PySem.W.Fast.tw4140174625818672061 : Unit := ()
def PySem.W.Fast.tw2905908043438159184 : Unit := ()
def PySem.W.Fast.tw9580728800083033463 : Unit := ()
def PySem.W.Fast.tw15748170112088241325 : Unit := ()
def PySem.W.Fast.tw14806448128644168503 : Unit := ()
def PySem.W.Fast.tw2091883184022997343 : Unit := ()
def PySem.W.Fast.tw10379002279956142468 : Unit := ()
def PySem.W.Fast.tw12936085020561119981 : Unit := ()
def PySem.W.Fast.tw11402672340150337202 : Unit := ()
def PySem.W.Fast.tw753013305434404401 : Unit := ()
def PySem.W.Fast.tw7945263796467919832 : Unit := ()
def PySem.W.Fast.tw15982888762440823984 : Unit := ()
def PySem.W.Fast.tw4568347969282785609 : Unit := ()
def PySem.W.Fast.tw12685454690332095695 : Unit := ()
def PySem.W.Fast.tw1795153879147870756 : Unit := ()
def PySem.W.Fast.tw2554027047829596582 : Unit := ()
def PySem.W.Fast.tw17105929312924170163 : Unit := ()
def PySem.W.Fast.tw6428325017205351930 : Unit := ()
def PySem.W.Fast.tw13995441999035766633 : Unit := ()
def PySem.W.Fast.tw17610688698851965715 : Unit := ()
def PySem.W.Fast.tw10220474443789523059 : Unit := ()
def PySem.W.Fast.tw11151502172538133347 : Unit := ()
def PySem.W.Fast.tw966097906744961477 : Unit := ()
def PySem.W.Fast.tw6972087645612453361 : Unit := ()
def PySem.W.Fast.tw474113144622243141 : Unit := ()
def PySem.W.Fast.tw5176639228540661178 : Unit := ()
def PySem.W.Fast.tw14633686236854006213 : Unit := ()
def PySem.W.Fast.tw16784572695976014614 : Unit := ()
def PySem.W.Fast.tw9823723345670439272 : Unit := ()
def PySem.W.Fast.tw9623437853773525145 : Unit := ()
def PySem.W.Fast.tw5710302327865249545 : Unit := ()
def PySem.W.Fast.tw5516603483188294122 : Unit := ()
def PySem.W.Fast.tw4579616912622709044 : Unit := ()
def PySem.W.Fast.tw7186741122573099367 : Unit := ()
def PySem.W.Fast.tw5621184904151086102 : Unit := ()
def PySem.W.Fast.tw2667769535628856416 : Unit := ()
def PySem.W.Fast.tw4294327319345132916 : Unit := ()
def PySem.W.Fast.tw9407343130819379398 : Unit := ()
def PySem.W.Fast.tw5038812353269978222 : Unit := ()
def PySem.W.Fast.tw10150452069227251576 : Unit := ()
def PySem.W.Fast.tw8844750799253601886 : Unit := ()
def PySem.W.Fast.tw10789912537829445739 : Unit := ()
def PySem.W.Fast.tw12569113154819738754 : Unit := ()
def PySem.W.Fast.tw7250455166431490579 : Unit := ()
def PySem.W.Fast.tw11799781080876632743 : Unit := ()
def PySem.W.Fast.tw10861084183848139558 : Unit := ()
def PySem.W.Fast.tw17276014794564504594 : Unit := ()
def PySem.W.Fast.tw17578114204747337189 : Unit := ()
def PySem.W.Fast.tw8840730486311617983 : Unit := ()
def PySem.W.Fast.tw7124910964878655754 : Unit := ()
def PySem.W.Fast.tw13007018245192084158 : Unit := ()
def PySem.W.Fast.tw4814416719986683713 : Unit := ()
def PySem.W.Fast.tw4625976579624880346 : Unit := ()
def PySem.W.Fast.tw9931867797116534556 : Unit := ()
def PySem.W.Fast.tw10483960867292113987 : Unit := ()
def PySem.W.Fast.tw13496659397527684544 : Unit := ()
def PySem.W.Fast.tw15010011393846517581 : Unit := ()
def PySem.W.Fast.tw14915624519873680673 : Unit := ()
def PySem.W.Fast.tw2191415540030139766 : Unit := ()
def PySem.W.Fast.tw1754489404110603714 : Unit := ()
def PySem.W.Fast.tw4581935452472775410 : Unit := ()
def PySem.W.Fast.tw830724371193650747 : Unit := ()
def PySem.W.Fast.tw7865609247097253420 : Unit := ()
def PySem.W.Fast.tw3676605148343283930 : Unit := ()
def PySem.W.Fast.tw15977222651601506789 : Unit := ()
def PySem.W.Fast.tw3965617084080492801 : Unit := ()
def PySem.W.Fast.tw3762286943527181372 : Unit := ()
def PySem.W.Fast.tw1543016891891962145 : Unit := ()
def PySem.W.Fast.tw2746736805730734653 : Unit := ()
def PySem.W.Fast.tw5425433355414528331 : Unit := ()
def PySem.W.Fast.tw16542637380956236248 : Unit := ()
def PySem.W.Fast.tw13775005954505659989 : Unit := ()
def PySem.W.Fast.tw9954796598898972712 : Unit := ()
def PySem.W.Fast.tw5238401490464437027 : Unit := ()
def PySem.W.Fast.tw3416254660159194058 : Unit := ()
def PySem.W.Fast.tw14118908510797185146 : Unit := ()
def PySem.W.Fast.tw17588840704810802770 : Unit := ()
def PySem.W.Fast.tw12823114284391591148 : Unit := ()
def PySem.W.Fast.tw2039492389163602703 : Unit := ()
def PySem.W.Fast.tw5884602151809997425 : Unit := ()
def PySem.W.Fast.tw16330881737498116640 : Unit := ()
def PySem.W.Fast.tw6894059987013615613 : Unit := ()
def PySem.W.Fast.tw7591165341998316341 : Unit := ()
def PySem.W.Fast.tw96253679110024945 : Unit := ()
def PySem.W.Fast.tw8017211444514992241 : Unit := ()
def PySem.W.Fast.tw11469711488569306223 : Unit := ()
def PySem.W.Fast.tw7943943635771645289 : Unit := ()
def PySem.W.Fast.tw9116209886806145273 : Unit := ()
def PySem.W.Fast.tw14642142061387089714 : Unit := ()
def PySem.W.Fast.tw2102496965183715601 : Unit := ()
def PySem.W.Fast.tw10676891419435354659 : Unit := ()
def PySem.W.Fast.tw16881678481531578949 : Unit := ()
def PySem.W.Fast.tw17202835280078192752 : Unit := ()
def PySem.W.Fast.tw16349138292419282567 : Unit := ()
def PySem.W.Fast.tw1853827616373463639 : Unit := ()
def PySem.W.Fast.tw12550339604552451095 : Unit := ()
def PySem.W.Fast.tw10623279053613558514 : Unit := ()
def PySem.W.Fast.tw10076829480985401965 : Unit := ()
def PySem.W.Fast.tw8880735503039722673 : Unit := ()
def PySem.W.Fast.tw15842536410978374085 : Unit := ()
def PySem.W.Fast.tw8003445918701763444 : Unit := ()
def PySem.W.Fast.tw13560412176766460563 : Unit := ()
def PySem.W.Fast.tw13028604359881055631 : Unit := ()
def PySem.W.Fast.tw14375092678034498854 : Unit := ()
def PySem.W.Fast.tw11839122712390405392 : Unit := ()
def PySem.W.Fast.tw11242091866066016291 : Unit := ()
def PySem.W.Fast.tw7495052276121355327 : Unit := ()
def PySem.W.Fast.tw5855698446555076796 : Unit := ()
def PySem.W.Fast.tw13086606335891634414 : Unit := ()
def PySem.W.Fast.tw11286170328311505882 : Unit := ()
def PySem.W.Fast.tw2295257122861412235 : Unit := ()
def PySem.W.Fast.tw12148136711335505291 : Unit := ()
def PySem.W.Fast.tw1399918338562217923 : Unit := ()
def PySem.W.Fast.tw361431343725668162 : Unit := ()
def PySem.W.Fast.tw9262160634851191937 : Unit := ()
def PySem.W.Fast.tw247989484526803918 : Unit := ()
def PySem.W.Fast.tw2573779761753468649 : Unit := ()
def PySem.W.Fast.tw3188643765760929960 : Unit := ()
def PySem.W.Fast.tw9122126986883666213 : Unit := ()
def PySem.W.Fast.tw17019255440614532988 : Unit := ()
def PySem.W.Fast.tw9870322608077564893 : Unit := ()
def PySem.W.Fast.tw17813039606318399932 : Unit := ()
def PySem.W.Fast.tw4865855769357718950 : Unit := ()
def PySem.W.Fast.tw9152876524152072923 : Unit := ()
def PySem.W.Fast.tw17045569186959620149 : Unit := ()
def PySem.W.Fast.tw12148165276994516019 : Unit := ()
def PySem.W.Fast.tw14858970233536493356 : Unit := ()
def PySem.W.Fast.tw11854385855479168707 : Unit := ()
def PySem.W.Fast.tw12297491752648213565 : Unit := ()
def PySem.W.Fast.tw5596124000188533420 : Unit := ()
def PySem.W.Fast.tw3221310180219700598 : Unit := ()
def PySem.W.Fast.tw8346161176304715005 : Unit := ()
def PySem.W.Fast.tw4906342270293959328 : Unit := ()
def PySem.W.Fast.tw7503338894277440906 : Unit := ()
def PySem.W.Fast.tw17010451579596653 : Unit := ()
def PySem.W.Fast.tw13151154671866985756 : Unit := ()
def PySem.W.Fast.tw9547882186750009312 : Unit := ()
def PySem.W.Fast.tw6717039783819731436 : Unit := ()
def PySem.W.Fast.tw10250802080032005027 : Unit := ()
def PySem.W.Fast.tw12282048199428738557 : Unit := ()
def PySem.W.Fast.tw13355095737499842214 : Unit := ()
def PySem.W.Fast.tw6907246783650337085 : Unit := ()
def PySem.W.Fast.tw1716995756358631791 : Unit := ()
def PySem.W.Fast.tw4795744173001215424 : Unit := ()
def PySem.W.Fast.tw16542771320827232343 : Unit := ()
def PySem.W.Fast.tw12993049074795696234 : Unit := ()
def PySem.W.Fast.tw10470881853811604114 : Unit := ()
def PySem.W.Fast.tw5251219352709163996 : Unit := ()
def PySem.W.Fast.tw16957939784825957130 : Unit := ()
def PySem.W.Fast.tw13334735235766681832 : Unit := ()
def PySem.W.Fast.tw10370900623715402153 : Unit := ()
def PySem.W.Fast.tw7837770883877639289 : Unit := ()
def PySem.W.Fast.tw12424680323342546377 : Unit := ()
def PySem.W.Fast.tw1716115754172429181 : Unit := ()
def PySem.W.Fast.tw15557477584381915682 : Unit := ()
def PySem.W.Fast.tw1952002036457350097 : Unit := ()
def PySem.W.Fast.tw817233683473492299 : Unit := ()
def PySem.W.Fast.tw10727047151933810442 : Unit := ()
def PySem.W.Fast.tw15125715016155544469 : Unit := ()
def PySem.W.Fast.tw14387254888246666220 : Unit := ()
def PySem.W.Fast.tw6091562347493465881 : Unit := ()
def PySem.W.Fast.tw1699666459733329778 : Unit := ()
def PySem.W.Fast.tw2419743205973710867 : Unit := ()
def PySem.W.Fast.tw16503436016640481343 : Unit := ()
def PySem.W.Fast.tw3110082940457810611 : Unit := ()
def PySem.W.Fast.tw2081245585994814456 : Unit := ()
def PySem.W.Fast.tw10543813081161915387 : Unit := ()
def PySem.W.Fast.tw14349526801544643712 : Unit := ()
def PySem.W.Fast.tw11133170125420299671 : Unit := ()
def PySem.W.Fast.tw10713390319768555716 : Unit := ()
def PySem.W.Fast.tw8901089879823074230 : Unit := ()
def PySem.W.Fast.tw11447538730342455075 : Unit := ()
def PySem.W.Fast.tw1327789063679810697 : Unit := ()
def PySem.W.Fast.tw14649620566492105236 : Unit := ()
def PySem.W.Fast.tw12617711906357441857 : Unit := ()
def PySem.W.Fast.tw16756705587116259195 : Unit := ()
def PySem.W.Fast.tw4172804076994641328 : Unit := ()
def PySem.W.Fast.tw10471005835628310350 : Unit := ()
def PySem.W.Fast.tw12589852204851620387 : Unit := ()
def PySem.W.Fast.tw10244122226413515790 : Unit := ()
def PySem.W.Fast.tw8318065221555462064 : Unit := ()
def PySem.W.Fast.tw13790487375979471641 : Unit := ()
def PySem.W.Fast.tw651638335606215618 : Unit := ()
def PySem.W.Fast.tw5103956585667772750 : Unit := ()
def PySem.W.Fast.tw12313872591107574595 : Unit := ()
def PySem.W.Fast.tw9533975834957733066 : Unit := ()
def PySem.W.Fast.tw14764110268123593922 : Unit := ()
def PySem.W.Fast.tw11026136834941220988 : Unit := ()
def PySem.W.Fast.tw17329249275329824900 : Unit := ()
def PySem.W.Fast.tw2786293627512300220 : Unit := ()
def PySem.W.Fast.tw12229653383893921864 : Unit := ()
def PySem.W.Fast.tw9040198177078206875 : Unit := ()
def PySem.W.Fast.tw17655043532998200007 : Unit := ()
def PySem.W.Fast.tw11191633025786580747 : Unit := ()
def PySem.W.Fast.tw17474526874740681127 : Unit := ()
def PySem.W.Fast.tw15092266024774347875 : Unit := ()
def PySem.W.Fast.tw7100114971711187785 : Unit := ()
def PySem.W.Fast.tw17868391184414415203 : Unit := ()
def PySem.W.Fast.tw10256811595606879597 : Unit := ()
def PySem.W.Fast.tw12457956459286320012 : Unit := ()
def PySem.W.Fast.tw14214010433169624616 : Unit := ()
def PySem.W.Fast.tw167922233929111022 : Unit := ()
def PySem.W.Fast.tw4721969086028456264 : Unit := ()
def PySem.W.Fast.tw16986775217934618564 : Unit := ()
def PySem.W.Fast.tw14214398170639146766 : Unit := ()
def PySem.W.Fast.tw9864471050072813094 : Unit := ()
def PySem.W.Fast.tw4421581811168522488 : Unit := ()
def PySem.W.Fast.tw4382814964973426595 : Unit := ()
def PySem.W.Fast.tw15940943936045921576 : Unit := ()
def PySem.W.Fast.tw6395137218390763707 : Unit := ()
def PySem.W.Fast.tw1688931347429828039 : Unit := ()
def PySem.W.Fast.tw14954259159577790316 : Unit := ()
def PySem.W.Fast.tw18083764606245430009 : Unit := ()
def PySem.W.Fast.tw5510084276199031052 : Unit := ()
def PySem.W.Fast.tw13181456615653750432 : Unit := ()
def PySem.W.Fast.tw9611535105044628486 : Unit := ()
def PySem.W.Fast.tw3412312155087890598 : Unit := ()
def PySem.W.Fast.tw8516589063180461979 : Unit := ()
def PySem.W.Fast.tw2484595074952681250 : Unit := ()
def PySem.W.Fast.tw1372363954614599961 : Unit := ()
def PySem.W.Fast.tw7504348770170787821 : Unit := ()
def PySem.W.Fast.tw4778814669681984893 : Unit := ()
def PySem.W.Fast.tw1341274791004655780 : Unit := ()
def PySem.W.Fast.tw12991772343739027719 : Unit := ()
def PySem.W.Fast.tw827276358294186502 : Unit := ()
def PySem.W.Fast.tw6196441240598456425 : Unit := ()
def PySem.W.Fast.tw5870944236413545436 : Unit := ()
def PySem.W.Fast.tw8333054110567045032 : Unit := ()
def PySem.W.Fast.tw15239198017233771079 : Unit := ()
def PySem.W.Fast.tw6684858408435160660 : Unit := ()
def PySem.W.Fast.tw15237044859485259784 : Unit := ()
def PySem.W.Fast.tw1667264422924424278 : Unit := ()
def PySem.W.Fast.tw3175894665326356357 : Unit := ()
def PySem.W.Fast.tw2078526561081752629 : Unit := ()
def PySem.W.Fast.tw9039161964378149284 : Unit := ()
def PySem.W.Fast.tw6888370471083474168 : Unit := ()
def PySem.W.Fast.tw7527177488087097362 : Unit := ()
def PySem.W.Fast.tw17762999993713294305 : Unit := ()
def PySem.W.Fast.tw8053061632526547898 : Unit := ()
def PySem.W.Fast.tw13139027521437822799 : Unit := ()
def PySem.W.Fast.tw3546524397975391165 : Unit := ()
def PySem.W.Fast.tw13072620355492593115 : Unit := ()
def PySem.W.Fast.tw5167916105564087384 : Unit := ()
def PySem.W.Fast.tw8191892275469587194 : Unit := ()
def PySem.W.Fast.tw4466044956768773639 : Unit := ()
def PySem.W.Fast.tw17057315306998475283 : Unit := ()
def PySem.W.Fast.tw12345477540392998291 : Unit := ()
def PySem.W.Fast.tw1786415544588505683 : Unit := ()
def PySem.W.Fast.tw15746402943521836728 : Unit := ()
def PySem.W.Fast.tw5626127235096204576 : Unit := ()
def PySem.W.Fast.tw10024284007257817939 : Unit := ()
def PySem.W.Fast.tw16179099233347981115 : Unit := ()
def PySem.W.Fast.tw3443850712943462278 : Unit := ()
def PySem.W.Fast.tw7472554753356357018 : Unit := ()
def PySem.W.Fast.tw8422787289621299327 : Unit := ()
def PySem.W.Fast.tw14333291676330379217 : Unit := ()
def PySem.W.Fast.tw17025103292552190993 : Unit := ()
def PySem.W.Fast.tw6264476084844891538 : Unit := ()
def PySem.W.Fast.tw15988522467365426728 : Unit := ()
def PySem.W.Fast.tw4568501930895185505 : Unit := ()
def PySem.W.Fast.tw3962774794223936793 : Unit := ()
def PySem.W.Fast.tw2687817831588711962 : Unit := ()
def PySem.W.Fast.tw14298969224776558174 : Unit := ()
def PySem.W.Fast.tw9564277177378385685 : Unit := ()
def PySem.W.Fast.tw15606028490237890379 : Unit := ()
def PySem.W.Fast.tw224399425809557090 : Unit := ()
def PySem.W.Fast.tw337577783045976169 : Unit := ()
def PySem.W.Fast.tw17072244096227418416 : Unit := ()
def PySem.W.Fast.tw12743557004995289750 : Unit := ()
def PySem.W.Fast.tw13422706398978725517 : Unit := ()
def PySem.W.Fast.tw4642579034544554278 : Unit := ()
def PySem.W.Fast.tw285661436766519758 : Unit := ()
def PySem.W.Fast.tw4374895028308827625 : Unit := ()
def PySem.W.Fast.tw5702616621248421441 : Unit := ()
def PySem.W.Fast.tw15436854832513671863 : Unit := ()
def PySem.W.Fast.tw16090434065497937848 : Unit := ()
def PySem.W.Fast.tw17246801473229162497 : Unit := ()
def PySem.W.Fast.tw2018378526787010151 : Unit := ()
def PySem.W.Fast.tw5527569074207748490 : Unit := ()
def PySem.W.Fast.tw15253771601985244567 : Unit := ()
def PySem.W.Fast.tw10393372209762382050 : Unit := ()
def PySem.W.Fast.tw18262317306527293776 : Unit := ()
def PySem.W.Fast.tw14744192372977909213 : Unit := ()
def PySem.W.Fast.tw13115013849683032275 : Unit := ()
def PySem.W.Fast.tw5528277887578181199 : Unit := ()
def PySem.W.Fast.tw9421979941493362589 : Unit := ()
def PySem.W.Fast.tw4906353656870918997 : Unit := ()
def PySem.W.Fast.tw12915031181524290423 : Unit := ()
def PySem.W.Fast.tw11705185420271348755 : Unit := ()
def PySem.W.Fast.tw865220232982315611 : Unit := ()
def PySem.W.Fast.tw13689485479212924239 : Unit := ()
def PySem.W.Fast.tw14382555974810250579 : Unit := ()
def PySem.W.Fast.tw14240489437471504589 : Unit := ()
def PySem.W.Fast.tw14832089510325516523 : Unit := ()
def PySem.W.Fast.tw6682710294199062356 : Unit := ()
def PySem.W.Fast.tw3352301307280772761 : Unit := ()
def PySem.W.Fast.tw6157100754910322129 : Unit := ()
def PySem.W.Fast.tw16101468869956599248 : Unit := ()
def PySem.W.Fast.tw12497861448977695850 : Unit := ()
def PySem.W.Fast.tw5340279277138340287 : Unit := ()
def PySem.W.Fast.tw8091823860436097611 : Unit := ()
def PySem.W.Fast.tw166895850249237367 : Unit := ()
def PySem.W.Fast.tw582648469552854925 : Unit := ()
def PySem.W.Fast.tw1565500454644846090 : Unit := ()
def PySem.W.Fast.tw13334446694125611219 : Unit := ()
def PySem.W.Fast.tw4624996600833528956 : Unit := ()
def PySem.W.Fast.tw5455846877707814036 : Unit := ()
def PySem.W.Fast.tw13668206210636882067 : Unit := ()
def PySem.W.Fast.tw13041734824386105200 : Unit := ()
def PySem.W.Fast.tw12918846731856906059 : Unit := ()
def PySem.W.Fast.tw16098711914881555488 : Unit := ()
def PySem.W.Fast.tw18152378023093676918 : Unit := ()
def PySem.W.Fast.tw9053970477154868535 : Unit := ()
def PySem.W.Fast.tw4794487201353588094 : Unit := ()
def PySem.W.Fast.tw2526383352086871843 : Unit := ()
def PySem.W.Fast.tw4490268932301512988 : Unit := ()
def PySem.W.Fast.tw15836987037577458714 : Unit := ()
def PySem.W.Fast.tw13764361528756941883 : Unit := ()
def PySem.W.Fast.tw3983673599601650564 : Unit := ()
def PySem.W.Fast.tw11099096392272428781 : Unit := ()
def PySem.W.Fast.tw13966790061302507137 : Unit := ()
def PySem.W.Fast.tw8013424171928921680 : Unit := ()
def PySem.W.Fast.tw8733225568955323670 : Unit := ()
def PySem.W.Fast.tw36176408990594643 : Unit := ()
def PySem.W.Fast.tw9666115227585081114 : Unit := ()
def PySem.W.Fast.tw1624516421225707735 : Unit := ()
def PySem.W.Fast.tw5832876790932518003 : Unit := ()
def PySem.W.Fast.tw10469807115795201090 : Unit := ()
def PySem.W.Fast.tw11387350028922928871 : Unit := ()
def PySem.W.Fast.tw7587285708095394418 : Unit := ()
def PySem.W.Fast.tw17014187353358214531 : Unit := ()
def PySem.W.Fast.tw11119219313545367742 : Unit := ()
def PySem.W.Fast.tw11394782117702183009 : Unit := ()
def PySem.W.Fast.tw6458861664356149784 : Unit := ()
def PySem.W.Fast.tw14158032067838755716 : Unit := ()
def PySem.W.Fast.tw8443145279126433622 : Unit := ()
def PySem.W.Fast.tw2022830571996179160 : Unit := ()
def PySem.W.Fast.tw194541123254484179 : Unit := ()
def PySem.W.Fast.tw284797041973883245 : Unit := ()
def PySem.W.Fast.tw2216342950647730052 : Unit := ()
def PySem.W.Fast.tw7858521958818474838 : Unit := ()
def PySem.W.Fast.tw2345058342799009323 : Unit := ()
def PySem.W.Fast.tw18246182556475216828 : Unit := ()
def PySem.W.Fast.tw5709685184832357162 : Unit := ()
def PySem.W.Fast.tw14152579285154117748 : Unit := ()
def PySem.W.Fast.tw8721463949090326222 : Unit := ()
def PySem.W.Fast.tw5164122504183229596 : Unit := ()
def PySem.W.Fast.tw13728555850018542063 : Unit := ()
def PySem.W.Fast.tw17820469970536121602 : Unit := ()
def PySem.W.Fast.tw17317952946815164262 : Unit := ()
def PySem.W.Fast.tw5823078039435891765 : Unit := ()
def PySem.W.Fast.tw11323072976250240539 : Unit := ()
def PySem.W.Fast.tw5174097981659345137 : Unit := ()
def PySem.W.Fast.tw6559342943332666521 : Unit := ()
def PySem.W.Fast.tw14217573918766289344 : Unit := ()
def PySem.W.Fast.tw14077565997607186009 : Unit := ()
def PySem.W.Fast.tw6771638690351905912 : Unit := ()
def PySem.W.Fast.tw16408890187392970186 : Unit := ()
def PySem.W.Fast.tw9860436742853976259 : Unit := ()
def PySem.W.Fast.tw4950894802270127287 : Unit := ()
def PySem.W.Fast.tw6573166167556446890 : Unit := ()
def PySem.W.Fast.tw6655222057868928784 : Unit := ()
def PySem.W.Fast.tw11036121543650809718 : Unit := ()
def PySem.W.Fast.tw2733735849143252648 : Unit := ()
def PySem.W.Fast.tw12765722684235345242 : Unit := ()
def PySem.W.Fast.tw7284786446474230684 : Unit := ()
def PySem.W.Fast.tw9365948687923839985 : Unit := ()
def PySem.W.Fast.tw10629198396745312534 : Unit := ()
def PySem.W.Fast.tw5755373891088089045 : Unit := ()
def PySem.W.Fast.tw3035343413960987456 : Unit := ()
def PySem.W.Fast.tw571376109923203244 : Unit := ()
def PySem.W.Fast.tw18213856836879209731 : Unit := ()
def PySem.W.Fast.tw7383873050578566751 : Unit := ()
def PySem.W.Fast.tw8347659274427404658 : Unit := ()
def PySem.W.Fast.tw16739031271602496606 : Unit := ()
def PySem.W.Fast.tw735011970267011741 : Unit := ()
def PySem.W.Fast.tw16008175348762367553 : Unit := ()
def PySem.W.Fast.tw8238700024025444192 : Unit := ()
def PySem.W.Fast.tw759508014479070758 : Unit := ()
def PySem.W.Fast.tw17580888145974207629 : Unit := ()
def PySem.W.Fast.tw8405244309414324563 : Unit := ()
def PySem.W.Fast.tw8087308846178283143 : Unit := ()
def PySem.W.Fast.tw14894758930098646083 : Unit := ()
def PySem.W.Fast.tw7642778971556904589 : Unit := ()
def PySem.W.Fast.tw14401959760638430515 : Unit := ()
def PySem.W.Fast.tw13997963634728662732 : Unit := ()
def PySem.W.Fast.tw2706495524353338868 : Unit := ()
def PySem.W.Fast.tw14985252221205417276 : Unit := ()
def PySem.W.Fast.tw163059138487763141 : Unit := ()
def PySem.W.Fast.tw4265995562284285995 : Unit := ()
def PySem.W.Fast.tw10459840037149648694 : Unit := ()
def PySem.W.Fast.tw7128798901367788100 : Unit := ()
def PySem.W.Fast.tw12967556574626879076 : Unit := ()
def PySem.W.Fast.tw5516587374993659770 : Unit := ()
def PySem.W.Fast.tw15693571605578807365 : Unit := ()
def PySem.W.Fast.tw5259789886867963035 : Unit := ()
def PySem.W.Fast.tw12221748108353421290 : Unit := ()
def PySem.W.Fast.tw9163774627528715586 : Unit := ()
def PySem.W.Fast.tw14667539874510475543 : Unit := ()
def PySem.W.Fast.tw16780649478451655206 : Unit := ()
def PySem.W.Fast.tw6005569890463871828 : Unit := ()
def PySem.W.Fast.tw8946925687849722956 : Unit := ()
def PySem.W.Fast.tw11723057002407581406 : Unit := ()
def PySem.W.Fast.tw14806426572414381926 : Unit := ()
def PySem.W.Fast.tw6886893080771998998 : Unit := ()
def PySem.W.Fast.tw11706962909160862553 : Unit := ()
def PySem.W.Fast.tw7814460974611876238 : Unit := ()
def PySem.W.Fast.tw6237130973228157003 : Unit := ()
def PySem.W.Fast.tw12168253580423475588 : Unit := ()
def PySem.W.Fast.tw12185513270714897882 : Unit := ()
def PySem.W.Fast.tw16741136213846352469 : Unit := ()
def PySem.W.Fast.tw4631231227151940831 : Unit := ()
def PySem.W.Fast.tw9970827407095230079 : Unit := ()
def PySem.W.Fast.tw14207785810733710800 : Unit := ()
def PySem.W.Fast.tw9072172330625020369 : Unit := ()
def PySem.W.Fast.tw7632162535344143457 : Unit := ()
def PySem.W.Fast.tw12123909206484224747 : Unit := ()
def PySem.W.Fast.tw2685121342550045329 : Unit := ()
def PySem.W.Fast.tw15865691257306927894 : Unit := ()
def PySem.W.Fast.tw13397140818235051163 : Unit := ()
def PySem.W.Fast.tw8124270631601846107 : Unit := ()
def PySem.W.Fast.tw10360721626924938959 : Unit := ()
def PySem.W.Fast.tw3435181575910597782 : Unit := ()
def PySem.W.Fast.tw7590661784768722611 : Unit := ()
def PySem.W.Fast.tw5082709907747701642 : Unit := ()
def PySem.W.Fast.tw13505690957593475708 : Unit := ()
def PySem.W.Fast.tw8013385159584956528 : Unit := ()
def PySem.W.Fast.tw2461559235471641594 : Unit := ()
def PySem.W.Fast.tw16610593967171817287 : Unit := ()
def PySem.W.Fast.tw9589587480158469971 : Unit := ()
def PySem.W.Fast.tw3335967291459381340 : Unit := ()
def PySem.W.Fast.tw14494986822866840469 : Unit := ()
def PySem.W.Fast.tw11166575496720316427 : Unit := ()
def PySem.W.Fast.tw15952384400261898419 : Unit := ()
def PySem.W.Fast.tw4856359413159729936 : Unit := ()
def PySem.W.Fast.tw6698706790875441930 : Unit := ()
def PySem.W.Fast.tw6544187143127713111 : Unit := ()
def PySem.W.Fast.tw8878426738744366747 : Unit := ()
def PySem.W.Fast.tw2288979843598701910 : Unit := ()
def PySem.W.Fast.tw2441442080465277071 : Unit := ()
def PySem.W.Fast.tw15821807664844590349 : Unit := ()
def PySem.W.Fast.tw10974492153809579225 : Unit := ()
def PySem.W.Fast.tw7177680413536897652 : Unit := ()
def PySem.W.Fast.tw12486922384669953513 : Unit := ()
def PySem.W.Fast.tw5673040884212123944 : Unit := ()
def PySem.W.Fast.tw5032066838958504744 : Unit := ()
def PySem.W.Fast.tw9272225831253212277 : Unit := ()
def PySem.W.Fast.tw15808846682969480634 : Unit := ()
def PySem.W.Fast.tw5865481631730705590 : Unit := ()
def PySem.W.Fast.tw14929305360091814107 : Unit := ()
def PySem.W.Fast.tw4428244926449073199 : Unit := ()
def PySem.W.Fast.tw1113510703028274725 : Unit := ()
def PySem.W.Fast.tw3714635418916250964 : Unit := ()
def PySem.W.Fast.tw7675688453993993568 : Unit := ()
def PySem.W.Fast.tw15116522397524365303 : Unit := ()
def PySem.W.Fast.tw4087208032771621368 : Unit := ()
def PySem.W.Fast.tw14144188817929992567 : Unit := ()
def PySem.W.Fast.tw10675352749607336416 : Unit := ()
def PySem.W.Fast.tw17638853161592905664 : Unit := ()
def PySem.W.Fast.tw2685058284806455598 : Unit := ()
def PySem.W.Fast.tw3766233693988667852 : Unit := ()
def PySem.W.Fast.tw10063995010315826481 : Unit := ()
def PySem.W.Fast.tw3616256757151926777 : Unit := ()
def PySem.W.Fast.tw15928695798231923508 : Unit := ()
def PySem.W.Fast.tw17663747615434635891 : Unit := ()
def PySem.W.Fast.tw5246084767473555150 : Unit := ()
def PySem.W.Fast.tw13034134635596995277 : Unit := ()
def PySem.W.Fast.tw15604830492421500821 : Unit := ()
def PySem.W.Fast.tw4861588446097351724 : Unit := ()
def PySem.W.Fast.tw16225255972171350935 : Unit := ()
def PySem.W.Fast.tw46252948640721704 : Unit := ()
def PySem.W.Fast.tw4434642887656653510 : Unit := ()
def PySem.W.Fast.tw3872018067498898688 : Unit := ()
def PySem.W.Fast.tw17878794087745860281 : Unit := ()
def PySem.W.Fast.tw2382874695058327232 : Unit := ()
def PySem.W.Fast.tw439752595484559190 : Unit := ()
def PySem.W.Fast.tw17296248109327638933 : Unit := ()
def PySem.W.Fast.tw5997784475855552216 : Unit := ()
def PySem.W.Fast.tw11995527979981821848 : Unit := ()
def PySem.W.Fast.tw11524574574717060579 : Unit := ()
def PySem.W.Fast.tw8653209430474148926 : Unit := ()
def PySem.W.Fast.tw6567748862297400278 : Unit := ()
def PySem.W.Fast.tw12166107315917414215 : Unit := ()
def PySem.W.Fast.tw2508206402125868402 : Unit := ()
def PySem.W.Fast.tw597666440594112758 : Unit := ()
def PySem.W.Fast.tw17812918998942527279 : Unit := ()
def PySem.W.Fast.tw12886415301859099090 : Unit := ()
def PySem.W.Fast.tw17696287885005931884 : Unit := ()
def PySem.W.Fast.tw5751898127507436216 : Unit := ()
def PySem.W.Fast.tw16318727423928365752 : Unit := ()
def PySem.W.Fast.tw2922162988785503585 : Unit := ()
def PySem.W.Fast.tw199028945166094893 : Unit := ()
def PySem.W.Fast.tw10841420202081849401 : Unit := ()
def PySem.W.Fast.tw6080511885143582781 : Unit := ()
def PySem.W.Fast.tw13502902167388340555 : Unit := ()
def PySem.W.Fast.tw12710421347714810898 : Unit := ()
def PySem.W.Fast.tw17825271698746461927 : Unit := ()
def PySem.W.Fast.tw9825810783970342440 : Unit := ()
def PySem.W.Fast.tw16608324383368413284 : Unit := ()
def PySem.W.Fast.tw6878651073558520677 : Unit := ()
def PySem.W.Fast.tw864115770914977936 : Unit := ()
def PySem.W.Fast.tw13079769111578567966 : Unit := ()
def PySem.W.Fast.tw516546874721113233 : Unit := ()
def PySem.W.Fast.tw14339472666182562204 : Unit := ()
def PySem.W.Fast.tw5610857380460297765 : Unit := ()
def PySem.W.Fast.tw832685961149050308 : Unit := ()
def PySem.W.Fast.tw16123812791164157642 : Unit := ()
def PySem.W.Fast.tw15831035552379926675 : Unit := ()
def PySem.W.Fast.tw1368295000248161027 : Unit := ()
def PySem.W.Fast.tw6299148604626495936 : Unit := ()
def PySem.W.Fast.tw2428098684570456258 : Unit := ()
def PySem.W.Fast.tw9202634397263917922 : Unit := ()
def PySem.W.Fast.tw2592124131888776656 : Unit := ()
def PySem.W.Fast.tw3664910268338563956 : Unit := ()
def PySem.W.Fast.tw2166058999360077957 : Unit := ()
def PySem.W.Fast.tw9590942287080029645 : Unit := ()
def PySem.W.Fast.tw15076839793776704844 : Unit := ()
def PySem.W.Fast.tw15479582624933462386 : Unit := ()
def PySem.W.Fast.tw10800349248030514518 : Unit := ()
def PySem.W.Fast.tw6127464756521340509 : Unit := ()
def PySem.W.Fast.tw12048305861177381033 : Unit := ()
def PySem.W.Fast.tw4537495478682249825 : Unit := ()
def PySem.W.Fast.tw2215052985717579853 : Unit := ()
def PySem.W.Fast.tw7658907388553220901 : Unit := ()
def PySem.W.Fast.tw6249532760072395714 : Unit := ()
def PySem.W.Fast.tw16470359938496183886 : Unit := ()
def PySem.W.Fast.tw14979088342584228975 : Unit := ()
def PySem.W.Fast.tw9286432421713345525 : Unit := ()
def PySem.W.Fast.tw17669751868567042597 : Unit := ()
def PySem.W.Fast.tw12118910461522487092 : Unit := ()
def PySem.W.Fast.tw1464772840758480616 : Unit := ()
def PySem.W.Fast.tw5105687754906808396 : Unit := ()
def PySem.W.Fast.tw1930376227515280291 : Unit := ()
def PySem.W.Fast.tw3691833093509961487 : Unit := ()
def PySem.W.Fast.tw15510243937135419701 : Unit := ()
def PySem.W.Fast.tw6979822638659363954 : Unit := ()
def PySem.W.Fast.tw16387370989806995280 : Unit := ()
def PySem.W.Fast.tw2852172834618010350 : Unit := ()
def PySem.W.Fast.tw15371332915352275066 : Unit := ()
def PySem.W.Fast.tw6071356374067483514 : Unit := ()
def PySem.W.Fast.tw15362175101360924556 : Unit := ()
def PySem.W.Fast.tw10010118273227175476 : Unit := ()
def PySem.W.Fast.tw3303457242605035267 : Unit := ()
def PySem.W.Fast.tw9168147577656217078 : Unit := ()
def PySem.W.Fast.tw12656218371203046376 : Unit := ()
def PySem.W.Fast.tw13903319715854519638 : Unit := ()
def PySem.W.Fast.tw8059904127027997905 : Unit := ()
def PySem.W.Fast.tw3937978018440431259 : Unit := ()
def PySem.W.Fast.tw1560757810247382424 : Unit := ()
def PySem.W.Fast.tw1212548771619294671 : Unit := ()
def PySem.W.Fast.tw5722136594915528309 : Unit := ()
def PySem.W.Fast.tw17058217486624702126 : Unit := ()
def PySem.W.Fast.tw11759461900414786482 : Unit := ()
def PySem.W.Fast.tw8190548813445258912 : Unit := ()
def PySem.W.Fast.tw17421558583583608752 : Unit := ()
def PySem.W.Fast.tw7356882282234364383 : Unit := ()
def PySem.W.Fast.tw7256077844052386113 : Unit := ()
def PySem.W.Fast.tw16624680712411402118 : Unit := ()
def PySem.W.Fast.tw15979093845289438823 : Unit := ()
def PySem.W.Fast.tw3085570445182413836 : Unit := ()
def PySem.W.Fast.tw16663221092471773917 : Unit := ()
def PySem.W.Fast.tw2727152493282296453 : Unit := ()
def PySem.W.Fast.tw10569957012960076281 : Unit := ()
def PySem.W.Fast.tw10150431555752689666 : Unit := ()
def PySem.W.Fast.tw13672736151091202679 : Unit := ()
def PySem.W.Fast.tw6255581497627428340 : Unit := ()
def PySem.W.Fast.tw8180143078407842157 : Unit := ()
def PySem.W.Fast.tw4812664890220077024 : Unit := ()
def PySem.W.Fast.tw1503873711416547390 : Unit := ()
def PySem.W.Fast.tw9525726423552603253 : Unit := ()
def PySem.W.Fast.tw327014155684384268 : Unit := ()
def PySem.W.Fast.tw9537390473778870652 : Unit := ()
def PySem.W.Fast.tw16195877500585744823 : Unit := ()
def PySem.W.Fast.tw8467587452585879147 : Unit := ()
def PySem.W.Fast.tw7327848596278275393 : Unit := ()
def PySem.W.Fast.tw15309234908629137610 : Unit := ()
def PySem.W.Fast.tw17358318316414476989 : Unit := ()
def PySem.W.Fast.tw15396471161042419911 : Unit := ()
def PySem.W.Fast.tw7857050379638775838 : Unit := ()
def PySem.W.Fast.tw13412654484966985619 : Unit := ()
def PySem.W.Fast.tw10296759880598939181 : Unit := ()
def PySem.W.Fast.tw6227782032475251328 : Unit := ()
def PySem.W.Fast.tw6403814948253512373 : Unit := ()
def PySem.W.Fast.tw2865249854729927543 : Unit := ()
def PySem.W.Fast.tw18321392776058095410 : Unit := ()
def PySem.W.Fast.tw5863050736190752555 : Unit := ()
def PySem.W.Fast.tw5688226011203877719 : Unit := ()
def PySem.W.Fast.tw3008123178998863655 : Unit := ()
def PySem.W.Fast.tw7934568318458748987 : Unit := ()
def PySem.W.Fast.tw17773075861211800862 : Unit := ()
def PySem.W.Fast.tw2202016869548748156 : Unit := ()
def PySem.W.Fast.tw945953849405670572 : Unit := ()
def PySem.W.Fast.tw9208972679963644966 : Unit := ()
def PySem.W.Fast.tw10150955565275101049 : Unit := ()
def PySem.W.Fast.tw14044284484320592210 : Unit := ()
def PySem.W.Fast.tw13059046699271947693 : Unit := ()
def PySem.W.Fast.tw16392130519359861092 : Unit := ()
def PySem.W.Fast.tw8191047854712100030 : Unit := ()
def PySem.W.Fast.tw15220401972133192941 : Unit := ()
def PySem.W.Fast.tw10186679747349584943 : Unit := ()
def PySem.W.Fast.tw2178093746578698924 : Unit := ()
def PySem.W.Fast.tw14764594094563140301 : Unit := ()
def PySem.W.Fast.tw14163793887955356242 : Unit := ()
def PySem.W.Fast.tw8609919296932413050 : Unit := ()
def PySem.W.Fast.tw11647144727992624368 : Unit := ()
def PySem.W.Fast.tw16330363143303218421 : Unit := ()
def PySem.W.Fast.tw17746691492356963537 : Unit := ()
def PySem.W.Fast.tw14155101456696146985 : Unit := ()
def PySem.W.Fast.tw3235513567195780150 : Unit := ()
def PySem.W.Fast.tw6217687552581618855 : Unit := ()
def PySem.W.Fast.tw10659372104280173461 : Unit := ()
def PySem.W.Fast.tw12383845268544772958 : Unit := ()
def PySem.W.Fast.tw17286779729482949210 : Unit := ()
def PySem.W.Fast.tw15972627326748657201 : Unit := ()
def PySem.W.Fast.tw17758130649948653234 : Unit := ()
def PySem.W.Fast.tw15992894755615425405 : Unit := ()
def PySem.W.Fast.tw2283943444044046456 : Unit := ()
def PySem.W.Fast.tw7911649103516451840 : Unit := ()
def PySem.W.Fast.tw11318327127719829772 : Unit := ()
def PySem.W.Fast.tw2278759408780765627 : Unit := ()
def PySem.W.Fast.tw10103852864479709521 : Unit := ()
def PySem.W.Fast.tw11521925337200396459 : Unit := ()
def PySem.W.Fast.tw5764919378290383202 : Unit := ()
def PySem.W.Fast.tw13676481098707374098 : Unit := ()
def PySem.W.Fast.tw11508363587017472509 : Unit := ()
def PySem.W.Fast.tw5835124523616370707 : Unit := ()
def PySem.W.Fast.tw611225463635435146 : Unit := ()
def PySem.W.Fast.tw14566883238079591425 : Unit := ()
def PySem.W.Fast.tw238420889916077658 : Unit := ()
def PySem.W.Fast.tw7289936240592737784 : Unit := ()
def PySem.W.Fast.tw8723131071246061619 : Unit := ()
def PySem.W.Fast.tw7692042416639241198 : Unit := ()
def PySem.W.Fast.tw3069919062424735685 : Unit := ()
def PySem.W.Fast.tw9891107570920824985 : Unit := ()
def PySem.W.Fast.tw1373959136379516867 : Unit := ()
def PySem.W.Fast.tw16142856205302200246 : Unit := ()
def PySem.W.Fast.tw5401171853423907346 : Unit := ()
def PySem.W.Fast.tw8298110098859031907 : Unit := ()
def PySem.W.Fast.tw4739790215378158477 : Unit := ()
def PySem.W.Fast.tw16355896555556924874 : Unit := ()
def PySem.W.Fast.tw12498295102604930764 : Unit := ()
def PySem.W.Fast.tw12666204014023090026 : Unit := ()
def PySem.W.Fast.tw3627795288017612343 : Unit := ()
def PySem.W.Fast.tw2245100038323397840 : Unit := ()
def PySem.W.Fast.tw3890089101100204319 : Unit := ()
def PySem.W.Fast.tw9529977877239480586 : Unit := ()
def PySem.W.Fast.tw16169471597956660236 : Unit := ()
def PySem.W.Fast.tw8914701746102539742 : Unit := ()
def PySem.W.Fast.tw18136376389349141575 : Unit := ()
def PySem.W.Fast.tw4972658504408642364 : Unit := ()
def PySem.W.Fast.tw2848549215113450587 : Unit := ()
def PySem.W.Fast.tw6601269570599676942 : Unit := ()
def PySem.W.Fast.tw5558004147355775757 : Unit := ()
def PySem.W.Fast.tw16977221830733009181 : Unit := ()
def PySem.W.Fast.tw10819400592223703693 : Unit := ()
def PySem.W.Fast.tw11073460961998433519 : Unit := ()
def PySem.W.Fast.tw11569629439816490517 : Unit := ()
def PySem.W.Fast.tw78113806326231323 : Unit := ()
def PySem.W.Fast.tw12759219851702266235 : Unit := ()
def PySem.W.Fast.tw5860844566811957013 : Unit := ()
def PySem.W.Fast.tw20862532824706001 : Unit := ()
def PySem.W.Fast.tw12974618269264955074 : Unit := ()
def PySem.W.Fast.tw1719375033662382143 : Unit := ()
def PySem.W.Fast.tw14426937875516072801 : Unit := ()
def PySem.W.Fast.tw6919056961799165969 : Unit := ()
def PySem.W.Fast.tw11977563970483084220 : Unit := ()
def PySem.W.Fast.tw5004258038376664154 : Unit := ()
def PySem.W.Fast.tw3724740131521264051 : Unit := ()
def PySem.W.Fast.tw2657812058926572571 : Unit := ()
def PySem.W.Fast.tw2074160719135233716 : Unit := ()
def PySem.W.Fast.tw5343791954894700953 : Unit := ()
def PySem.W.Fast.tw2848833963239366155 : Unit := ()
def PySem.W.Fast.tw3549097131319319424 : Unit := ()
def PySem.W.Fast.tw13737513895627635927 : Unit := ()
def PySem.W.Fast.tw2540312781722932442 : Unit := ()
def PySem.W.Fast.tw3254307997338648387 : Unit := ()
def PySem.W.Fast.tw7883229530116777542 : Unit := ()
def PySem.W.Fast.tw8632935145140525882 : Unit := ()
def PySem.W.Fast.tw5876451961682188979 : Unit := ()
def PySem.W.Fast.tw658841740229394880 : Unit := ()
def PySem.W.Fast.tw4284554158340613298 : Unit := ()
def PySem.W.Fast.tw17565612671558722670 : Unit := ()
def PySem.W.Fast.tw12115114501837007360 : Unit := ()
def PySem.W.Fast.tw2334110364174343263 : Unit := ()
def PySem.W.Fast.tw3612310421124899973 : Unit := ()
def PySem.W.Fast.tw1572859894142270397 : Unit := ()
def PySem.W.Fast.tw3606080636340160407 : Unit := ()
def PySem.W.Fast.tw10942597468812324615 : Unit := ()
def PySem.W.Fast.tw6057169171710101558 : Unit := ()
def PySem.W.Fast.tw10612400118664317285 : Unit := ()
def PySem.W.Fast.tw16558216856487449661 : Unit := ()
def PySem.W.Fast.tw7537971281109840926 : Unit := ()
def PySem.W.Fast.tw13826815484309895398 : Unit := ()
def PySem.W.Fast.tw691797403520301744 : Unit := ()
def PySem.W.Fast.tw5001548652624564978 : Unit := ()
def PySem.W.Fast.tw10455276360592148430 : Unit := ()
def PySem.W.Fast.tw12687765109359871709 : Unit := ()
def PySem.W.Fast.tw908397916785208878 : Unit := ()
def PySem.W.Fast.tw6191766387023279015 : Unit := ()
def PySem.W.Fast.tw16671055067258388713 : Unit := ()
def PySem.W.Fast.tw6920849994642792458 : Unit := ()
def PySem.W.Fast.tw684328693709569850 : Unit := ()
def PySem.W.Fast.tw3621692295742945350 : Unit := ()
def PySem.W.Fast.tw7278258623612016185 : Unit := ()
def PySem.W.Fast.tw1176987584701438130 : Unit := ()
def PySem.W.Fast.tw1316264379065843432 : Unit := ()
def PySem.W.Fast.tw13061927019338130353 : Unit := ()
def PySem.W.Fast.tw6199757904984932491 : Unit := ()
def PySem.W.Fast.tw423243639389723877 : Unit := ()
def PySem.W.Fast.tw11159896481949724195 : Unit := ()
def PySem.W.Fast.tw8541788317964548980 : Unit := ()
def PySem.W.Fast.tw8456587004858973639 : Unit := ()
def PySem.W.Fast.tw15779692455448654682 : Unit := ()
def PySem.W.Fast.tw2107556218947546661 : Unit := ()
def PySem.W.Fast.tw6695261901799839328 : Unit := ()
def PySem.W.Fast.tw2043186665790155513 : Unit := ()
def PySem.W.Fast.tw13182525737589372428 : Unit := ()
def PySem.W.Fast.tw3723047944430216433 : Unit := ()
def PySem.W.Fast.tw14460754054797416541 : Unit := ()
def PySem.W.Fast.tw993870910700345930 : Unit := ()
def PySem.W.Fast.tw6717866091579229156 : Unit := ()
def PySem.W.Fast.tw16030106735517549879 : Unit := ()
def PySem.W.Fast.tw16374381379623933356 : Unit := ()
def PySem.W.Fast.tw1338293144160041511 : Unit := ()
def PySem.W.Fast.tw11694277231197681839 : Unit := ()
def PySem.W.Fast.tw2837802621733171909 : Unit := ()
def PySem.W.Fast.tw15140689064916499134 : Unit := ()
def PySem.W.Fast.tw1926097776187697205 : Unit := ()
def PySem.W.Fast.tw17588620833353832205 : Unit := ()
def PySem.W.Fast.tw8380612688443071765 : Unit := ()
def PySem.W.Fast.tw5545841494236215169 : Unit := ()
def PySem.W.Fast.tw16944663771255912128 : Unit := ()
def PySem.W.Fast.tw14868007399411121914 : Unit := ()
def PySem.W.Fast.tw2784206574631077094 : Unit := ()
def PySem.W.Fast.tw12546859306301476137 : Unit := ()
def PySem.W.Fast.tw17893621680558269269 : Unit := ()
def PySem.W.Fast.tw15362390759568390375 : Unit := ()
def PySem.W.Fast.tw10701971758970010385 : Unit := ()
def PySem.W.Fast.tw9384870455410739828 : Unit := ()
def PySem.W.Fast.tw6417780615027918734 : Unit := ()
def PySem.W.Fast.tw7332380756756131717 : Unit := ()
def PySem.W.Fast.tw11881361398927556690 : Unit := ()
def PySem.W.Fast.tw16711976143066828594 : Unit := ()
def PySem.W.Fast.tw10233958289221298335 : Unit := ()
def PySem.W.Fast.tw18025838865910342056 : Unit := ()
def PySem.W.Fast.tw10216555567149819122 : Unit := ()
def PySem.W.Fast.tw11647908997079526334 : Unit := ()
def PySem.W.Fast.tw15955377829203376696 : Unit := ()
def PySem.W.Fast.tw11880052153680917040 : Unit := ()
def PySem.W.Fast.tw5383867459173652593 : Unit := ()
def PySem.W.Fast.tw12493452151739006335 : Unit := ()
def PySem.W.Fast.tw13242379456726134484 : Unit := ()
def PySem.W.Fast.tw13080383170515673367 : Unit := ()
def PySem.W.Fast.tw6678616653638588759 : Unit := ()
def PySem.W.Fast.tw7140738071056157884 : Unit := ()
def PySem.W.Fast.tw4788907215570457158 : Unit := ()
def PySem.W.Fast.tw3166072720858391203 : Unit := ()
def PySem.W.Fast.tw14706944320965140229 : Unit := ()
def PySem.W.Fast.tw8555443518136977646 : Unit := ()
def PySem.W.Fast.tw17894578855434812918 : Unit := ()
def PySem.W.Fast.tw928460653719919787 : Unit := ()
def PySem.W.Fast.tw13476467401605330814 : Unit := ()
def PySem.W.Fast.tw6645662814509786361 : Unit := ()
def PySem.W.Fast.tw289100026679056307 : Unit := ()
def PySem.W.Fast.tw6857879971660773864 : Unit := ()
def PySem.W.Fast.tw13323447997500887513 : Unit := ()
def PySem.W.Fast.tw12503792303902151582 : Unit := ()
def PySem.W.Fast.tw3223430758143216544 : Unit := ()
def PySem.W.Fast.tw15746963998968884725 : Unit := ()
def PySem.W.Fast.tw8165595722714046563 : Unit := ()
def PySem.W.Fast.tw14691991379245415112 : Unit := ()
def PySem.W.Fast.tw3481907154286959959 : Unit := ()
def PySem.W.Fast.tw8649761194166043261 : Unit := ()
def PySem.W.Fast.tw11973014747542051696 : Unit := ()
def PySem.W.Fast.tw15191718273020153508 : Unit := ()
def PySem.W.Fast.tw10779583873956453405 : Unit := ()
def PySem.W.Fast.tw11649082461053987869 : Unit := ()
def PySem.W.Fast.tw1417800860334546345 : Unit := ()
def PySem.W.Fast.tw13758383262463818946 : Unit := ()
def PySem.W.Fast.tw16231995660546186577 : Unit := ()
def PySem.W.Fast.tw13011956677714504047 : Unit := ()
def PySem.W.Fast.tw8441776262248449446 : Unit := ()
def PySem.W.Fast.tw13592076100803973032 : Unit := ()
def PySem.W.Fast.tw18075102330281179680 : Unit := ()
def PySem.W.Fast.tw12640292346829911053 : Unit := ()
def PySem.W.Fast.tw1140375545576212763 : Unit := ()
def PySem.W.Fast.tw7154974157540250954 : Unit := ()
def PySem.W.Fast.tw14133324446072392178 : Unit := ()
def PySem.W.Fast.tw32516881912098395 : Unit := ()
def PySem.W.Fast.tw5154468837015375956 : Unit := ()
def PySem.W.Fast.tw5876403224101985779 : Unit := ()
def PySem.W.Fast.tw12032823140165135815 : Unit := ()
def PySem.W.Fast.tw9061628658065166869 : Unit := ()
def PySem.W.Fast.tw10923730842348228876 : Unit := ()
def PySem.W.Fast.tw6987061081875710970 : Unit := ()
def PySem.W.Fast.tw4973255636409588308 : Unit := ()
def PySem.W.Fast.tw6110880572360110186 : Unit := ()
def PySem.W.Fast.tw12334065826930973428 : Unit := ()
def PySem.W.Fast.tw12940078712260265004 : Unit := ()
def PySem.W.Fast.tw7060747532651883133 : Unit := ()
def PySem.W.Fast.tw16336799021089073153 : Unit := ()
def PySem.W.Fast.tw16363388471845480097 : Unit := ()
def PySem.W.Fast.tw12326906797798658625 : Unit := ()
def PySem.W.Fast.tw15530942162224674191 : Unit := ()
def PySem.W.Fast.tw14107571395641322542 : Unit := ()
def PySem.W.Fast.tw60801951298314744 : Unit := ()
def PySem.W.Fast.tw5259778663390505251 : Unit := ()
def PySem.W.Fast.tw14069173226908407519 : Unit := ()
def PySem.W.Fast.tw1720916141848574443 : Unit := ()
def PySem.W.Fast.tw2773686152735146765 : Unit := ()
def PySem.W.Fast.tw2676311193781304074 : Unit := ()
def PySem.W.Fast.tw3934334261271271530 : Unit := ()
def PySem.W.Fast.tw4158442101900119225 : Unit := ()
def PySem.W.Fast.tw7440834717917160414 : Unit := ()
def PySem.W.Fast.tw11108862655044947348 : Unit := ()
def PySem.W.Fast.tw1205759166762072197 : Unit := ()
def PySem.W.Fast.tw8092798612062148091 : Unit := ()
def PySem.W.Fast.tw16787274120809852986 : Unit := ()
def PySem.W.Fast.tw13564883901546840394 : Unit := ()
def PySem.W.Fast.tw7896017901695608685 : Unit := ()
def PySem.W.Fast.tw5631281847512087313 : Unit := ()
def PySem.W.Fast.tw16326357294695514796 : Unit := ()
def PySem.W.Fast.tw15636014948258925698 : Unit := ()
def PySem.W.Fast.tw9789948788362371634 : Unit := ()
def PySem.W.Fast.tw15820967848626571435 : Unit := ()
def PySem.W.Fast.tw6389135911201243847 : Unit := ()
def PySem.W.Fast.tw3649632621770627513 : Unit := ()
def PySem.W.Fast.tw64443853253285141 : Unit := ()
def PySem.W.Fast.tw17112589892153247281 : Unit := ()
def PySem.W.Fast.tw8617060237297151968 : Unit := ()
def PySem.W.Fast.tw16681622311707245386 : Unit := ()
def PySem.W.Fast.tw11072550598093001204 : Unit := ()
def PySem.W.Fast.tw3808106702970924856 : Unit := ()
def PySem.W.Fast.tw5359103344106796013 : Unit := ()
def PySem.W.Fast.tw5935928766736164775 : Unit := ()
def PySem.W.Fast.tw11142679156982741718 : Unit := ()
def PySem.W.Fast.tw8034909234875287382 : Unit := ()
def PySem.W.Fast.tw777929862921797164 : Unit := ()
def PySem.W.Fast.tw6559867616193174149 : Unit := ()
def PySem.W.Fast.tw2061141952935515794 : Unit := ()
def PySem.W.Fast.tw16056005981765077911 : Unit := ()
def PySem.W.Fast.tw15997161773974338434 : Unit := ()
def PySem.W.Fast.tw12235860666299867355 : Unit := ()
def PySem.W.Fast.tw2321535530779936137 : Unit := ()
def PySem.W.Fast.tw9596494777368859450 : Unit := ()
def PySem.W.Fast.tw5497411468659829696 : Unit := ()
def PySem.W.Fast.tw7716835479866581499 : Unit := ()
def PySem.W.Fast.tw9200478292410234936 : Unit := ()
def PySem.W.Fast.tw4641064342755858940 : Unit := ()
def PySem.W.Fast.tw12364702881352125841 : Unit := ()
def PySem.W.Fast.tw4280141918233143117 : Unit := ()
def PySem.W.Fast.tw11256887537704292553 : Unit := ()
def PySem.W.Fast.tw14773105678186504190 : Unit := ()
def PySem.W.Fast.tw6494357520002656332 : Unit := ()
def PySem.W.Fast.tw10295571458167557630 : Unit := ()
def PySem.W.Fast.tw8350234699262084483 : Unit := ()
def PySem.W.Fast.tw4226110780117180255 : Unit := ()
def PySem.W.Fast.tw7278553592346497513 : Unit := ()
def PySem.W.Fast.tw15524389135515623268 : Unit := ()
def PySem.W.Fast.tw16369101733004605903 : Unit := ()
def PySem.W.Fast.tw15033078748219623926 : Unit := ()
def PySem.W.Fast.tw17160648454419138139 : Unit := ()
def PySem.W.Fast.tw9813806012139914201 : Unit := ()
def PySem.W.Fast.tw6514459978527518130 : Unit := ()
def PySem.W.Fast.tw8925047694877509130 : Unit := ()
def PySem.W.Fast.tw1627461521321455022 : Unit := ()
def PySem.W.Fast.tw353413512182380101 : Unit := ()
def PySem.W.Fast.tw6150747290236841555 : Unit := ()
def PySem.W.Fast.tw13964693794535596444 : Unit := ()
def PySem.W.Fast.tw16655415806161958507 : Unit := ()
def PySem.W.Fast.tw10393479153070523523 : Unit := ()
def PySem.W.Fast.tw3049785320949097146 : Unit := ()
def PySem.W.Fast.tw15146804355495028952 : Unit := ()
def PySem.W.Fast.tw17347150020725547660 : Unit := ()
def PySem.W.Fast.tw10585342057408724256 : Unit := ()
def PySem.W.Fast.tw14792474255118087556 : Unit := ()
def PySem.W.Fast.tw6407636849495564001 : Unit := ()
def PySem.W.Fast.tw13698205459035560145 : Unit := ()
def PySem.W.Fast.tw14103581740965960723 : Unit := ()
def PySem.W.Fast.tw5123312967694856595 : Unit := ()
def PySem.W.Fast.tw15309479804761555656 : Unit := ()
def PySem.W.Fast.tw16093754688925839262 : Unit := ()
def PySem.W.Fast.tw18432628787103969800 : Unit := ()
def PySem.W.Fast.tw10821038854192205070 : Unit := ()
def PySem.W.Fast.tw4179931870163939898 : Unit := ()
def PySem.W.Fast.tw15978963599597461853 : Unit := ()
def PySem.W.Fast.tw10866267939771045105 : Unit := ()
def PySem.W.Fast.tw7142781906191133429 : Unit := ()
def PySem.W.Fast.tw1752957412552781055 : Unit := ()
def PySem.W.Fast.tw5408142678730106383 : Unit := ()
def PySem.W.Fast.tw13824405273739169376 : Unit := ()
def PySem.W.Fast.tw14277145229244504874 : Unit := ()
def PySem.W.Fast.tw3566988396248811129 : Unit := ()
def PySem.W.Fast.tw16306109893044130992 : Unit := ()
def PySem.W.Fast.tw7760669770635090555 : Unit := ()
def PySem.W.Fast.tw4093894341074417962 : Unit := ()
def PySem.W.Fast.tw12986539919844057693 : Unit := ()
def PySem.W.Fast.tw8845658629673037500 : Unit := ()
def PySem.W.Fast.tw10421846194797366777 : Unit := ()
def PySem.W.Fast.tw18051246534161478980 : Unit := ()
def PySem.W.Fast.tw8060205667689741562 : Unit := ()
def PySem.W.Fast.tw9827127242166172756 : Unit := ()
def PySem.W.Fast.tw3575983488693711036 : Unit := ()
def PySem.W.Fast.tw13469432256313144029 : Unit := ()
def PySem.W.Fast.tw16631289570318281690 : Unit := ()
def PySem.W.Fast.tw8121282579760741040 : Unit := ()
def PySem.W.Fast.tw2623174841366177865 : Unit := ()
def PySem.W.Fast.tw12294931491291637734 : Unit := ()
def PySem.W.Fast.tw12807632976016741567 : Unit := ()
def PySem.W.Fast.tw17004257841226546370 : Unit := ()
def PySem.W.Fast.tw17090910624937517522 : Unit := ()
def PySem.W.Fast.tw9740022619413600994 : Unit := ()
def PySem.W.Fast.tw4126682534299450853 : Unit := ()
def PySem.W.Fast.tw3571441024359703682 : Unit := ()
def PySem.W.Fast.tw9471811666602272571 : Unit := ()
def PySem.W.Fast.tw15637125206542174612 : Unit := ()
def PySem.W.Fast.tw14414636160162670742 : Unit := ()
def PySem.W.Fast.tw5478351114904175369 : Unit := ()
def PySem.W.Fast.tw17896304694621179601 : Unit := ()
def PySem.W.Fast.tw14939884107141558414 : Unit := ()
def PySem.W.Fast.tw6925848831601743728 : Unit := ()
def PySem.W.Fast.tw9642915432368200072 : Unit := ()
def PySem.W.Fast.tw3116831277839090628 : Unit := ()
def PySem.W.Fast.tw17809779156915498330 : Unit := ()
def PySem.W.Fast.tw11118169838538164646 : Unit := ()
def PySem.W.Fast.tw4997334307391870524 : Unit := ()
def PySem.W.Fast.tw6166941231350386918 : Unit := ()
def PySem.W.Fast.tw10868862131278260621 : Unit := ()
def PySem.W.Fast.tw8530774881457039957 : Unit := ()
def PySem.W.Fast.tw9849197333242060549 : Unit := ()
def PySem.W.Fast.tw9980618721759557647 : Unit := ()
def PySem.W.Fast.tw6231129341543299687 : Unit := ()
def PySem.W.Fast.tw13677222743742177242 : Unit := ()
def PySem.W.Fast.tw42428397905858792 : Unit := ()
def PySem.W.Fast.tw4690839034130940055 : Unit := ()
def PySem.W.Fast.tw13103171440257886735 : Unit := ()
def PySem.W.Fast.tw1695389493713504066 : Unit := ()
def PySem.W.Fast.tw38743462798904731 : Unit := ()
def PySem.W.Fast.tw8643906813861858050 : Unit := ()
def PySem.W.Fast.tw757145448388139509 : Unit := ()
def PySem.W.Fast.tw4157314154619456473 : Unit := ()
def PySem.W.Fast.tw4849110731504803645 : Unit := ()
def PySem.W.Fast.tw8334580503914420689 : Unit := ()
def PySem.W.Fast.tw15389871508957453089 : Unit := ()
def PySem.W.Fast.tw14891585545033471840 : Unit := ()
def PySem.W.Fast.tw7621176414615643762 : Unit := ()
def PySem.W.Fast.tw12590234621132726821 : Unit := ()
def PySem.W.Fast.tw9740378435892780714 : Unit := ()
def PySem.W.Fast.tw8603653273275638461 : Unit := ()
def PySem.W.Fast.tw10824435420263994909 : Unit := ()
def PySem.W.Fast.tw1598170710237429649 : Unit := ()
def PySem.W.Fast.tw10231803678046050825 : Unit := ()
def PySem.W.Fast.tw17659440933741224555 : Unit := ()
def PySem.W.Fast.tw2029286880163400274 : Unit := ()
def PySem.W.Fast.tw9334142720955731726 : Unit := ()
def PySem.W.Fast.tw16183294509338071101 : Unit := ()
def PySem.W.Fast.tw13606383671185977297 : Unit := ()
def PySem.W.Fast.tw15595522959572832376 : Unit := ()
def PySem.W.Fast.tw16283875353510049291 : Unit := ()
def PySem.W.Fast.tw17546402821307614016 : Unit := ()
def PySem.W.Fast.tw4986653201566181405 : Unit := ()
def PySem.W.Fast.tw1967990664206914896 : Unit := ()
def PySem.W.Fast.tw757136662536360839 : Unit := ()
def PySem.W.Fast.tw14739609893378541975 : Unit := ()
def PySem.W.Fast.tw6610569974306370387 : Unit := ()
def PySem.W.Fast.tw7223625986430885323 : Unit := ()
def PySem.W.Fast.tw1097271212674652666 : Unit := ()
def PySem.W.Fast.tw9469172830524913407 : Unit := ()
def PySem.W.Fast.tw14327726748978572624 : Unit := ()
def PySem.W.Fast.tw13120831240446486571 : Unit := ()
def PySem.W.Fast.tw4979569109133037539 : Unit := ()
def PySem.W.Fast.tw13102521284679861539 : Unit := ()
def PySem.W.Fast.tw15780823398713986860 : Unit := ()
def PySem.W.Fast.tw258542074485135725 : Unit := ()
def PySem.W.Fast.tw2535645571436013693 : Unit := ()
def PySem.W.Fast.tw7903748187026543219 : Unit := ()
def PySem.W.Fast.tw3737290767110926853 : Unit := ()
def PySem.W.Fast.tw7774156926782324607 : Unit := ()
def PySem.W.Fast.tw10591074910354353729 : Unit := ()
def PySem.W.Fast.tw7155424119471526269 : Unit := ()
def PySem.W.Fast.tw2616582208789329468 : Unit := ()
def PySem.W.Fast.tw8361889162377461141 : Unit := ()
def PySem.W.Fast.tw9516727167201517203 : Unit := ()
def PySem.W.Fast.tw6514089467735747491 : Unit := ()
def PySem.W.Fast.tw584114785920470987 : Unit := ()
def PySem.W.Fast.tw14881358147954297489 : Unit := ()
def PySem.W.Fast.tw6566328029057601459 : Unit := ()
def PySem.W.Fast.tw5907237442358016618 : Unit := ()
def PySem.W.Fast.tw6458059285279944224 : Unit := ()
def PySem.W.Fast.tw15517204552703140543 : Unit := ()
def PySem.W.Fast.tw17643370042890562280 : Unit := ()
def PySem.W.Fast.tw6849653693394461979 : Unit := ()
def PySem.W.Fast.tw7749045126754522570 : Unit := ()
def PySem.W.Fast.tw14079767041612152884 : Unit := ()
def PySem.W.Fast.tw9512684852414507589 : Unit := ()
def PySem.W.Fast.tw16025744720047122797 : Unit := ()
def PySem.W.Fast.tw10265439868928164435 : Unit := ()
def PySem.W.Fast.tw18010085142406282776 : Unit := ()
def PySem.W.Fast.tw10930703658040655663 : Unit := ()
def PySem.W.Fast.tw15643253835032798003 : Unit := ()
def PySem.W.Fast.tw3304980123810806145 : Unit := ()
def PySem.W.Fast.tw5120215762813079451 : Unit := ()
def PySem.W.Fast.tw3350708437406808457 : Unit := ()
def PySem.W.Fast.tw3674285508933231057 : Unit := ()
def PySem.W.Fast.tw14000969237772233158 : Unit := ()
def PySem.W.Fast.tw8471272645859580772 : Unit := ()
def PySem.W.Fast.tw2724677581059760155 : Unit := ()
def PySem.W.Fast.tw12437899177856429539 : Unit := ()
def PySem.W.Fast.tw3964096819187758944 : Unit := ()
def PySem.W.Fast.tw11981392355539014358 : Unit := ()
def PySem.W.Fast.tw16258170965885769266 : Unit := ()
def PySem.W.Fast.tw10412926036622136588 : Unit := ()
def PySem.W.Fast.tw7005561661920402719 : Unit := ()
def PySem.W.Fast.tw4535369487014152720 : Unit := ()
def PySem.W.Fast.tw15790380862833394704 : Unit := ()
def PySem.W.Fast.tw3538211310207763523 : Unit := ()
def PySem.W.Fast.tw8427990272632599849 : Unit := ()
def PySem.W.Fast.tw4009072363395522695 : Unit := ()
def PySem.W.Fast.tw13838914921160187992 : Unit := ()
def PySem.W.Fast.tw13799943652614422139 : Unit := ()
def PySem.W.Fast.tw8528981410141663878 : Unit := ()
def PySem.W.Fast.tw1591474251508089903 : Unit := ()
def PySem.W.Fast.tw10372289935597937931 : Unit := ()
def PySem.W.Fast.tw11155565700686081566 : Unit := ()
def PySem.W.Fast.tw14220318218111477943 : Unit := ()
def PySem.W.Fast.tw2734155272094936146 : Unit := ()
def PySem.W.Fast.tw10911280735343402114 : Unit := ()
def PySem.W.Fast.tw5522503741860483006 : Unit := ()
def PySem.W.Fast.tw14648772627208806643 : Unit := ()
def PySem.W.Fast.tw9936257565440547320 : Unit := ()
def PySem.W.Fast.tw8666465699875899724 : Unit := ()
def PySem.W.Fast.tw5864374309355502669 : Unit := ()
def PySem.W.Fast.tw10959065869833031749 : Unit := ()
def PySem.W.Fast.tw10512191671901226734 : Unit := ()
def PySem.W.Fast.tw14676308900563910052 : Unit := ()
def PySem.W.Fast.tw8661360645787421507 : Unit := ()
def PySem.W.Fast.tw4101549917491381646 : Unit := ()
def PySem.W.Fast.tw8891653248231486473 : Unit := ()
def PySem.W.Fast.tw1292712983232239181 : Unit := ()
def PySem.W.Fast.tw468244968508476779 : Unit := ()
def PySem.W.Fast.tw14840644413320260050 : Unit := ()
def PySem.W.Fast.tw3577970721930901229 : Unit := ()
def PySem.W.Fast.tw7593078474277432522 : Unit := ()
def PySem.W.Fast.tw4426979820949617007 : Unit := ()
def PySem.W.Fast.tw9833546420543820896 : Unit := ()
def PySem.W.Fast.tw96048526322940823 : Unit := ()
def PySem.W.Fast.tw13741418907866225005 : Unit := ()
def PySem.W.Fast.tw3549898388735041248 : Unit := ()
def PySem.W.Fast.tw8249395437022559840 : Unit := ()
def PySem.W.Fast.tw2526303121123130436 : Unit := ()
def PySem.W.Fast.tw18235313918138465864 : Unit := ()
def PySem.W.Fast.tw12163506158473632342 : Unit := ()
def PySem.W.Fast.tw13553780628349563151 : Unit := ()
def PySem.W.Fast.tw6889295069126497707 : Unit := ()
def PySem.W.Fast.tw16441415444262187522 : Unit := ()
def PySem.W.Fast.tw16140799350987717801 : Unit := ()
def PySem.W.Fast.tw14812867928083880377 : Unit := ()
def PySem.W.Fast.tw12200763975150302469 : Unit := ()
def PySem.W.Fast.tw13419435519877970481 : Unit := ()
def PySem.W.Fast.tw5786478752954741387 : Unit := ()
def PySem.W.Fast.tw13398541675093494428 : Unit := ()
def PySem.W.Fast.tw3344382151336588873 : Unit := ()
def PySem.W.Fast.tw16966553125592573974 : Unit := ()
def PySem.W.Fast.tw1756141473135672092 : Unit := ()
def PySem.W.Fast.tw910452254479483035 : Unit := ()
def PySem.W.Fast.tw6720677182575259127 : Unit := ()
def PySem.W.Fast.tw6309824719880407206 : Unit := ()
def PySem.W.Fast.tw11116087891699122446 : Unit := ()
def PySem.W.Fast.tw1177382755383982560 : Unit := ()
def PySem.W.Fast.tw16711421543507681016 : Unit := ()
def PySem.W.Fast.tw10867325936926808891 : Unit := ()
def PySem.W.Fast.tw16627960824074543645 : Unit := ()
def PySem.W.Fast.tw8653497686336790274 : Unit := ()
def PySem.W.Fast.tw12945145573849843285 : Unit := ()
def PySem.W.Fast.tw13666248406871610789 : Unit := ()
def PySem.W.Fast.tw13663481349190862569 : Unit := ()
def PySem.W.Fast.tw9576396023292194281 : Unit := ()
def PySem.W.Fast.tw10500873365455669546 : Unit := ()
def PySem.W.Fast.tw12024947112305311628 : Unit := ()
def PySem.W.Fast.tw1572881381876340111 : Unit := ()
def PySem.W.Fast.tw3533737566063261401 : Unit := ()
def PySem.W.Fast.tw9263890072994534860 : Unit := ()
def PySem.W.Fast.tw2168772627447036779 : Unit := ()
def PySem.W.Fast.tw9472472918983158664 : Unit := ()
def PySem.W.Fast.tw14985563224971104519 : Unit := ()
def PySem.W.Fast.tw14892293936789243411 : Unit := ()
def PySem.W.Fast.tw17101043775785200573 : Unit := ()
def PySem.W.Fast.tw5822345542365171644 : Unit := ()
def PySem.W.Fast.tw10575716988722815044 : Unit := ()
def PySem.W.Fast.tw7304940957582034679 : Unit := ()
def PySem.W.Fast.tw4445968841855167237 : Unit := ()
def PySem.W.Fast.tw11433877650641338030 : Unit := ()
def PySem.W.Fast.tw145994740564344010 : Unit := ()
def PySem.W.Fast.tw6466565639163699666 : Unit := ()
def PySem.W.Fast.tw6712939594052084069 : Unit := ()
def PySem.W.Fast.tw13493232876532667824 : Unit := ()
def PySem.W.Fast.tw477518620361002307 : Unit := ()
def PySem.W.Fast.tw15809047969028519294 : Unit := ()
def PySem.W.Fast.tw1475003223611340960 : Unit := ()
def PySem.W.Fast.tw13197853017261383922 : Unit := ()
def PySem.W.Fast.tw1515880129493399966 : Unit := ()
def PySem.W.Fast.tw17804563789153290450 : Unit := ()
def PySem.W.Fast.tw6756376347229052479 : Unit := ()
def PySem.W.Fast.tw17258398555291969829 : Unit := ()
def PySem.W.Fast.tw11156243815330772140 : Unit := ()
def PySem.W.Fast.tw8177788935698878845 : Unit := ()
def PySem.W.Fast.tw4921537486881603879 : Unit := ()
def PySem.W.Fast.tw9994576334790968117 : Unit := ()
def PySem.W.Fast.tw4863352088232793928 : Unit := ()
def PySem.W.Fast.tw5142367122823237967 : Unit := ()
def PySem.W.Fast.tw8296816088789601132 : Unit := ()
def PySem.W.Fast.tw17483115773077792161 : Unit := ()
def PySem.W.Fast.tw2784815610489857394 : Unit := ()
def PySem.W.Fast.tw10668669436684890317 : Unit := ()
def PySem.W.Fast.tw1529440604434811412 : Unit := ()
def PySem.W.Fast.tw14663237412635462306 : Unit := ()
def PySem.W.Fast.tw9510664939769225711 : Unit := ()
def PySem.W.Fast.tw4402161987253758112 : Unit := ()
def PySem.W.Fast.tw9957028491350791134 : Unit := ()
def PySem.W.Fast.tw6011910083601374944 : Unit := ()
def PySem.W.Fast.tw6104039028446369056 : Unit := ()
def PySem.W.Fast.tw9013581663924434036 : Unit := ()
def PySem.W.Fast.tw11571679860782126051 : Unit := ()
def PySem.W.Fast.tw6882388075966721350 : Unit := ()
def PySem.W.Fast.tw12572854585718435738 : Unit := ()
def PySem.W.Fast.tw17293631250548767315 : Unit := ()
def PySem.W.Fast.tw2903375053218070883 : Unit := ()
def PySem.W.Fast.tw16908246968528418474 : Unit := ()
def PySem.W.Fast.tw8998262177176733264 : Unit := ()
def PySem.W.Fast.tw8465504622064207565 : Unit := ()
def PySem.W.Fast.tw6268057843309417021 : Unit := ()
def PySem.W.Fast.tw14298220216941731219 : Unit := ()
def PySem.W.Fast.tw11281372710156631120 : Unit := ()
def PySem.W.Fast.tw224307152373943496 : Unit := ()
def PySem.W.Fast.tw6601183506220737111 : Unit := ()
def PySem.W.Fast.tw3548463339247272509 : Unit := ()
def PySem.W.Fast.tw331378065307115436 : Unit := ()
def PySem.W.Fast.tw1912184279900293568 : Unit := ()
def PySem.W.Fast.tw2791322868175601199 : Unit := ()
def PySem.W.Fast.tw7800815297800352397 : Unit := ()
def PySem.W.Fast.tw5602821405968349120 : Unit := ()
def PySem.W.Fast.tw13204571561142656929 : Unit := ()
def PySem.W.Fast.tw3278574303961857729 : Unit := ()
def PySem.W.Fast.tw7447714627132592917 : Unit := ()
def PySem.W.Fast.tw10067459068770929222 : Unit := ()
def PySem.W.Fast.tw17093067733413123452 : Unit := ()
def PySem.W.Fast.tw4649149338223302460 : Unit := ()
def PySem.W.Fast.tw629739589234954920 : Unit := ()
def PySem.W.Fast.tw3936316146882432949 : Unit := ()
def PySem.W.Fast.tw13305502571299797667 : Unit := ()
def PySem.W.Fast.tw6317387469586700673 : Unit := ()
def PySem.W.Fast.tw7831704242428204568 : Unit := ()
def PySem.W.Fast.tw2186800152323328227 : Unit := ()
def PySem.W.Fast.tw17051228227892060450 : Unit := ()
def PySem.W.Fast.tw126358098054447139 : Unit := ()
def PySem.W.Fast.tw18298641051233500500 : Unit := ()
def PySem.W.Fast.tw11223884865980067953 : Unit := ()
def PySem.W.Fast.tw8989876217917729916 : Unit := ()
def PySem.W.Fast.tw11391774204358116341 : Unit := ()
def PySem.W.Fast.tw3621723385693951492 : Unit := ()
def PySem.W.Fast.tw10728984694742372380 : Unit := ()
def PySem.W.Fast.tw17765415998516354292 : Unit := ()
def PySem.W.Fast.tw706331462392450490 : Unit := ()
def PySem.W.Fast.tw15933708340546849515 : Unit := ()
def PySem.W.Fast.tw11742113153253910293 : Unit := ()
def PySem.W.Fast.tw5112008722498745442 : Unit := ()
def PySem.W.Fast.tw3014530177336729186 : Unit := ()
def PySem.W.Fast.tw16467384038069829890 : Unit := ()
def PySem.W.Fast.tw2028899431429761052 : Unit := ()
def PySem.W.Fast.tw8303492953267566520 : Unit := ()
def PySem.W.Fast.tw7249565967586191456 : Unit := ()
def PySem.W.Fast.tw17672015762681494635 : Unit := ()
def PySem.W.Fast.tw12080191496153743377 : Unit := ()
def PySem.W.Fast.tw5313804940046821442 : Unit := ()
def PySem.W.Fast.tw8156909057723126557 : Unit := ()
def PySem.W.Fast.tw7519638700059472391 : Unit := ()
def PySem.W.Fast.tw8878875983856711758 : Unit := ()
def PySem.W.Fast.tw3766407786457050604 : Unit := ()
def PySem.W.Fast.tw18275329991986226880 : Unit := ()
def PySem.W.Fast.tw17731801732696933431 : Unit := ()
def PySem.W.Fast.tw9900089516516110728 : Unit := ()
def PySem.W.Fast.tw14846733274123638931 : Unit := ()
def PySem.W.Fast.tw17489300443742835048 : Unit := ()
def PySem.W.Fast.tw16447122992909069681 : Unit := ()
def PySem.W.Fast.tw10725034932510555194 : Unit := ()
def PySem.W.Fast.tw15778825544283337837 : Unit := ()
def PySem.W.Fast.tw17180496665783382089 : Unit := ()
def PySem.W.Fast.tw5116546629589749567 : Unit := ()
def PySem.W.Fast.tw1899524384539135323 : Unit := ()
def PySem.W.Fast.tw210568603428698608 : Unit := ()
def PySem.W.Fast.tw11132211186022149207 : Unit := ()
def PySem.W.Fast.tw2328057237541325042 : Unit := ()
def PySem.W.Fast.tw1906017630015238745 : Unit := ()
def PySem.W.Fast.tw1398303030694425779 : Unit := ()
def PySem.W.Fast.tw8104020244660308354 : Unit := ()
def PySem.W.Fast.tw4329393145845270568 : Unit := ()
def PySem.W.Fast.tw9759729843634294870 : Unit := ()
def PySem.W.Fast.tw7708562355383827080 : Unit := ()
def PySem.W.Fast.tw5281663611042526512 : Unit := ()
def PySem.W.Fast.tw5645593479290327241 : Unit := ()
def PySem.W.Fast.tw295561757013916795 : Unit := ()
def PySem.W.Fast.tw5830650846198111570 : Unit := ()
def PySem.W.Fast.tw11423041944769211031 : Unit := ()
def PySem.W.Fast.tw17951799170785869937 : Unit := ()
def PySem.W.Fast.tw17880060368032728136 : Unit := ()
def PySem.W.Fast.tw10402842801517894786 : Unit := ()
def PySem.W.Fast.tw14578302375314305943 : Unit := ()
def PySem.W.Fast.tw9681380136293986010 : Unit := ()
def PySem.W.Fast.tw12648717490494717048 : Unit := ()
def PySem.W.Fast.tw6397461094961681062 : Unit := ()
def PySem.W.Fast.tw326760778071648752 : Unit := ()
def PySem.W.Fast.tw3938352853009542739 : Unit := ()
def PySem.W.Fast.tw12557851035104582758 : Unit := ()
def PySem.W.Fast.tw9855692993469820825 : Unit := ()
def PySem.W.Fast.tw1020172722697992561 : Unit := ()
def PySem.W.Fast.tw10364572973653911494 : Unit := ()
def PySem.W.Fast.tw5233298131358591664 : Unit := ()
def PySem.W.Fast.tw12314681920897501265 : Unit := ()
def PySem.W.Fast.tw2566718361753911629 : Unit := ()
def PySem.W.Fast.tw10252605956192753194 : Unit := ()
def PySem.W.Fast.tw16035435925080131517 : Unit := ()
def PySem.W.Fast.tw17861443113649963309 : Unit := ()
def PySem.W.Fast.tw15458072953472746570 : Unit := ()
def PySem.W.Fast.tw11288051164582633008 : Unit := ()
def PySem.W.Fast.tw1794948389996140255 : Unit := ()
def PySem.W.Fast.tw3479851737186953350 : Unit := ()
def PySem.W.Fast.tw16688163629567604345 : Unit := ()
def PySem.W.Fast.tw17983776438436982288 : Unit := ()
def PySem.W.Fast.tw6590773816595481554 : Unit := ()
def PySem.W.Fast.tw16091198294452086876 : Unit := ()
def PySem.W.Fast.tw11251002003381409809 : Unit := ()
def PySem.W.Fast.tw6223012161835012658 : Unit := ()
def PySem.W.Fast.tw9902252344741793984 : Unit := ()
def PySem.W.Fast.tw1211189912658133614 : Unit := ()
def PySem.W.Fast.tw16592597970464297514 : Unit := ()
def PySem.W.Fast.tw18286950986266891335 : Unit := ()
def PySem.W.Fast.tw8667278658828592820 : Unit := ()
def PySem.W.Fast.tw1288284634022152041 : Unit := ()
def PySem.W.Fast.tw17278143086725698074 : Unit := ()
def PySem.W.Fast.tw17725648558493647284 : Unit := ()
def PySem.W.Fast.tw13764853586353669972 : Unit := ()
def PySem.W.Fast.tw8670774713493588877 : Unit := ()
def PySem.W.Fast.tw12610419951459293502 : Unit := ()
def PySem.W.Fast.tw12501883646648253839 : Unit := ()
def PySem.W.Fast.tw14112213566088909877 : Unit := ()
def PySem.W.Fast.tw5009600276180286139 : Unit := ()
def PySem.W.Fast.tw7513302171851963152 : Unit := ()
def PySem.W.Fast.tw6866826343829132326 : Unit := ()
def PySem.W.Fast.tw6149215687003719074 : Unit := ()
def PySem.W.Fast.tw10369967867211984615 : Unit := ()
def PySem.W.Fast.tw6413309186054671552 : Unit := ()
def PySem.W.Fast.tw13222741182276229632 : Unit := ()
def PySem.W.Fast.tw15998144300002339211 : Unit := ()
def PySem.W.Fast.tw10499883064961692445 : Unit := ()
def PySem.W.Fast.tw5835464057038517983 : Unit := ()
def PySem.W.Fast.tw6496030889363020155 : Unit := ()
def PySem.W.Fast.tw14320594565395700114 : Unit := ()
def PySem.W.Fast.tw1390341421698522783 : Unit := ()
def PySem.W.Fast.tw9166145942363451105 : Unit := ()
def PySem.W.Fast.tw473333024382815640 : Unit := ()
def PySem.W.Fast.tw4585627657868862822 : Unit := ()
def PySem.W.Fast.tw9980952717211952906 : Unit := ()
def PySem.W.Fast.tw4115820168568571300 : Unit := ()
def PySem.W.Fast.tw16877988672182155720 : Unit := ()
def PySem.W.Fast.tw14493505316713733382 : Unit := ()
def PySem.W.Fast.tw17749849792231620404 : Unit := ()
def PySem.W.Fast.tw7085736988267298996 : Unit := ()
def PySem.W.Fast.tw6323575596796870572 : Unit := ()
def PySem.W.Fast.tw12887283343594467938 : Unit := ()
def PySem.W.Fast.tw15982129115344498908 : Unit := ()
def PySem.W.Fast.tw8664748717685577409 : Unit := ()
def PySem.W.Fast.tw1715646285492245741 : Unit := ()
def PySem.W.Fast.tw17736143737343527542 : Unit := ()
def PySem.W.Fast.tw11632739878199467290 : Unit := ()
def PySem.W.Fast.tw18254051683619367003 : Unit := ()
def PySem.W.Fast.tw9989252913225778541 : Unit := ()
def PySem.W.Fast.tw2241852866319337683 : Unit := ()
def PySem.W.Fast.tw14083278390928067499 : Unit := ()
def PySem.W.Fast.tw12198938681608360692 : Unit := ()
def PySem.W.Fast.tw10068657490983406360 : Unit := ()
def PySem.W.Fast.tw15267896522345094088 : Unit := ()
def PySem.W.Fast.tw6320023541334031481 : Unit := ()
def PySem.W.Fast.tw5832166098962559641 : Unit := ()
def PySem.W.Fast.tw7839412463835865040 : Unit := ()
def PySem.W.Fast.tw16437289138935144434 : Unit := ()
def PySem.W.Fast.tw11910033549392913871 : Unit := ()
def PySem.W.Fast.tw5856193388141335239 : Unit := ()
def PySem.W.Fast.tw1780451826929519781 : Unit := ()
def PySem.W.Fast.tw18003410737290788993 : Unit := ()
def PySem.W.Fast.tw15910490560703031922 : Unit := ()
def PySem.W.Fast.tw6726212145486429761 : Unit := ()
def PySem.W.Fast.tw17856465988719601084 : Unit := ()
def PySem.W.Fast.tw15121657227511942957 : Unit := ()
def PySem.W.Fast.tw3769853949664421782 : Unit := ()
def PySem.W.Fast.tw1207452591557873360 : Unit := ()
def PySem.W.Fast.tw16996407386513620162 : Unit := ()
def PySem.W.Fast.tw12656634526795295641 : Unit := ()
def PySem.W.Fast.tw13256935650207341910 : Unit := ()
def PySem.W.Fast.tw17476614344706764114 : Unit := ()
def PySem.W.Fast.tw9627273221720354264 : Unit := ()
def PySem.W.Fast.tw8603973824389608121 : Unit := ()
def PySem.W.Fast.tw8674814310789935121 : Unit := ()
def PySem.W.Fast.tw14872589039206464035 : Unit := ()
def PySem.W.Fast.tw3685286203350031950 : Unit := ()
def PySem.W.Fast.tw16356812628011305490 : Unit := ()
def PySem.W.Fast.tw15118490088428102629 : Unit := ()
def PySem.W.Fast.tw3003456663713957105 : Unit := ()
def PySem.W.Fast.tw2228151476442069095 : Unit := ()
def PySem.W.Fast.tw18267257261139957818 : Unit := ()
def PySem.W.Fast.tw2549903781251996072 : Unit := ()
def PySem.W.Fast.tw5331342914463022976 : Unit := ()
def PySem.W.Fast.tw16702105885818141786 : Unit := ()
def PySem.W.Fast.tw12296870191213572599 : Unit := ()
def PySem.W.Fast.tw6841488609167875619 : Unit := ()
def PySem.W.Fast.tw5550368283007319921 : Unit := ()
def PySem.W.Fast.tw16354171231201050935 : Unit := ()
def PySem.W.Fast.tw8801437206198871177 : Unit := ()
def PySem.W.Fast.tw4762303017414743039 : Unit := ()
def PySem.W.Fast.tw5649968664156348358 : Unit := ()
def PySem.W.Fast.tw14206806205295764977 : Unit := ()
def PySem.W.Fast.tw4827124482478432823 : Unit := ()
def PySem.W.Fast.tw1095002446598353337 : Unit := ()
def PySem.W.Fast.tw988215728593267145 : Unit := ()
def PySem.W.Fast.tw17095712604285356527 : Unit := ()
def PySem.W.Fast.tw9098891282425701638 : Unit := ()
def PySem.W.Fast.tw2750819682229319562 : Unit := ()
def PySem.W.Fast.tw13467499175991866295 : Unit := ()
def PySem.W.Fast.tw18319982401319447620 : Unit := ()
def PySem.W.Fast.tw7266086387917528775 : Unit := ()
def PySem.W.Fast.tw15560192794493753239 : Unit := ()
def PySem.W.Fast.tw17611321214128698949 : Unit := ()
def PySem.W.Fast.tw17362178998957849147 : Unit := ()
def PySem.W.Fast.tw13034520686211906271 : Unit := ()
def PySem.W.Fast.tw5225777440662254390 : Unit := ()
def PySem.W.Fast.tw7349547362828977416 : Unit := ()
def PySem.W.Fast.tw13793764164078304563 : Unit := ()
def PySem.W.Fast.tw11884325270862286354 : Unit := ()
def PySem.W.Fast.tw15773705689050692434 : Unit := ()
def PySem.W.Fast.tw3909058350113880205 : Unit := ()
def PySem.W.Fast.tw9990992639050398586 : Unit := ()
def PySem.W.Fast.tw7692192704924302369 : Unit := ()
def PySem.W.Fast.tw6595120926703591697 : Unit := ()
namespace U
open PySem PySem.W
def hkLive (x : Obj) : Option Obj := match x with
  | ⟨_, _, .freed, _⟩ => none
  | o => some o
theorem hkLive_get {h : Heap} {a : Addr} {x : Obj} (q : h.objs[a]? = some x) : h.get? a = hkLive x := by
  unfold Heap.get?
  rw [q]
  obtain ⟨c, d, dt, sl⟩ := x
  cases dt <;> rfl
noncomputable def hkScan (l : List Obj) : Nat → List Nat → List (Option Obj) :=
  @List.rec Obj (fun _ => Nat → List Nat → List (Option Obj)) (fun _ as => as.map fun _ => none)
    (fun x _ ih k as => @List.rec Nat (fun _ => List (Option Obj)) [] (fun a t _ => @Bool.rec (fun _ => List (Option Obj)) (ih (k + 1) (a :: t)) (hkLive x :: ih (k + 1) t) (Nat.beq a k)) as) l
theorem hkScan_nil (k : Nat) (as : List Nat) : hkScan [] k as = as.map fun _ => none := rfl
theorem hkScan_cons0 (x : Obj) (l : List Obj) (k : Nat) : hkScan (x :: l) k [] = [] := rfl
theorem hkScan_cons (x : Obj) (l : List Obj) (k a : Nat) (t : List Nat) : hkScan (x :: l) k (a :: t) = if a = k then hkLive x :: hkScan l (k + 1) t else hkScan l (k + 1) (a :: t) := by
  show @Bool.rec (fun _ => List (Option Obj)) (hkScan l (k + 1) (a :: t)) (hkLive x :: hkScan l (k + 1) t) (Nat.beq a k) = _
  cases h : Nat.beq a k with
  | true => rw [if_pos (Nat.eq_of_beq_eq_true h)]
  | false => rw [if_neg (Nat.ne_of_beq_eq_false h)]
theorem hkScan_at : ∀ (l : List Obj) (k : Nat) (as : List Nat) (i a : Nat) (o : Obj), as[i]? = some a → (hkScan l k as)[i]? = some (some o) → k ≤ a ∧ ∃ y, l[a - k]? = some y ∧ hkLive y = some o
  | [], k, as, i, a, o, h1, h2 => by
    rw [hkScan_nil, List.getElem?_map, h1] at h2
    cases h2
  | x :: l, k, [], i, a, o, h1, h2 => by simp at h1
  | x :: l, k, b :: t, i, a, o, h1, h2 => by
    rw [hkScan_cons] at h2
    have up : ∀ {as : List Nat} {j : Nat}, as[j]? = some a → (hkScan l (k + 1) as)[j]? = some (some o) → k ≤ a ∧ ∃ y, (x :: l)[a - k]? = some y ∧ hkLive y = some o := fun g1 g2 => by
      obtain ⟨q1, y, q2, q3⟩ := hkScan_at l (k + 1) _ _ a o g1 g2
      refine ⟨by omega, y, ?_, q3⟩
      rw [show a - k = (a - (k + 1)) + 1 by omega, List.getElem?_cons_succ]
      exact q2
    split at h2
    · rename_i hb
      cases i with
      | zero =>
        rw [List.getElem?_cons_zero] at h1 h2
        cases h1
        subst hb
        exact ⟨Nat.le_refl _, x, by rw [Nat.sub_self]; rfl, Option.some.inj h2⟩
      | succ j =>
        rw [List.getElem?_cons_succ] at h1 h2
        exact up h1 h2
    · exact up h1 h2
theorem hk_of {K : Params → Frag} {as : List Addr} (e : ∀ P, as = (K P).map (·.1)) (w : World) (s : Shared) (x : hkScan s.heap.objs.toList 0 as = (K w.params).map fun p => some p.2) : InK K w s.heap := by
  refine InK.of e w s ?_
  refine List.ext_getElem? fun i => ?_
  have ei : as[i]? = ((K w.params)[i]?).map (·.1) := by rw [e w.params, List.getElem?_map]
  have xi : (hkScan s.heap.objs.toList 0 as)[i]? = ((K w.params)[i]?).map (fun p => some p.2) := by rw [x, List.getElem?_map]
  rw [List.getElem?_map, List.getElem?_map]
  cases hp : (K w.params)[i]? with
  | none => rw [hp] at ei; rw [ei]; rfl
  | some p =>
    rw [hp] at ei xi
    rw [ei]
    obtain ⟨_, y, q, hy⟩ := hkScan_at _ 0 as i p.1 p.2 ei xi
    rw [Nat.sub_zero, Array.getElem?_toList] at q
    show some (s.heap.get? p.1) = some (some p.2)
    rw [hkLive_get q, hy]
noncomputable def hkHook (K : Params → Frag) (as : List Addr) (e : ∀ P, as = (K P).map (·.1)) : Hook :=
  ⟨List (Option Obj), fun s => hkScan s.heap.objs.toList 0 as, fun w => (K w.params).map fun p => some p.2, InK K, hk_of e, InK.keeps⟩
theorem hkIn_of {K : Params → Frag} {as : List Addr} {e : ∀ P, as = (K P).map (·.1)} {w : World} {h : Heap} (Y : (hkHook K as e).says w h) : (K w.params).In h := Y
end U
local macro_rules | `(tactic| o_head ($_:ident $k $a $e)) => `(tactic| o_head (@U.hkHook $k $a (by as_aux_lemma => exact $e)))
set_option maxRecDepth 100000 in
set_option maxHeartbeats 0 in
theorem PySem.Challenge.cw_unseenflips_k37_rate_papers_spoilt_holds : PySem.Challenge.rw_unseenflips_k37_rate_papers_spoilt.Holds := by
  w_on; o_law; k_head; (case hw => w_witness2)
  k_fill
  refine U.walk (l := PySem.Challenge.rw_unseenflips_k37_rate_papers_spoilt) rfl rfl (fun w h Y => U.hkIn_of Y) ?F
  case F =>
    intro w mg fa h KX G hmg
    refine' U.all_mk KX G hmg ?a_is_integer ?l_is_integer ?c_is_integer ?k_is_integer ?a_is_sequence ?l_is_sequence ?c_is_sequence ?k_is_sequence ?a_is_word ?l_is_word ?c_is_word ?k_is_word ?a_is_bit ?l_is_bit ?c_is_bit ?k_is_bit ?a_tail ?l_tail ?c_tail ?k_tail ?a_common ?l_common ?c_common ?k_common ?a_lowest ?l_lowest ?c_lowest ?k_lowest ?a_is_value ?l_is_value ?c_is_value ?k_is_value ?a_move ?l_move ?c_move ?k_move ?a_moves_of ?l_moves_of ?c_moves_of ?k_moves_of ?a_walks ?l_walks ?c_walks ?k_walks ?a_least_of ?l_least_of ?c_least_of ?k_least_of ?a_rate ?l_rate ?c_rate ?k_rate ?a_is_at_most ?l_is_at_most ?c_is_at_most ?k_is_at_most ?a_rate_paper ?l_rate_paper ?c_rate_paper ?k_rate_paper ?a_is_entry ?l_is_entry ?c_is_entry ?k_is_entry ?a_is_kept ?l_is_kept ?c_is_kept ?k_is_kept ?a_rate_paper_holds ?l_rate_paper_holds ?c_rate_paper_holds ?k_rate_paper_holds ?a_is_stuff ?l_is_stuff ?c_is_stuff ?k_is_stuff ?a_are_stuffs ?l_are_stuffs ?c_are_stuffs ?k_are_stuffs ?a_l_seed ?l_l_seed ?c_l_seed ?k_l_seed ?a_l_choose ?l_l_choose ?c_l_choose ?k_l_choose ?a_l_one_of ?l_l_one_of ?c_l_one_of ?k_l_one_of ?a_l_word ?l_l_word ?c_l_word ?k_l_word ?a_l_put ?l_l_put ?c_l_put ?k_l_put ?a_l_is_rule ?l_l_is_rule ?c_l_is_rule ?k_l_is_rule ?a_l_rule ?l_l_rule ?c_l_rule ?k_l_rule ?a_l_made ?l_l_made ?c_l_made ?k_l_made ?a_l_is_paper ?l_l_is_paper ?c_l_is_paper ?k_l_is_paper ?a_l_is_entry ?l_l_is_entry ?c_l_is_entry ?k_l_is_entry ?a_l_common ?l_l_common ?c_l_common ?k_l_common ?a_l_bent ?l_l_bent ?c_l_bent ?k_l_bent ?a_law ?l_law ?c_law ?k_law ?aC_Rule ?pg_Rule ?hd_Rule ?po_Rule ?sa_Rule ?mk_Rule ?kc_Rule ?n_Rule_flag ?n_Rule_stuffs ?a_Rule_put ?i_Rule_put ?l_Rule_put ?c_Rule_put ?k_Rule_put ?a_Rule_longest ?g_Rule_longest ?t_Rule_longest ?r_Rule_longest ?l_Rule_longest ?c_Rule_longest ?a_Rule_put_in ?i_Rule_put_in ?l_Rule_put_in ?c_Rule_put_in ?k_Rule_put_in ?a_Rule_is_endless ?i_Rule_is_endless ?l_Rule_is_endless ?c_Rule_is_endless ?k_Rule_is_endless ?a_Rule_init ?i_Rule_init ?l_Rule_init ?c_Rule_init ?k_Rule_init ?dl_Rule_init ?dlE_Rule ?gBITS ?z_len ?z_abs ?z_int ?z_range ?z_max ?z_min ?z_enumerate ?z_zip ?z_dict ?z_list ?z_tuple ?z_isinstance ?z_bool ?z_str ?z_all ?z_any ?z_sum ?z_sorted ?z_repr
    (case a_is_integer => k_is)
    (case l_is_integer => k_is)
    (case c_is_integer => k_is)
    (case k_is_integer => k_is)
    (case a_is_sequence => k_is)
    (case l_is_sequence => k_is)
    (case c_is_sequence => k_is)
    (case k_is_sequence => k_is)
    (case a_is_word => k_is)
    (case l_is_word => k_is)
    (case c_is_word => k_is)
    (case k_is_word => k_is)
    (case a_is_bit => k_is)
    (case l_is_bit => k_is)
    (case c_is_bit => k_is)
    (case k_is_bit => k_is)
    (case a_tail => k_is)
    (case l_tail => k_is)
    (case c_tail => k_is)
    (case k_tail => k_is)
    (case a_common => k_is)
    (case l_common => k_is)
    (case c_common => k_is)
    (case k_common => k_is)
    (case a_lowest => k_is)
    (case l_lowest => k_is)
    (case c_lowest => k_is)
    (case k_lowest => k_is)
    (case a_is_value => k_is)
    (case l_is_value => k_is)
    (case c_is_value => k_is)
    (case k_is_value => k_is)
    (case a_move => k_is)
    (case l_move => k_is)
    (case c_move => k_is)
    (case k_move => k_is)
    (case a_moves_of => k_is)
    (case l_moves_of => k_is)
    (case c_moves_of => k_is)
    (case k_moves_of => k_is)
    (case a_walks => k_is)
    (case l_walks => k_is)
    (case c_walks => k_is)
    (case k_walks => k_is)
    (case a_least_of => k_is)
    (case l_least_of => k_is)
    (case c_least_of => k_is)
    (case k_least_of => k_is)
    (case a_rate => k_is)
    (case l_rate => k_is)
    (case c_rate => k_is)
    (case k_rate => k_is)
    (case a_is_at_most => k_is)
    (case l_is_at_most => k_is)
    (case c_is_at_most => k_is)
    (case k_is_at_most => k_is)
    (case a_rate_paper => k_is)
    (case l_rate_paper => k_is)
    (case c_rate_paper => k_is)
    (case k_rate_paper => k_is)
    (case a_is_entry => k_is)
    (case l_is_entry => k_is)
    (case c_is_entry => k_is)
    (case k_is_entry => k_is)
    (case a_is_kept => k_is)
    (case l_is_kept => k_is)
    (case c_is_kept => k_is)
    (case k_is_kept => k_is)
    (case a_rate_paper_holds => k_is)
    (case l_rate_paper_holds => k_is)
    (case c_rate_paper_holds => k_is)
    (case k_rate_paper_holds => k_is)
    (case a_is_stuff => k_is)
    (case l_is_stuff => k_is)
    (case c_is_stuff => k_is)
    (case k_is_stuff => k_is)
    (case a_are_stuffs => k_is)
    (case l_are_stuffs => k_is)
    (case c_are_stuffs => k_is)
    (case k_are_stuffs => k_is)
    (case a_l_seed => k_is)
    (case l_l_seed => k_is)
    (case c_l_seed => k_is)
    (case k_l_seed => k_is)
    (case a_l_choose => k_is)
    (case l_l_choose => k_is)
    (case c_l_choose => k_is)
    (case k_l_choose => k_is)
    (case a_l_one_of => k_is)
    (case l_l_one_of => k_is)
    (case c_l_one_of => k_is)
    (case k_l_one_of => k_is)
    (case a_l_word => k_is)
    (case l_l_word => k_is)
    (case c_l_word => k_is)
    (case k_l_word => k_is)
    (case a_l_put => k_is)
    (case l_l_put => k_is)
    (case c_l_put => k_is)
    (case k_l_put => k_is)
    (case a_l_is_rule => k_is)
    (case l_l_is_rule => k_is)
    (case c_l_is_rule => k_is)
    (case k_l_is_rule => k_is)
    (case a_l_rule => k_is)
    (case l_l_rule => k_is)
    (case c_l_rule => k_is)
    (case k_l_rule => k_is)
    (case a_l_made => k_is)
    (case l_l_made => k_is)
    (case c_l_made => k_is)
    (case k_l_made => k_is)
    (case a_l_is_paper => k_is)
    (case l_l_is_paper => k_is)
    (case c_l_is_paper => k_is)
    (case k_l_is_paper => k_is)
    (case a_l_is_entry => k_is)
    (case l_l_is_entry => k_is)
    (case c_l_is_entry => k_is)
    (case k_l_is_entry => k_is)
    (case a_l_common => k_is)
    (case l_l_common => k_is)
    (case c_l_common => k_is)
    (case k_l_common => k_is)
    (case a_l_bent => k_is)
    (case l_l_bent => k_is)
    (case c_l_bent => k_is)
    (case k_l_bent => k_is)
    (case a_law => k_is)
    (case l_law => k_is)
    (case c_law => k_is)
    (case k_law => k_is)
    (case aC_Rule => k_is)
    (case pg_Rule => k_is)
    (case hd_Rule => k_is)
    (case po_Rule => k_is)
    (case sa_Rule => k_is)
    (case mk_Rule => k_is)
    (case kc_Rule => k_is)
    (case n_Rule_flag => k_is)
    (case n_Rule_stuffs => k_is)
    (case a_Rule_put => k_is)
    (case i_Rule_put => k_is)
    (case l_Rule_put => k_is)
    (case c_Rule_put => k_is)
    (case k_Rule_put => k_is)
    (case a_Rule_longest => k_is)
    (case g_Rule_longest => k_is)
    (case t_Rule_longest => k_is)
    (case r_Rule_longest => k_is)
    (case l_Rule_longest => k_is)
    (case c_Rule_longest => k_is)
    (case a_Rule_put_in => k_is)
    (case i_Rule_put_in => k_is)
    (case l_Rule_put_in => k_is)
    (case c_Rule_put_in => k_is)
    (case k_Rule_put_in => k_is)
    (case a_Rule_is_endless => k_is)
    (case i_Rule_is_endless => k_is)
    (case l_Rule_is_endless => k_is)
    (case c_Rule_is_endless => k_is)
    (case k_Rule_is_endless => k_is)
    (case a_Rule_init => k_is)
    (case i_Rule_init => k_is)
    (case l_Rule_init => k_is)
    (case c_Rule_init => k_is)
    (case k_Rule_init => k_is)
    (case dl_Rule_init => k_is)
    (case dlE_Rule => k_is)
    (case gBITS => k_is)
    (case z_len => k_is)
    (case z_abs => k_is)
    (case z_int => k_is)
    (case z_range => k_is)
    (case z_max => k_is)
    (case z_min => k_is)
    (case z_enumerate => k_is)
    (case z_zip => k_is)
    (case z_dict => k_is)
    (case z_list => k_is)
    (case z_tuple => k_is)
    (case z_isinstance => k_is)
    (case z_bool => k_is)
    (case z_str => k_is)
    (case z_all => k_is)
    (case z_any => k_is)
    (case z_sum => k_is)
    (case z_sorted => k_is)
    (case z_repr => k_is)
#print axioms PySem.Challenge.cw_unseenflips_k37_rate_papers_spoilt_holds