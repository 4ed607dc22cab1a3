import PyProof.Rows.All
import Wide.All
import OpenK.AllK
import Wide.FinOn
import HandS.Base
import HandS.Call
import HandS.List
import HandS.Comp
import HandS.Ends
import HandS.Dict
import HandS.Iter
import HandS.Text
import KE.GoesEnum
import PyProof.Rows.SortKeyStr
import PyProof.Rows.SortStr
import KE.KDictSum
import HandS.SortOrd
import HandS.SortInts
import HandS.More
import HandS.Conv
import PyProof.DictValues
import HandS.ClsMeth
import HandS.DictComp
import HandS.Finally
import PyProof.NeKinds
import PyProof.DictUpdate
import HandS.ForMost
import HandS.SetKeys
import HandS.RevRange
import HandS.IsInst
import HandS.WideBits
import HandS.EndBits
import HandS.Walk
import HandS.Zip
import HandS.WordsDict
import PyProof.Rows.StrCase
import PyProof.P3Eq
import PySem.Challenge.RW_shownranks_k36_whole_two_roads
set_option Elab.async false
set_option linter.all false
set_option maxRecDepth 100000
set_option maxHeartbeats 4000000
namespace KR
open PySem PySem.Spec PyProof.Rows L2
/-- enumerate over a text: a new pair a sign -/
def Ites (z : Str) : It := ⟨fun i _ => i < z.cps.size, fun i H v H' => ∃ T c, v = .ref T ∧ H T = none ∧ H' = upd H T (.tup [.int (i : Nat), .str ⟨#[c]⟩]) ∧ z.cps[i]? = some c, fun i _ => z.cps.size = i⟩
/-- enumerate over a tuple -/
def Itet (K : PySem.W.Frag) (a : Addr) : It :=
  ⟨fun i H => ∃ (xs : List V) (x : V), SqT K H a xs ∧ xs[i]? = some x, fun i H v H' => ∃ T x, v = .ref T ∧ H T = none ∧ H' = upd H T (.tup [.int (i : Nat), x]) ∧ ∀ xs, SqT K H a xs → xs[i]? = some x, fun i H => ∃ xs : List V, SqT K H a xs ∧ xs.length = i⟩
/-- one step of an enumerate, over any draws -/
theorem enum_stepD {X : Cx} {pins : List (Addr × Obj)} {σ : L2.St} {H : Hp} {s : Shared} {E : Value → Shared → Prop} {elts : List Expr} {kk : Nat} {tpos : Pos} {e it : Addr} {fp : List Addr} {n i : Nat} {P : Nat → Value → Prop} {St : Nat → Heap → Prop} {old : Value}
    {R : V → Hp → Shared → Prop} {G : V → Prop}
    (D : Draws X.prog X.w X.A.in1 it fp n P St) (I : Inv X pins σ H s) (hf : ∀ b ∈ [e, it], FpOk X pins H b) (he : IsEnum s.heap e it ((i : Nat) : Int) old) (hst : St i s.heap) (hlt : i < n) (hne : e ≠ it) (hef : e ∉ fp)
    (fin : ∀ (u : Value) (h2 : Heap) (tk : Nat) (T : Addr), P i u → H T = none → IsEnum h2 e it ((i + 1 : Nat) : Int) u → St (i + 1) h2 → 
      ∀ x : V, RelV x u → G x → Inv X pins σ (upd H T (.tup [.int (i : Nat), x])) { s with heap := h2, toks := tk } → (∀ b ∈ [e, it], b ≠ T) → R (.ref T) (upd H T (.tup [.int (i : Nat), x])) { s with heap := h2, toks := tk })
    (rel : ∀ u, P i u → ∃ x : V, RelV x u ∧ G x) :
    wpAny (model X.prog X.w) X.A (pyNext (.ref e)) (fun r s1 => ∃ u, r = some u ∧
      wpAny (model X.prog X.w) X.A (letOwnedTupleGo (.Tuple elts kk tpos) (.ref e) u) (fun _ s2 => ∃ x H', Inv X pins σ H' s2 ∧ RelV x u ∧ R x H' s2) E s1) E s := by
  have hel : e < s.heap.objs.size := Heap.lt_size he
  have hil : it < s.heap.objs.size := by obtain ⟨_, y⟩ := D.live _ _ hst; exact Heap.lt_size y
  refine wpAny_pyNext_enum_itemC D he hst hlt hne hef fun u h' tk hP ho hst' hT hsz hk => ?_
  obtain ⟨x, ru, gx⟩ := rel u hP
  refine ⟨_, rfl, wpAny_letOwnedTupleGo_enum (s := { s with heap := h', toks := tk + 1 }) ho fun h'' he' sb => ?_⟩
  have hT2 : h''.get? s.heap.objs.size = some { cls := .type "tuple", data := .seq #[.int i tk, u] } := (sb.2 _ (Nat.ne_of_gt hel)).trans hT
  have new : ObjOk X.prog X.w (upd H s.heap.objs.size (.tup [.int (i : Nat), x])) h'' s.heap.objs.size (.tup [.int (i : Nat), x]) :=
    ⟨by show 2 ≤ sizeLine; decide, [.int i tk, u], .cons ⟨_, rfl⟩ (.cons ru .nil), ⟨_, hT2, rfl, _, rfl⟩⟩
  have I1 : Inv X pins σ (upd H s.heap.objs.size (.tup [.int (i : Nat), x])) { s with heap := h'', toks := tk + 1 } :=
    I.turnedNew (ch := [e, it]) (fun b ob hb q => (sb.2 b (fun z => hb (by simp [z]))).trans (hk b ob (fun z => hb (by simp [z])) (fun z => hb (by simp [z])) q)) hf (Nat.le_refl _) new
  have e1 : ((i + 1 : Nat) : Int) = (i : Int) + 1 := by omega
  refine ⟨.ref s.heap.objs.size, _, I1, rfl, fin u h'' (tk + 1) _ hP (I.hok.fresh (Nat.le_refl _)) (by rw [e1]; exact he') (D.frame _ _ _ hst' fun b hb o y => (sb.2 b fun q => hef (q ▸ hb)).trans y) x ru gx I1 fun b hb => ?_⟩
  have e' : b = e ∨ b = it := by simpa using hb
  rcases e' with z | z
  · rw [z]; exact Nat.ne_of_lt hel
  · rw [z]; exact Nat.ne_of_lt hil
theorem turn_enumS {P : Program} {w : World} {K : PySem.W.Frag} {elts : List Expr} {kk : Nat} {tpos : Pos} (z : Str) (t : Tok) (e it : Addr) :
    Turn P w K (.Tuple elts kk tpos) (Ites z) [e, it] e (fun i h => (∃ old, IsEnum h e it ((i : Nat) : Int) old) ∧ h.IsStrIter it (strIterType z) z t i ∧ e ≠ it) where
  mem := by simp
  obj := fun i h st b hb => by
    obtain ⟨⟨old, he⟩, ⟨o, ho, hc, hd⟩, _⟩ := st
    have e' : b = e ∨ b = it := by simpa using hb
    rcases e' with z | z
    · rw [z]; exact ⟨_, he, fun v q => nomatch q⟩
    · rw [z]; exact ⟨o, ho, fun v q => by rw [hd] at q; cases q⟩
  keep := fun i h h' st k => let ⟨⟨old, he⟩, ⟨o, ho, r⟩, hne⟩ := st; ⟨⟨old, k e (by simp) _ he⟩, ⟨o, k it (by simp) o ho, r⟩, hne⟩
  item := by
    intro X hP hw hK hc i pins s σ H E I hf st hg
    subst hP hw hK
    obtain ⟨⟨old, he⟩, hit, hne⟩ := st
    have D : Draws X.prog X.w X.A.in1 it [it] z.cps.size (fun i v => ∃ c u, z.cps[i]? = some c ∧ v = .str ⟨#[c]⟩ u) (fun i h => h.IsStrIter it (strIterType z) z t i) := Draws.text (A := X.A.in1) (show X.A.in1.handled = none from I.ok.hd hc) it z t
    refine enum_stepD (G := fun x => ∃ c, z.cps[i]? = some c ∧ x = .str ⟨#[c]⟩) (R := fun x H' s2 => (Ites z).yld i H x H' ∧ ((∃ old, IsEnum s2.heap e it ((i + 1 : Nat) : Int) old) ∧ s2.heap.IsStrIter it (strIterType z) z t (i + 1) ∧ e ≠ it) ∧ ∀ b ∈ [e, it], H' b = none)
      D I hf he hit hg hne (by simpa using hne) (fun u h2 tk T hPu hTn he2 hst2 x rx gx I2 hb => ⟨?_, ⟨⟨u, he2⟩, hst2, hne⟩, fun b hb' => ?_⟩) fun u ⟨c, t', hcx, hu⟩ => ⟨.str ⟨#[c]⟩, ⟨t', hu⟩, c, hcx, rfl⟩
    · obtain ⟨c, hc', rfl⟩ := gx
      exact ⟨T, c, rfl, hTn, rfl, hc'⟩
    · rw [upd_ne (hb b hb')]
      exact (hf b hb').1
  done := by
    intro X hP hw hK hc i pins s σ H E I hf st hg
    subst hP hw hK
    obtain ⟨⟨old, he⟩, hit, hne⟩ := st
    obtain ⟨f0, f1, f2, f3, f4, f5⟩ := hf it (by simp)
    have hle : z.cps.size = i := hg
    subst hle
    have D : Draws X.prog X.w X.A.in1 it [it] z.cps.size (fun i v => ∃ c u, z.cps[i]? = some c ∧ v = .str ⟨#[c]⟩ u) (fun i h => h.IsStrIter it (strIterType z) z t i) := Draws.text (A := X.A.in1) (show X.A.in1.handled = none from I.ok.hd hc) it z t
    exact wpAny_pyNext_enum_endD D he hit fun h' eb => ⟨rfl, I.turned (t' := s.toks) (fun b o hb q => eb b o hb q) f0 f1 f3 f4 f5⟩
  self := fun A i s Q E st h => let ⟨⟨_, he⟩, _⟩ := st; wpAny_pyIter_enum he h

theorem turn_enumT {P : Program} {w : World} {K : PySem.W.Frag} {elts : List Expr} {kk : Nat} {tpos : Pos} (a e it : Addr) :
    Turn P w K (.Tuple elts kk tpos) (Itet K a) [e, it] e (fun i h => (∃ old, IsEnum h e it ((i : Nat) : Int) old) ∧ h.IsTupleIter it a i ∧ e ≠ it) where
  mem := by simp
  obj := fun i h st b hb => by
    obtain ⟨⟨old, he⟩, ⟨o, ho, hc, hd⟩, _⟩ := st
    have e' : b = e ∨ b = it := by simpa using hb
    rcases e' with z | z
    · rw [z]; exact ⟨_, he, fun v q => nomatch q⟩
    · rw [z]; exact ⟨o, ho, fun v q => by rw [hd] at q; cases q⟩
  keep := fun i h h' st k => let ⟨⟨old, he⟩, hi, hne⟩ := st; ⟨⟨old, k e (by simp) _ he⟩, hi.at fun o q => k it (by simp) o q, hne⟩
  item := by
    intro X hP hw hK hc i pins s σ H E I hf st hg
    subst hP hw hK
    obtain ⟨⟨old, he⟩, hit, hne⟩ := st
    obtain ⟨xs, x0, hq, hx⟩ := hg
    obtain ⟨its, rv, p, hz⟩ := I.tuple hq
    have hil : i < its.length := by rw [← rv.length]; exact (List.getElem?_eq_some_iff.mp hx).1
    obtain ⟨ob, hob, hcb, hdb⟩ := id p
    have nae : a ≠ it := fun z => by
      obtain ⟨oi, hoi, hci, _⟩ := id hit
      rw [z, hoi] at hob
      cases hob
      rw [hci] at hcb
      exact absurd (Value.type.inj hcb) (by decide)
    have nee : e ≠ a := fun z => by
      rw [← z, show s.heap.get? e = some _ from he] at hob
      cases hob
      exact absurd (Value.type.inj hcb) (by decide)
    have D : Draws X.prog X.w X.A.in1 it [it, a] its.toArray.size (fun i v => its.toArray[i]? = some v) (fun i h => h.IsTupleIter it a i ∧ h.IsTuple a its.toArray) := Draws.tuple (A := X.A.in1) (show X.A.in1.handled = none from I.ok.hd hc) it a nae its.toArray
    refine enum_stepD (G := fun x => xs[i]? = some x) (R := fun x H' s2 => (Itet X.K a).yld i H x H' ∧ ((∃ old, IsEnum s2.heap e it ((i + 1 : Nat) : Int) old) ∧ s2.heap.IsTupleIter it a (i + 1) ∧ e ≠ it) ∧ ∀ b ∈ [e, it], H' b = none)
      D I hf he ⟨hit, p⟩ (by simpa using hil) hne (by simp [hne, nee]) (fun u h2 tk T hPu hTn he2 hst2 x rx gx I2 hb => ⟨?_, ⟨⟨u, he2⟩, hst2.1, hne⟩, fun b hb' => ?_⟩) fun u hu => ?_
    · exact ⟨T, x, rfl, hTn, rfl, fun ys hy => by rw [I.tuple_inj hy hq]; exact gx⟩
    · rw [upd_ne (hb b hb')]
      exact (hf b hb').1
    · obtain ⟨u', hu', ru'⟩ := rv.get hx
      have e1 : some u = some u' := by
        have e2 : its[i]? = some u := by simpa using hu
        rw [← e2, hu']
      cases e1
      exact ⟨x0, ru', hx⟩
  done := by
    intro X hP hw hK hc i pins s σ H E I hf st hg
    subst hP hw hK
    obtain ⟨⟨old, he⟩, hit, hne⟩ := st
    obtain ⟨f0, f1, f2, f3, f4, f5⟩ := hf it (by simp)
    obtain ⟨xs, hq, hx⟩ := hg
    obtain ⟨its, rv, p, hz⟩ := I.tuple hq
    obtain ⟨ob, hob, hcb, hdb⟩ := id p
    have nae : a ≠ it := fun z => by
      obtain ⟨oi, hoi, hci, _⟩ := id hit
      rw [z, hoi] at hob
      cases hob
      rw [hci] at hcb
      exact absurd (Value.type.inj hcb) (by decide)
    have D : Draws X.prog X.w X.A.in1 it [it, a] its.toArray.size (fun i v => its.toArray[i]? = some v) (fun i h => h.IsTupleIter it a i ∧ h.IsTuple a its.toArray) := Draws.tuple (A := X.A.in1) (show X.A.in1.handled = none from I.ok.hd hc) it a nae its.toArray
    have ei : its.toArray.size = i := by rw [List.size_toArray, ← rv.length]; exact hx
    subst ei
    exact wpAny_pyNext_enum_endD D he ⟨hit, p⟩ fun h' eb => ⟨rfl, I.turned (t' := s.toks) (fun b o hb q => eb b o hb q) f0 f1 f3 f4 f5⟩
  self := fun A i s Q E st h => let ⟨⟨_, he⟩, _⟩ := st; wpAny_pyIter_enum he h
end KR
set_option maxHeartbeats 4000000
namespace KR
open PySem PySem.Spec PyProof.Rows L2
theorem meets_enumerate_newB1 {v : Value} {o : Obj} {H : Heap → Prop} (B : Begins v o H) :
    Meets (Builtin.«enumerate.__new__» ⟨[.type "enumerate", v], []⟩) (fun _ R s => H s.heap ∧
      R (.ok (.ret (.ref (s.heap.push o).objs.size))) { s with heap := (s.heap.push o).push { cls := .type "enumerate", data := .fields #[.none, .bool false, .ref s.heap.objs.size, rawInt 0, .none, .none] } }) :=
  .of_wp fun prog w A R s h => by
    obtain ⟨hp, g, d, tk, os⟩ := s; obtain ⟨h1, h⟩ := h
    have hsub := sub_enumerate
    have q1 : ∀ {A' : Around} {E : Value → Shared → Prop} {Q : Value → Shared → Prop}, Q (.ref hp.objs.size) ⟨hp.push o, g, d, tk, os⟩ → wpAny (model prog w) A' (pyIter v) Q E ⟨hp, g, d, tk, os⟩ :=
      fun q => B.iter prog w _ _ ⟨hp, g, d, tk, os⟩ _ h1 q
    wp_walk using q1
    refine wpAny_stack_any fun st => wpAny_pure ?_
    split
    · rename_i c _ _ _ _ _
      cases (c == Value.type "enumerate")
      · wp_walk using q1
        exact ⟨_, rfl, h⟩
      · wp_walk using q1
        exact ⟨_, rfl, h⟩
    · wp_walk using q1
      exact ⟨_, rfl, h⟩
theorem enum_begins1 {prog : Program} {w : World} {A : Around} {E : Value → Shared → Prop} {s : Shared} {v : Value} {o : Obj} {H : Heap → Prop} {Q : Value → Shared → Prop} (B : Begins v o H) (h1 : H s.heap)
    (h : ∀ h', IsEnum h' (s.heap.objs.size + 1) s.heap.objs.size 0 .none → h'.get? s.heap.objs.size = some o → h'.objs.size = s.heap.objs.size + 2 →
      (∀ b o, s.heap.get? b = some o → h'.get? b = some o) → Q (.ref (s.heap.objs.size + 1)) { s with heap := h' }) :
    wpAny (model prog w) A (call (.type "enumerate") [v]) Q E s := by
  refine callType_new F.called_enumerate (by decide) (F.typeCall_enumerate_1 _) (F.newCall_enumerate_1 _) (fun obj => F.args_object_init_2 obj _) F.entry_enumerate_new
    (meets_enumerate_newB1 B) ⟨h1, ?_⟩
  have hz : (s.heap.push o).objs.size = s.heap.objs.size + 1 := Heap.size_push ..
  show _ ∧ _
  rw [hz]
  have he : IsEnum ((s.heap.push o).push { cls := .type "enumerate", data := .fields #[.none, .bool false, .ref s.heap.objs.size, rawInt 0, .none, .none] }) (s.heap.objs.size + 1) s.heap.objs.size 0 .none := by
    have := Heap.get?_push_size (s.heap.push o) (o := { cls := .type "enumerate", data := .fields #[.none, .bool false, .ref s.heap.objs.size, rawInt 0, .none, .none] }) rfl
    rw [hz] at this; exact this
  refine ⟨⟨_, he, rfl⟩, h _ he (Heap.get?_push_of_some _ (Heap.get?_push_size _ B.free)) (by rw [Heap.size_push, hz]) fun b o x => Heap.get?_push_of_some _ (Heap.get?_push_of_some _ x)⟩
/-- enumerate(a text) -/
def iEnumS (ta : TA) : TI := fun σ H R => ta σ H fun vs H1 => ∃ z, vs = [.str z] ∧ R (Ites z) H1
theorem pi_enumS {X : Cx} {e : Expr} {ta : TA} {p pos tpos : Pos} {elts : List Expr} {kk : Nat} (hg : Gl X "enumerate") (hm : X.mg "enumerate" = none) (ha : PA X [e] ta) (hs : starEach [e] X.env = [(false, eval e X.env)] := by rfl) :
    PI X (.Tuple elts kk tpos) (.Call (.Name "enumerate" p) [e] [] pos) (iEnumS ta) := by
  refine ⟨fun pins s σ H R I h => ?_⟩
  refine Call_ (ld_blt I hg hm boot_enumerate (PyProof.Rows.callWith_type1 (thn (ha.run pos pins s σ H _ I h) fun us s1 ⟨vs, H1, I1, r1, q1⟩ => ?_) hs rfl))
  obtain ⟨z, ex, q⟩ := q1
  subst ex
  cases r1 with
  | cons r rr =>
    cases rr
    obtain ⟨t, rfl⟩ := r
    refine call_enumerate_str fun h' he hit hsz hk => wpAny_pyIter_enum he ?_
    have I2 : Inv X pins σ H1 { s1 with heap := h' } := I1.kept (t' := s1.toks) hk
    refine ⟨s1.heap.objs.size + 1, [s1.heap.objs.size + 1, s1.heap.objs.size], _, _, H1, rfl, I2, turn_enumS z t (s1.heap.objs.size + 1) s1.heap.objs.size, ⟨⟨.none, he⟩, hit, Nat.succ_ne_self _⟩, fun b hb => ?_, q⟩
    have e' : b = s1.heap.objs.size + 1 ∨ b = s1.heap.objs.size := by simpa using hb
    have hle : s1.heap.objs.size ≤ b := by
      rcases e' with z | z
      · rw [z]; exact Nat.le_add_right _ _
      · rw [z]; exact Nat.le_refl _
    exact I1.fpOk hle (I1.hok.fresh hle)
/-- enumerate(a tuple) -/
def iEnumT (K : PySem.W.Frag) (ta : TA) : TI := fun σ H R => ta σ H fun vs H1 => ∃ a xs, vs = [.ref a] ∧ SqT K H1 a xs ∧ R (Itet K a) H1
theorem pi_enumT {X : Cx} {e : Expr} {ta : TA} {p pos tpos : Pos} {elts : List Expr} {kk : Nat} (hg : Gl X "enumerate") (hm : X.mg "enumerate" = none) (ha : PA X [e] ta) (hs : starEach [e] X.env = [(false, eval e X.env)] := by rfl) :
    PI X (.Tuple elts kk tpos) (.Call (.Name "enumerate" p) [e] [] pos) (iEnumT X.K ta) := by
  refine ⟨fun pins s σ H R I h => ?_⟩
  refine Call_ (ld_blt I hg hm boot_enumerate (PyProof.Rows.callWith_type1 (thn (ha.run pos pins s σ H _ I h) fun us s1 ⟨vs, H1, I1, r1, q1⟩ => ?_) hs rfl))
  obtain ⟨a, xs, ex, hq, q⟩ := q1
  subst ex
  cases r1 with
  | cons r rr =>
    cases rr
    cases r
    obtain ⟨its, rv, p', hz⟩ := I1.tuple hq
    refine enum_begins1 (begins_tuple a its.toArray) p' fun h' he hit hsz hk => wpAny_pyIter_enum he ?_
    have I2 : Inv X pins σ H1 { s1 with heap := h' } := I1.kept (t' := s1.toks) hk
    refine ⟨s1.heap.objs.size + 1, [s1.heap.objs.size + 1, s1.heap.objs.size], _, _, H1, rfl, I2, turn_enumT a (s1.heap.objs.size + 1) s1.heap.objs.size, ⟨⟨.none, he⟩, ⟨_, hit, rfl, rfl⟩, Nat.succ_ne_self _⟩, fun b hb => ?_, q⟩
    have e' : b = s1.heap.objs.size + 1 ∨ b = s1.heap.objs.size := by simpa using hb
    have hle : s1.heap.objs.size ≤ b := by
      rcases e' with z | z
      · rw [z]; exact Nat.le_add_right _ _
      · rw [z]; exact Nat.le_refl _
    exact I1.fpOk hle (I1.hok.fresh hle)
end KR
set_option maxHeartbeats 4000000
namespace KR
open PySem PySem.Spec PyProof.Rows L2
/-- texts by their code points -/
def leS (a b : Str) : Bool := !decide (b.cps.toList < a.cps.toList)
def ssort (xs : List Str) : List Str := xs.mergeSort leS
theorem leS_total (a b : Str) : (leS a b || leS b a) = true := by
  unfold leS
  by_cases h : b.cps.toList < a.cps.toList
  · have h' : ¬ a.cps.toList < b.cps.toList := List.lt_asymm h
    simp [h, h']
  · simp [h]
theorem leS_trans (a b c : Str) (h1 : leS a b = true) (h2 : leS b c = true) : leS a c = true := by
  unfold leS at *
  simp only [Bool.not_eq_true', decide_eq_false_iff_not] at *
  exact List.not_lt.mpr (List.le_trans (List.not_lt.mp h1) (List.not_lt.mp h2))
theorem leS_antisymm {a b : Str} (h1 : leS a b = true) (h2 : leS b a = true) : a = b := by
  unfold leS at *
  simp only [Bool.not_eq_true', decide_eq_false_iff_not] at *
  have e : a.cps.toList = b.cps.toList := List.le_antisymm (List.not_lt.mp h1) (List.not_lt.mp h2)
  cases a; cases b
  simp only at e
  congr
  exact Array.ext' e
theorem ssort_perm (xs : List Str) : (ssort xs).Perm xs := List.mergeSort_perm xs leS
theorem ssort_sorted (xs : List Str) : (ssort xs).Pairwise (fun a b => leS a b = true) := List.pairwise_mergeSort leS_trans (fun a b => leS_total a b) xs
theorem sorted_unique : ∀ {xs ys : List Str}, xs.Perm ys → xs.Pairwise (fun a b => leS a b = true) → ys.Pairwise (fun a b => leS a b = true) → xs = ys
  | xs, ys, p, h1, h2 => List.Perm.eq_of_pairwise (le := fun a b => leS a b = true) (fun a b _ _ x y => leS_antisymm x y) h1 h2 p
theorem ssort_eq {xs ys : List Str} (p : ys.Perm xs) (h : ys.Pairwise (fun a b => leS a b = true)) : ys = ssort xs :=
  sorted_unique (p.trans (ssort_perm xs).symm) h (ssort_sorted xs)
theorem ssort_congr {xs ys : List Str} (p : xs.Perm ys) : ssort xs = ssort ys := (ssort_eq ((ssort_perm xs).trans p) (ssort_sorted xs))
theorem ssort_idem (xs : List Str) : ssort (ssort xs) = ssort xs := ssort_congr (ssort_perm xs)
/-! ### sorting of texts, any number -/
def sv : Value → Str
  | .str x _ => x
  | _ => ⟨#[]⟩
def ltSv (v u : Value) : Bool := decide ((sv v).cps.toList < (sv u).cps.toList)
theorem swo_str : SrtO.Swo ltSv := by
  refine ⟨fun x y h => ?_, fun x y z h1 h2 => ?_⟩
  · have a := of_decide_eq_true (p := (sv x).cps.toList < (sv y).cps.toList) h
    exact decide_eq_false (p := (sv y).cps.toList < (sv x).cps.toList) (List.lt_asymm a)
  · have a : leS (sv x) (sv y) = true := by unfold leS; rw [show decide ((sv y).cps.toList < (sv x).cps.toList) = false from h1]; rfl
    have b : leS (sv y) (sv z) = true := by unfold leS; rw [show decide ((sv z).cps.toList < (sv y).cps.toList) = false from h2]; rfl
    have c := leS_trans _ _ _ a b
    unfold leS at c
    have d : decide ((sv z).cps.toList < (sv x).cps.toList) = false := by simpa using c
    exact d
theorem strs_mem : ∀ {vs : List Value} {ns : List Str}, StrsAre vs ns → ∀ v ∈ vs, ∃ i t, v = Value.str i t
  | _, _, .nil, v, h => absurd h (by simp)
  | _, _, .cons n t r, v, h => by
    rcases List.mem_cons.mp h with e | h
    · exact ⟨n, t, e⟩
    · exact strs_mem r v h
theorem strs_sv : ∀ {vs : List Value}, (∀ v ∈ vs, ∃ i t, v = Value.str i t) → StrsAre vs (vs.map sv)
  | [], _ => .nil
  | v :: vs, h => by
    obtain ⟨i, t, e⟩ := h v List.mem_cons_self
    subst e
    exact .cons i t (strs_sv fun u hu => h u (List.mem_cons_of_mem _ hu))
theorem sv_strs : ∀ {vs : List Value} {ns : List Str}, StrsAre vs ns → vs.map sv = ns
  | _, _, .nil => rfl
  | _, _, .cons n t r => congrArg (n :: ·) (sv_strs r)
section
variable {prog : Program} {w : World} {A : Around} {E : Value → Shared → Prop} {s : Shared}
theorem str_cmp {vs : List Value} {ns : List Str} (hI : StrsAre vs ns) : SrtO.Cmp prog w A s oneType' (fun p => p.1 ∈ vs) (SrtO.lt2 ltSv) := by
  intro p q hm hm'
  obtain ⟨a, t, e⟩ := strs_mem hI _ hm
  obtain ⟨b, u, e'⟩ := strs_mem hI _ hm'
  show wpAny (model prog w) A (keyLt' oneType' p.1 q.1) (fun r s' => s' = s ∧ r = ltSv p.1 q.1) (fun _ _ => False) s
  rw [e, e', keyLt'_oneType]
  exact oneLt_str ⟨rfl, rfl⟩
theorem strs_sortable {a : Addr} {vs : List Value} {ns : List Str} (hI : StrsAre vs ns) (h2 : 2 ≤ vs.length) : SrtO.SortableO prog w A s a vs ltSv := by
  intro h' _
  refine ⟨oneType', fun Q E hq => ?_, str_cmp hI⟩
  match vs, hI, h2 with
  | v1 :: v2 :: rest, hI, _ =>
    rw [keyKind_strs hI]
    exact wpAny_pure hq
  | [], _, h => exact absurd h (by decide)
  | [v], _, h => exact absurd h (by simp)
theorem strs_out {vs out : List Value} {ns : List Str} (hI : StrsAre vs ns) (hs : SrtO.Srtd ltSv out) (hb : SrtO.Stb ltSv out vs) : StrsAre out (ssort ns) := by
  have h1 := strs_sv fun v hv => strs_mem hI v (hb.perm.mem_iff.mp hv)
  have h2 : (out.map sv).Perm ns := by
    have q := hb.perm.map sv
    rw [sv_strs hI] at q
    exact q
  have h3 : (out.map sv).Pairwise (fun a b => leS a b = true) := List.pairwise_map.mpr (hs.imp fun {x y} h => by
    unfold leS
    rw [show decide ((sv y).cps.toList < (sv x).cps.toList) = false from h]
    rfl)
  rw [← ssort_eq h2 h3]
  exact h1
end
theorem vals_of_strs : ∀ {vs : List Value} {ns : List Str}, StrsAre vs ns → Vals (ns.map V.str) vs
  | _, _, .nil => .nil
  | _, _, .cons n t r => .cons ⟨t, rfl⟩ (vals_of_strs r)
theorem strs_of_vals : ∀ {ns : List Str} {vs : List Value}, Vals (ns.map V.str) vs → StrsAre vs ns
  | [], _, .nil => .nil
  | n :: ns, _, .cons r t => by
    obtain ⟨u, rfl⟩ := r
    exact .cons n u (strs_of_vals t)
section
variable {X : Cx}
/-- sorted(list of texts), any number -/
def rSortS (K : PySem.W.Frag) : List V → Hp → VK → Prop := fun vs H Q => ∃ (a : Addr) (xs : List Str), vs = [V.ref a] ∧ SqL K H a (xs.map V.str) ∧ 
  ∀ (p : Addr), H p = none → Q (.ref p) (upd H p (.lst ((ssort xs).map V.str)))
theorem cr_sortS : CallR X (.builtin "sorted") (rSortS X.K) := by
  intro pins s σ H vs us Q I r h
  obtain ⟨a, ns, rfl, hs, q⟩ := h
  obtain ⟨its, rv, hl, hz⟩ := I.list hs
  rw [Vals.ref1 r]
  have hi := strs_of_vals rv
  refine SrtO.sorted_ord swo_str hl.isList (by rw [← rv.length]; exact hz) (fun h2 h₁ a' _ _ => strs_sortable hi h2) fun out h1 h2 => ?_
  have k1 := strs_out hi h1 h2
  obtain ⟨ep, he'⟩ := PyProof.Rows.sortedAll_at s.heap its out.toArray
  have hlen : ((ssort ns).map V.str).length ≤ sizeLine := by
    rw [List.length_map, (ssort_perm ns).length_eq]
    rw [List.length_map] at hz
    exact hz
  exact ⟨.ref _, upd H (s.heap.objs.size + 1) (.lst ((ssort ns).map V.str)), I.laid (t' := s.toks) (fun _ _ => PyProof.Rows.sortedAll_old) (Nat.le_succ _) ⟨hlen, out, ep, vals_of_strs k1, he'⟩, rfl, q _ (I.hok.fresh (Nat.le_succ _))⟩
end
end KR
set_option maxHeartbeats 4000000
namespace KR
open PySem PySem.Spec PyProof.Rows L2
/-! ### views of dicts as values -/
def keysO (p d : Addr) : HO := .ext fun h => PySem.W.KdlKeysView h p d
def valsO (p d : Addr) : HO := .ext fun h => h.IsValuesView p d
theorem keysO_ok {P : Program} {w : World} {H : Hp} {h : Heap} {p d : Addr} (x : PySem.W.KdlKeysView h p d) : ObjOk P w H h p (keysO p d) :=
  ⟨x, let ⟨o, e, _⟩ := x; ⟨o, e⟩, fun _ _ ⟨o, e, r⟩ k => ⟨o, k o e, r⟩⟩
theorem valsO_ok {P : Program} {w : World} {H : Hp} {h : Heap} {p d : Addr} (x : h.IsValuesView p d) : ObjOk P w H h p (valsO p d) :=
  ⟨x, let ⟨o, e, _⟩ := x; ⟨o, e⟩, fun _ _ ⟨o, e, r⟩ k => ⟨o, k o e, r⟩⟩
def tKeys (td : TE) : TE := fun σ H Q => td σ H fun x H1 => ∃ d kvs, x = .ref d ∧ Rd H1 d (.dK kvs) ∧ ∀ p, H1 p = none → Q (.ref p) (upd H1 p (keysO p d))
def tVals (td : TE) : TE := fun σ H Q => td σ H fun x H1 => ∃ d kvs, x = .ref d ∧ Rd H1 d (.dK kvs) ∧ ∀ p, H1 p = none → Q (.ref p) (upd H1 p (valsO p d))
section
variable {X : Cx} {e : Expr} {td : TE} {apos cpos : Pos}
theorem pe_keys (he : PE X e td) (hbase : attributeBase e "keys" X.env (eval e X.env) = eval e X.env := by rfl) (hline : (apos.endLine == cpos.line) = true := by rfl) : PE X (.Call (.Attribute e "keys" apos) [] [] cpos) (tKeys td) := by
  refine ⟨fun pins s σ H Q I h => ?_⟩
  refine wpAny_Call_method (T := "dict") (id := "dict.keys") hbase rfl hline F.plainAttrs_dict F.slot_dict_keys F.type_dict_keys (thn (he.run pins s σ H _ I h) fun u s1 ⟨x, H1, I1, rx, d, kvs, ex, hd, q⟩ => ?_)
  subst ex
  obtain rfl : u = Value.ref d := rx
  obtain ⟨z, lo, vs, rel, dd⟩ := dk_rd I1.hok hd
  refine ⟨dd.typeIs, dd.mapOf.noDict, ?_⟩
  have keep : ∀ b ob, s1.heap.get? b = some ob → (s1.heap.push { cls := .type "dict_keys", data := .fields #[.ref d] }).get? b = some ob := fun b ob q => Heap.get?_push_of_some _ q
  have I2 : Inv X pins σ (upd H1 s1.heap.objs.size (keysO s1.heap.objs.size d)) { s1 with heap := s1.heap.push { cls := .type "dict_keys", data := .fields #[.ref d] } } :=
    I1.laid (t' := s1.toks) keep (Nat.le_refl _) (keysO_ok ⟨_, Heap.get?_push_size _ rfl, rfl, rfl⟩)
  show wpAny _ _ (callWith cpos (.builtin "dict.keys") [.ref d] [] []) _ X.xe s1
  exact method_meetsIn F.slot_dict_keys F.entry_dict_keys rfl (PySem.evalArgs_none ⟨rfl, dd.typeIs, F.args_dict_keys_1 _, _, PySem.W.kdl_meets_keys (mixKind X.prog X.w) d lo, ⟨vs, dd⟩, ⟨.ref _, _, I2, rfl, q _ (I1.hok.fresh (Nat.le_refl _))⟩⟩)
theorem pe_vals (he : PE X e td) (hbase : attributeBase e "values" X.env (eval e X.env) = eval e X.env := by rfl) (hline : (apos.endLine == cpos.line) = true := by rfl) : PE X (.Call (.Attribute e "values" apos) [] [] cpos) (tVals td) := by
  refine ⟨fun pins s σ H Q I h => ?_⟩
  refine wpAny_Call_method (T := "dict") (id := "dict.values") hbase rfl hline F.plainAttrs_dict F.slot_dict_values F.type_dict_values (thn (he.run pins s σ H _ I h) fun u s1 ⟨x, H1, I1, rx, d, kvs, ex, hd, q⟩ => ?_)
  subst ex
  obtain rfl : u = Value.ref d := rx
  obtain ⟨z, lo, vs, rel, dd⟩ := dk_rd I1.hok hd
  refine ⟨dd.typeIs, dd.mapOf.noDict, ?_⟩
  have keep : ∀ b ob, s1.heap.get? b = some ob → (s1.heap.push { cls := .type "dict_values", data := .fields #[.ref d] }).get? b = some ob := fun b ob q => Heap.get?_push_of_some _ q
  have I2 : Inv X pins σ (upd H1 s1.heap.objs.size (valsO s1.heap.objs.size d)) { s1 with heap := s1.heap.push { cls := .type "dict_values", data := .fields #[.ref d] } } :=
    I1.laid (t' := s1.toks) keep (Nat.le_refl _) (valsO_ok ⟨_, Heap.get?_push_size _ rfl, rfl, rfl⟩)
  show wpAny _ _ (callWith cpos (.builtin "dict.values") [.ref d] [] []) _ X.xe s1
  exact method_meetsIn F.slot_dict_values F.entry_dict_values rfl (PySem.evalArgs_none ⟨rfl, dd.typeIs, F.args_dict_values_1 _, _, meets_dict_values (mixKind X.prog X.w) d lo, ⟨vs, dd⟩, ⟨.ref _, _, I2, rfl, q _ (I1.hok.fresh (Nat.le_refl _))⟩⟩)
end
/-! ### sorted of what gives texts -/
theorem sorted_src {X : Cx} {pins : List (Addr × Obj)} {σ : L2.St} {H : Hp} {s : Shared} {T : String} {r d : Addr} {n : Nat} {P : Nat → Value → Prop} {OK : Heap → Prop} {ks : List Str} {Q : VK}
    (K : PySem.W.KdlSrc X.prog X.w T r d n P OK) (hc : X.calm = true) (I : Inv X pins σ H s) (hok : OK s.heap) (hn : n ≤ sizeLine) (hl : n = ks.length) (hP : ∀ i v, P i v → ∃ x t, ks[i]? = some x ∧ v = Value.str x t)
    (q : ∀ p, H p = none → Q (.ref p) (upd H p (.lst ((ssort ks).map V.str)))) : wpAny (model X.prog X.w) X.A (call (.builtin "sorted") [.ref r]) (EP X pins σ Q) X.xe s := by
  subst hl
  refine Calls.call_function_entry PyProof.Rows.kind_sorted PyProof.Rows.plain_sorted PyProof.Rows.entry_sorted (PyProof.Rows.args_sorted1 _) ?_
  unfold Builtin.«sorted»
  refine wpAny_bind (m := checkCount "sorted" 1 1 _) (wpAny_pure ?_)
  refine wpAny_bind (PySem.W.kdu_collect (A := X.A.in1) K (I.ok.hd hc) hok hn fun h' tk acc hk hacc => ?_)
  have hal : acc.toList.length = ks.length := by rw [Array.length_toList]; exact hacc.1
  have hS : StrsAre acc.toList ks := strs_at hal fun j v e => by
    obtain ⟨x, t, e1, e2⟩ := hP j v (hacc.2 j v (by rw [← Array.getElem?_toList]; exact e))
    exact ⟨x, t, e1, e2⟩
  have I1 : Inv X pins σ H { s with heap := h', toks := tk } := I.kept hk
  refine wpAny_bind (wpAny_newList ?_ (by rw [hal]; exact hn))
  have hoL : (h'.push (seqObj "list" acc.toList.toArray 0)).get? h'.objs.size = some (seqObj "list" acc.toList.toArray 0) := Heap.get?_push_size _ rfl
  show wpAny _ _ _ _ _ { s with heap := h'.push (seqObj "list" acc.toList.toArray 0), toks := tk }
  refine wpAny_bind (wpAny_holding (wpAny_call_entry PyProof.Rows.slot_list_sort ⟨_, hoL, rfl⟩ PyProof.Rows.entry_list_sort
    (SrtO.list_sort_ord swo_str (s := { s with heap := h'.push (seqObj "list" acc.toList.toArray 0), toks := tk }) hoL (by rw [hal]; exact hn) (fun h2 => strs_sortable hS h2) fun out h1 h2 => ⟨_, rfl, ?_⟩)
    (PyProof.Rows.args_list_sort _)))
  have k1 := strs_out hS h1 h2
  obtain ⟨e', he'⟩ := PyProof.Rows.sortedHeap_at (vs := acc.toList) (out := out.toArray) hoL
  have hlen : ((ssort ks).map V.str).length ≤ sizeLine := by
    rw [List.length_map, (ssort_perm ks).length_eq]
    exact hn
  refine wpAny_pure ⟨_, rfl, .ref h'.objs.size, upd H h'.objs.size (.lst ((ssort ks).map V.str)), I1.laid (t' := tk) (fun b u e => ?_) (Nat.le_refl _)
    (show ObjOk X.prog X.w _ _ _ (.lst ((ssort ks).map V.str)) from ⟨hlen, out, e', vals_of_strs k1, he'⟩), rfl, q _ (I1.hok.fresh (Nat.le_refl _))⟩
  have hb : b < h'.objs.size := Heap.lt_size e
  rw [PyProof.Rows.sortedHeap_old (Nat.ne_of_lt hb) (by rw [size_push']; exact Nat.lt_succ_of_lt hb)]
  exact Heap.get?_push_of_some _ e
theorem key_at {P : Program} {w : World} {kvs : List (Key × V)} {vs : List (Key × Value)} {ks : List Str} (rel : KV kvs vs) (hks : kvs.map (·.1) = ks.map Sum.inr) :
    vs.length = ks.length ∧ ∀ (i : Nat) (v : Value), (∃ k x, vs[i]? = some (k, x) ∧ (mixKind P w).is k v = true) → ∃ x t, ks[i]? = some x ∧ v = Value.str x t := by
  have hkeys : vs.map (·.1) = ks.map Sum.inr := rel.keys.symm.trans hks
  refine ⟨?_, fun j v ⟨k, x, e1, e2⟩ => ?_⟩
  · have e := congrArg List.length hkeys
    rw [List.length_map, List.length_map] at e
    exact e
  · have e3 : (vs.map (·.1))[j]? = some k := by rw [List.getElem?_map, e1]; all_goals rfl
    rw [hkeys, List.getElem?_map] at e3
    cases e4 : ks[j]? with
    | none => rw [e4] at e3; cases e3
    | some y =>
      rw [e4] at e3
      have e5 : Sum.inr y = k := Option.some.inj e3
      subst e5
      obtain ⟨t, ev⟩ := Value.isStrOf_shape (x := y) (v := v) e2
      exact ⟨y, t, rfl, ev⟩
/-- sorted(d), sorted(d.keys()), the keys texts, any number -/
def rSortDS : List V → Hp → VK → Prop := fun vs H Q => ∃ (a : Addr) (kvs : List (Key × V)) (ks : List Str), vs = [V.ref a] ∧ Rd H a (.dK kvs) ∧ kvs.map (·.1) = ks.map Sum.inr ∧ 
  ∀ (p : Addr), H p = none → Q (.ref p) (upd H p (.lst ((ssort ks).map V.str)))
def rSortKS : List V → Hp → VK → Prop := fun vs H Q => ∃ (p0 a : Addr) (kvs : List (Key × V)) (ks : List Str), vs = [V.ref p0] ∧ H p0 = some (keysO p0 a) ∧ Rd H a (.dK kvs) ∧ kvs.map (·.1) = ks.map Sum.inr ∧ 
  ∀ (p : Addr), H p = none → Q (.ref p) (upd H p (.lst ((ssort ks).map V.str)))
section
variable {X : Cx}
theorem cr_sortDS (hc : X.calm = true) : CallR X (.builtin "sorted") rSortDS := by
  intro pins s σ H vs us Q I r h
  obtain ⟨a, kvs, ks, rfl, hd, hks, q⟩ := h
  rw [Vals.ref1 r]
  obtain ⟨z, lo, vs, rel, dd⟩ := dk_rd I.hok hd
  obtain ⟨ep, hat⟩ := dd.dictAt
  obtain ⟨hl, hP⟩ := key_at (P := X.prog) (w := X.w) rel hks
  exact sorted_src (PySem.W.kdl_dict (knd := mixKind X.prog X.w) (kvs := vs) (ep := ep) lo) hc I hat (by rw [← rel.length]; exact z) hl hP q
theorem cr_sortKS (hc : X.calm = true) : CallR X (.builtin "sorted") rSortKS := by
  intro pins s σ H vs us Q I r h
  obtain ⟨p0, a, kvs, ks, rfl, hv, hd, hks, q⟩ := h
  rw [Vals.ref1 r]
  obtain ⟨z, lo, vs, rel, dd⟩ := dk_rd I.hok hd
  obtain ⟨ep, hat⟩ := dd.dictAt
  obtain ⟨hl, hP⟩ := key_at (P := X.prog) (w := X.w) rel hks
  exact sorted_src (PySem.W.kdl_keys (knd := mixKind X.prog X.w) (kvs := vs) (ep := ep)) hc I ⟨(I.hok p0 _ hv).1, hat⟩ (by rw [← rel.length]; exact z) hl hP q
/-- list(d.keys()) -/
def rListK : List V → Hp → VK → Prop := fun vs H Q => ∃ (p0 a : Addr) (kvs : List (Key × V)), vs = [V.ref p0] ∧ H p0 = some (keysO p0 a) ∧ Rd H a (.dK kvs) ∧
  ∀ (p : Addr), H p = none → Q (.ref p) (upd H p (.lst (kvs.map fun kv => kV kv.1)))
theorem cr_listK (hc : X.calm = true) : CallR X (.type "list") rListK := by
  intro pins s σ H xs us Q I r q
  obtain ⟨p0, a, kvs, ex, hv, hd, q⟩ := q
  subst ex
  rw [Vals.ref1 r]
  obtain ⟨z, lo, vs, rel, dd⟩ := dk_rd I.hok hd
  obtain ⟨ep, hat⟩ := dd.dictAt
  have ek : (kvs.map fun kv => kV kv.1) = vs.map fun p => kV p.1 := by
    have e := congrArg (List.map kV) rel.keys
    rw [List.map_map, List.map_map] at e
    exact e
  refine PySem.W.kdl_call (PySem.W.kdl_keys (knd := mixKind X.prog X.w) (kvs := vs) (ep := ep)) (I.ok.hd hc) ⟨(I.hok p0 _ hv).1, hat⟩ (by rw [← rel.length]; exact z) fun h' tk acc c' hk hD hacc => ?_
  have hv : Vals (vs.map fun p => kV p.1) acc.toList := keys_at (by rw [Array.length_toList]; exact hacc.1) fun j v e => hacc.2 j v (by rw [← Array.getElem?_toList]; exact e)
  refine ⟨.ref s.heap.objs.size, upd H s.heap.objs.size (.lst (kvs.map fun kv => kV kv.1)), I.laid (t' := tk) hk (Nat.le_refl _)
    (show ObjOk X.prog X.w _ _ _ (.lst (kvs.map fun kv => kV kv.1)) from ⟨by rw [List.length_map]; exact z, acc.toList, c', by rw [ek]; exact hv, by rw [Array.toArray_toList]; exact hD⟩), rfl, q _ (I.hok.fresh (Nat.le_refl _))⟩
/-- sum(d.values()), ints -/
def rSumV : List V → Hp → VK → Prop := fun vs H Q => ∃ (p0 a : Addr) (kvs : List (Key × V)) (ns : List Int), vs = [V.ref p0] ∧ H p0 = some (valsO p0 a) ∧ Rd H a (.dK kvs) ∧ kvs.map (·.2) = ns.map V.int ∧ Q (.int ns.sum) H
theorem preSum_list : ∀ (ns : List Int), preSum (fun i => ns.getD i 0) ns.length = ns.sum := by
  intro ns
  have key : ∀ k, k ≤ ns.length → preSum (fun i => ns.getD i 0) k = (ns.take k).sum := by
    intro k
    induction k with
    | zero => intro _; simp [preSum]
    | succ k ih =>
      intro hk
      have hk' : k < ns.length := hk
      show preSum _ k + ns.getD k 0 = _
      rw [ih (Nat.le_of_lt hk'), List.take_succ_eq_append_getElem hk', List.sum_append]
      simp [List.getD, hk']
  rw [key _ (Nat.le_refl _), List.take_length]
theorem cr_sumV (hc : X.calm = true) : CallR X (.builtin "sum") rSumV := by
  intro pins s σ H xs us Q I r q
  obtain ⟨p0, a, kvs, ns, ex, hv, hd, hns, q⟩ := q
  subst ex
  rw [Vals.ref1 r]
  obtain ⟨z, lo, vs, rel, dd⟩ := dk_rd I.hok hd
  obtain ⟨ep, hat⟩ := dd.dictAt
  have K := PySem.W.kdl_values (prog := X.prog) (w := X.w) (r := p0) (d := a) (knd := mixKind X.prog X.w) (kvs := vs) (ep := ep)
  refine call_sum_walkAnyS ?_
  obtain ⟨oI, St, hit, W, st⟩ := K.iter X.A.in1 s (I.ok.hd hc) ⟨(I.hok p0 _ hv).1, hat⟩
  have hlen : vs.length = ns.length := by
    have e := congrArg List.length hns
    rw [List.length_map, List.length_map] at e
    rw [← rel.length]; exact e
  refine hit _ _ ⟨s.heap.objs.size, _, _, _, vs.length, _, _, fun i => ns.getD i 0, rfl, W.toS, st, fun b hb => ?_, fun i v hv => ?_, fun s' t' hm => ?_⟩
  · show b < (s.heap.push oI).objs.size
    rw [size_push']
    rcases List.mem_cons.mp hb with e | hb
    · rw [e]; exact Nat.lt_succ_self _
    · rw [List.mem_singleton.mp hb]; exact Nat.lt_succ_of_lt (K.there _ ⟨(I.hok p0 _ hv).1, hat⟩).2
  · obtain ⟨k, hk⟩ := hv
    obtain ⟨y, hy, ry⟩ : ∃ y, kvs[i]? = some (k, y) ∧ RelV y v := by
      have hi : i < kvs.length := by rw [rel.length]; exact (List.getElem?_eq_some_iff.mp hk).1
      obtain ⟨u, hu, ru⟩ := kv_get rel (show kvs[i]? = some (kvs[i].1, kvs[i].2) by simp [hi])
      rw [hk] at hu
      obtain ⟨e1, e2⟩ := Prod.mk.inj (Option.some.inj hu)
      subst e2
      exact ⟨kvs[i].2, by rw [e1]; simp [hi], ru⟩
    have e1 : (kvs.map (·.2))[i]? = some y := by rw [List.getElem?_map, hy]; rfl
    rw [hns, List.getElem?_map] at e1
    cases e2 : ns[i]? with
    | none => rw [e2] at e1; cases e1
    | some n =>
      rw [e2] at e1
      have e3 : V.int n = y := Option.some.inj e1
      subst e3
      obtain ⟨t, rfl⟩ := ry
      exact ⟨t, by simp [List.getD, e2]⟩
  · have hk : ∀ b o, s.heap.get? b = some o → s'.heap.get? b = some o := fun b o e =>
      hm.heap b o (fun hI => absurd (Heap.lt_size e) (by rw [List.mem_singleton.mp hI]; exact Nat.lt_irrefl _)) (Heap.get?_push_of_some _ e)
    rw [Moved.eq_with hm]
    have e4 : preSum (fun i => ns.getD i 0) vs.length = ns.sum := by rw [hlen]; exact preSum_list ns
    rw [e4]
    exact ⟨.int _, H, I.kept (h' := s'.heap) (t' := s'.toks) hk, ⟨_, rfl⟩, q⟩
end
end KR
set_option maxHeartbeats 4000000
namespace KR
open PySem PySem.Spec PyProof.Rows L2
section
variable {X : Cx}
/-! ### d.update(e) -/
def rDUpd : V → List V → Hp → VK → Prop := fun x vs H Q => ∃ (a b : Addr) (kvs more : List (Key × V)), x = .ref a ∧ vs = [.ref b] ∧ a ≠ b ∧ H a = some (.dK kvs) ∧ Rd H b (.dK more) ∧ kvs.length + more.length ≤ sizeLine ∧ Q .non (upd H a (.dK (mergeK kvs more)))
theorem mt_dupd : MtR X "dict.update" rDUpd := by
  intro pins s σ H x vs v us Q I rx rv h
  obtain ⟨a, b, kvs, more, ex, ev, nab, ha, hb, hz, q⟩ := h
  subst ex
  subst ev
  obtain rfl : v = Value.ref a := rx
  obtain ⟨u, eu, ru⟩ := vals1 rv
  subst eu
  cases ru
  obtain ⟨za, hd, va, ra, da⟩ := dk_of I.hok ha
  obtain ⟨zb, hdb, vb, rb, db⟩ := dk_rd I.hok hb
  have hz2 : va.length + vb.length ≤ sizeLine := by rw [← ra.length, ← rb.length]; exact hz
  refine call_meetsIn PySem.F.slot_dict_update da.typeIs PySem.F.entry_dict_update (PySem.F.args_dict_update_2 _ _) (meets_dict_update (mixKind X.prog X.w) a b nab hdb) ⟨va, vb, da, db, hz2, fun h' da' db' hs => ⟨.non, _, ?_, rfl, q⟩⟩
  have he : ∃ q, h'.get? a = some q := let ⟨q, _, _, hq, _⟩ := da'; ⟨q, hq⟩
  exact d_write (t' := s.toks) I (by rw [ha]; exact True.intro) hs he (dk_new (Nat.le_trans (length_mergeK more kvs) hz) hd (rb.merge ra) da')
/-! ### xs == [], xs != [] -/
def rEqE (K : PySem.W.Frag) : R2 := fun x y H Q => ∃ (a b : Addr) (xs : List V), x = .ref a ∧ y = .ref b ∧ SqL K H a xs ∧ SqL K H b [] ∧ Q (.bl xs.isEmpty) H
def rNeE (K : PySem.W.Frag) : R2 := fun x y H Q => ∃ (a b : Addr) (xs : List V), x = .ref a ∧ y = .ref b ∧ SqL K H a xs ∧ SqL K H b [] ∧ Q (.bl (!xs.isEmpty)) H
theorem op_eqE (hu : X.A.units < cLine) : OpR X (compareOp .Eq) (rEqE X.K) := by
  intro pins s σ H x y v u Q I rx ry h
  obtain ⟨a, b, xs, rfl, rfl, ha, hb, q⟩ := h
  cases rx
  cases ry
  obtain ⟨ia, ra, pa, _⟩ := I.list ha
  obtain ⟨ib, rb, pb, _⟩ := I.list hb
  cases rb
  cases ra with
  | nil => exact SeqAt.eq_listAt (e := fun _ => true) pa.isList pb.isList rfl hu (fun j h1 h2 => absurd h1 (Nat.not_lt_zero _)) ⟨.bl _, H, I, rfl, q⟩
  | cons r t => exact SeqAt.eq_list_lengthsAt pa.isList pb.isList (by simp) hu ⟨.bl _, H, I, rfl, q⟩
theorem op_neE (hu : X.A.units < cLine) : OpR X (compareOp .NotEq) (rNeE X.K) := by
  intro pins s σ H x y v u Q I rx ry h
  obtain ⟨a, b, xs, rfl, rfl, ha, hb, q⟩ := h
  cases rx
  cases ry
  obtain ⟨ia, ra, pa, _⟩ := I.list ha
  obtain ⟨ib, rb, pb, _⟩ := I.list hb
  cases rb
  cases ra with
  | nil => exact SeqAt.RcNeAt.lists (e := fun _ => true) pa.isList pb.isList rfl hu (fun j h1 h2 => absurd h1 (Nat.not_lt_zero _)) _ _ _ _ ⟨.bl _, H, I, rfl, q⟩
  | cons r t => exact SeqAt.RcNeAt.lists_lengths pa.isList pb.isList (by simp) hu _ _ _ _ ⟨.bl _, H, I, rfl, q⟩
/-! ### d != {} -/
def rNeDE : R2 := fun x y H Q => ∃ a b ks, x = .ref a ∧ y = .ref b ∧ H a = some (.dK ks) ∧ H b = some (.dK []) ∧ Q (.bl (!ks.isEmpty)) H
theorem op_neDE (hu : X.A.units < cLine) : OpR X (compareOp .NotEq) rNeDE := by
  intro pins s σ H x y v u Q I rx ry h
  obtain ⟨a, b, ks, rfl, rfl, ea, eb, q⟩ := h
  obtain rfl : v = Value.ref a := rx
  obtain rfl : u = Value.ref b := ry
  obtain ⟨_, ya, va, ra, da⟩ := (show ObjOk X.prog X.w H s.heap a (.dK ks) from I.hok a _ ea)
  obtain ⟨_, yb, vb, rb, db⟩ := (show ObjOk X.prog X.w H s.heap b (.dK []) from I.hok b _ eb)
  cases rb
  cases ra with
  | nil => exact PySem.W.keq_ne (knd := mixKind X.prog X.w) (r := true) ya yb da db hu (fun _ => hits_all (.nil : KV ([] : List (Key × V)) []) (.nil : KV ([] : List (Key × V)) []) (fun p hp => nomatch hp)) (fin_bl I q (by simp))
  | cons r t => exact PySem.W.keq_ne (knd := mixKind X.prog X.w) (r := true) ya yb da db hu (fun z => nomatch z) (fin_bl I q (by simp))
/-! ### a thing is locked from here on -/
def tFrz (te : TE) : TE := fun σ H Q => te σ H fun v H1 => ∃ d u, v = .ref d ∧ H1 d = some u ∧ Mut (some u) ∧ ∀ od, Q v (upd H1 d (.frz od u))
theorem pe_frz {e : Expr} {te : TE} (h : PE X e te) : PE X e (tFrz te) := by
  refine ⟨fun pins s σ H Q I q => ?_⟩
  refine thn (h.run pins s σ H _ I q) fun u s1 ⟨x, H1, I1, rx, d, u1, ex, hd, mu, k⟩ => ?_
  obtain ⟨od, I2⟩ := I1.lock hd mu
  exact ⟨x, _, I2, rx, k od⟩
/-! ### C.f(..), f a plain function of the class C -/
def tClsFn (C : Addr) (sp : Sp) (dvs : List V) (E : XK) (ta : TE) (t : TA) : TE := fun σ H Q => ta σ H fun x H1 => x = .ref C ∧ t σ H1 fun vs H2 => sp (vs ++ dvs) H2 Q E
theorem pe_clsfn {CX : CXT} {k : Nat} {C f : Addr} {mc : Value} {fd : FuncData} {ps : List Str} {dvs : List V} {ds : List Value} {sp : Sp} {E : XK} {o e : Expr} {es : List Expr} {m : Str} {pos apos : Pos} {ta : TE} {t : TA} {pl : Sem Bool}
    (he : PE X o ta) (r : ClX.CRead X.K C mc) (c : ClX.CVal X.K C mc m (.ref f) (.ref f)) (kp : PySem.W.keepIn X.K (.ref f) = true) (F : FnOk X.prog X.w X.K X.mg X.base CX k f fd ps sp) (hr : Room k X.A) (hb : Binds X.K fd ps ds) (hd : Vals dvs ds) (hx : Passes CX X E) (ha : PA X (e :: es) t)
    (hst : starEach (e :: es) X.env = (false, eval e X.env) :: starEach es X.env := by rfl) (hpl : (backTo pos (starEach es X.env)).any (·.1) = false := by rfl)
    (ht : eval (.Call (.Attribute o m apos) (e :: es) [] pos) X.env = (do
      let ov ← eval o X.env
      standAt apos.atName
      let (f, first) ← holding [ov] (getMethod ov m pl)
      callWith pos f first (backTo pos (starEach (e :: es) X.env)) (backToKw pos (keywordEach [] X.env))) := by rfl) :
    PE X (.Call (.Attribute o m apos) (e :: es) [] pos) (tClsFn C sp dvs E ta t) := by
  refine ⟨fun pins s σ H Q I h => ?_⟩
  refine PySem.W.methodCall_KW (pl := pl) (thn (he.run pins s σ H _ I h) fun u s1 ⟨x, H1, I1, rx, ex, q⟩ => ?_) ht
  subst ex
  obtain rfl : u = Value.ref C := rx
  refine PySem.W.method_cls I1.kIn r.ga (ClX.getcval_ok I1 r c fun s2 I2 => ?_)
  refine PySem.W.callWith_K (first := []) (h₀ := X.base) I2.ok.mod.kin kp (thn (ha.run pos pins s2 σ H1 _ I2 q) fun us s3 ⟨vs, H2, I3, rv, q2⟩ => ⟨I3.kIn, ?_⟩) hst hpl
  exact run_fn F hr hb hd hx I3 rv q2
end
end KR
set_option maxHeartbeats 4000000
namespace KR
open PySem PySem.Spec PyProof.Rows L2
/-! ## the text by places -/
def top (i : Nat) : Stmt := PySem.Challenge.pw_shownranks_k36_whole_two_roads.main.body.getD i (.Pass ⟨0, 0, 0, 0⟩)
abbrev sRuns : Stmt := top 10
abbrev sWords : Stmt := top 11
abbrev sBInit : Stmt := inClass (top 13) 0
abbrev sBLay : Stmt := inClass (top 13) 1
abbrev sBWant : Stmt := inClass (top 13) 2
abbrev sBNames : Stmt := inClass (top 13) 4
abbrev sBWords : Stmt := inClass (top 13) 5
abbrev sBBegun : Stmt := inClass (top 13) 6
abbrev sBWhere : Stmt := inClass (top 13) 7
abbrev sBLength : Stmt := inClass (top 13) 8
abbrev sBTotal : Stmt := inClass (top 13) 9
abbrev sBParts : Stmt := inClass (top 13) 10
abbrev sBWin : Stmt := inClass (top 13) 11
abbrev sLInit : Stmt := inClass (top 15) 0
abbrev sLNames : Stmt := inClass (top 15) 1
abbrev sLGone : Stmt := inClass (top 15) 2
abbrev sLTexts : Stmt := inClass (top 15) 3
abbrev sPoured : Stmt := top 16
abbrev sLowest : Stmt := top 17
abbrev sIsName : Stmt := top 23
abbrev sAreParts : Stmt := top 24
abbrev sHTexts : Stmt := top 25
abbrev sMInit : Stmt := inClass (top 26) 0
abbrev sHInit : Stmt := inClass (top 27) 0
abbrev sHPut : Stmt := inClass (top 27) 1
abbrev sHTake : Stmt := inClass (top 27) 2
abbrev sHChanged : Stmt := inClass (top 27) 3
abbrev sHNewest : Stmt := inClass (top 27) 4
abbrev sHLayers : Stmt := inClass (top 27) 5
abbrev sHMake : Stmt := inClass (top 27) 6
abbrev sRuleOf : Stmt := top 34
abbrev sRuleFits : Stmt := top 35
abbrev sRInit : Stmt := inClass (top 36) 0
abbrev sRBrought : Stmt := inClass (top 36) 1
abbrev sRSilent : Stmt := inClass (top 36) 2
abbrev sNth : Stmt := top 38
abbrev sTape : Stmt := top 39
abbrev sDigit : Stmt := top 40
abbrev sName : Stmt := top 41
abbrev sText : Stmt := top 42
abbrev sParts : Stmt := top 43
abbrev sChanges : Stmt := top 44
abbrev sDone : Stmt := top 45
abbrev sRules : Stmt := top 46
abbrev sTold : Stmt := top 47
abbrev sFree : Stmt := top 48
abbrev sRoad : Stmt := top 49
abbrev sLaw : Stmt := top 50
end KR
namespace L2
open PySem PySem.Spec PyProof.Rows
/-! ## heaps -/
/-- all but the things at p, q -/
def del (H : Hp) (p : Addr) : Hp := fun a => if a = p then none else H a
theorem del_ne {H : Hp} {p a : Addr} (h : a ≠ p) : del H p a = H a := by unfold del; rw [if_neg h]
theorem del_same {H : Hp} {p : Addr} : del H p p = none := by unfold del; rw [if_pos rfl]
theorem del_some {H : Hp} {p a : Addr} {o : HO} (h : del H p a = some o) : H a = some o ∧ a ≠ p := by
  by_cases e : a = p
  · rw [e, del_same] at h; cases h
  · rw [del_ne e] at h; exact ⟨h, e⟩
theorem same_del {H : Hp} {p : Addr} : Same (del H p) H := fun _ _ h => (del_some h).1
theorem same_upd {H : Hp} {p : Addr} {o : HO} (h : H p = none) : Same H (upd H p o) := fun b u e => by rw [upd_ne (ne_of_none e h)]; exact e
theorem same_del_upd {H : Hp} {p : Addr} {o : HO} : Same (del H p) (upd H p o) := fun b u e => by
  obtain ⟨e1, e2⟩ := del_some e
  rw [upd_ne e2]; exact e1
theorem same_dels {H H' : Hp} {p : Addr} (s : Same H H') : Same (del H p) (del H' p) := fun b u e => by
  obtain ⟨e1, e2⟩ := del_some e
  rw [del_ne e2]; exact s _ _ e1
theorem same_del_of {H H' : Hp} {p : Addr} (s : Same H H') (h : H p = none) : Same H (del H' p) := fun b u e => by
  rw [del_ne (ne_of_none e h)]; exact s _ _ e
theorem Same.tup {K : PySem.W.Frag} {H H' : Hp} {a : Addr} {xs : List V} (e : Same H H') (h : SqT K H a xs) : SqT K H' a xs := by
  rcases h with (h | ⟨o, h⟩) | h
  · exact .inl (.inl (e _ _ h))
  · exact .inl (.inr ⟨o, e _ _ h⟩)
  · exact .inr h
theorem Same.rd {H H' : Hp} {a : Addr} {u : HO} (e : Same H H') (h : Rd H a u) : Rd H' a u := by
  rcases h with h | ⟨o, h⟩
  · exact .inl (e _ _ h)
  · exact .inr ⟨o, e _ _ h⟩
theorem Same.dget {H H' : Hp} {a : Addr} {y : V} {r : Option V} (e : Same H H') (h : DGet H a y r) : DGet H' a y r := by
  rcases h with ⟨kvs, k, h1, h2⟩ | ⟨kvs, k, b, h1, h2, h3, h4⟩
  · exact .inl ⟨kvs, k, Same.rd e h1, h2⟩
  · exact .inr ⟨kvs, k, b, Same.rd e h1, h2, e _ _ h3, h4⟩
/-! ## data -/
mutual
theorem Dp.mono {K : PySem.W.Frag} {H H' : Hp} (s : Same H H') : ∀ {d : PyData} {v : V}, Dp K H v d → Dp K H' v d
  | .none, _, .non => .non
  | .bool _, _, .bl b => .bl b
  | .int _, _, .int i => .int i
  | .str _, _, .str x => .str x
  | .list _, _, .lst q r => .lst (Same.seq s q) (DpAll.mono s r)
  | .tuple _, _, .tup q r => .tup (Same.tup s q) (DpAll.mono s r)
theorem DpAll.mono {K : PySem.W.Frag} {H H' : Hp} (s : Same H H') : ∀ {ds : List PyData} {vs : List V}, DpAll K H vs ds → DpAll K H' vs ds
  | [], _, .nil => .nil
  | _ :: _, _, .cons q r => .cons (Dp.mono s q) (DpAll.mono s r)
end
theorem DpAll.append {K : PySem.W.Frag} {H : Hp} : ∀ {vs ws : List V} {ds es : List PyData}, DpAll K H vs ds → DpAll K H ws es → DpAll K H (vs ++ ws) (ds ++ es)
  | _, _, _, _, .nil, s => s
  | _, _, _, _, .cons r t, s => .cons r (DpAll.append t s)
theorem DpAll.one {K : PySem.W.Frag} {H : Hp} {v : V} {d : PyData} (h : Dp K H v d) : DpAll K H [v] [d] := .cons h .nil
theorem DpAll.snoc {K : PySem.W.Frag} {H : Hp} {vs : List V} {ds : List PyData} {v : V} {d : PyData} (h : DpAll K H vs ds) (q : Dp K H v d) : DpAll K H (vs ++ [v]) (ds ++ [d]) := DpAll.append h (.one q)
theorem DpAll.length {K : PySem.W.Frag} {H : Hp} : ∀ {vs : List V} {ds : List PyData}, DpAll K H vs ds → vs.length = ds.length
  | _, _, .nil => rfl
  | _, _, .cons _ t => congrArg (· + 1) (DpAll.length t)
theorem DpAll.get {K : PySem.W.Frag} {H : Hp} : ∀ {vs : List V} {ds : List PyData} {i : Nat} {v : V}, DpAll K H vs ds → vs[i]? = some v → ∃ d, ds[i]? = some d ∧ Dp K H v d
  | _, _, _, _, .nil, h => by simp at h
  | _, _, 0, _, .cons q _, h => by simp at h; subst h; exact ⟨_, rfl, q⟩
  | _, _, i + 1, v, .cons _ t, h => by
    obtain ⟨d, h1, h2⟩ := DpAll.get (i := i) (v := v) t (by simpa using h)
    exact ⟨d, by simpa using h1, h2⟩
theorem DpAll.strs {K : PySem.W.Frag} {H : Hp} : ∀ (xs : List Str), DpAll K H (xs.map V.str) (xs.map PyData.str)
  | [] => .nil
  | x :: xs => .cons (.str x) (DpAll.strs xs)
theorem DpAll.ints {K : PySem.W.Frag} {H : Hp} : ∀ (xs : List Int), DpAll K H (xs.map V.int) (xs.map PyData.int)
  | [] => .nil
  | x :: xs => .cons (.int x) (DpAll.ints xs)
theorem DpAll.strs_of {K : PySem.W.Frag} {H : Hp} : ∀ {xs : List Str} {vs : List V}, DpAll K H vs (xs.map PyData.str) → vs = xs.map V.str
  | [], _, .nil => rfl
  | _ :: _, _, .cons (.str _) t => by rw [DpAll.strs_of t]; rfl
/-- a new tuple, a new list of known things -/
theorem Dp.newTup {K : PySem.W.Frag} {H : Hp} {p : Addr} {vs : List V} {ds : List PyData} (n : H p = none) (h : DpAll K H vs ds) : Dp K (upd H p (.tup vs)) (.ref p) (.tuple ds) :=
  .tup (SqT.of upd_same) (DpAll.mono (same_upd n) h)
theorem Dp.newLst {K : PySem.W.Frag} {H : Hp} {p : Addr} {vs : List V} {ds : List PyData} (n : H p = none) (h : DpAll K H vs ds) : Dp K (upd H p (.lst vs)) (.ref p) (.list ds) :=
  .lst (SqL.of upd_same) (DpAll.mono (same_upd n) h)
/-- the part of H that is not in H0 -/
def nw (H0 H : Hp) : Hp := fun a => if (H0 a).isSome = true then none else H a
theorem nw_none {H0 H : Hp} {a : Addr} (h : H0 a = none) : nw H0 H a = H a := by unfold nw; rw [h]; rfl
theorem nw_some {H0 H : Hp} {a : Addr} {o : HO} (h : nw H0 H a = some o) : H0 a = none ∧ H a = some o := by
  unfold nw at h
  cases e : H0 a with
  | some u => rw [e] at h; simp at h
  | none => rw [e] at h; exact ⟨rfl, by simpa using h⟩
theorem nw_sub {H0 H : Hp} : Same (nw H0 H) H := fun _ _ e => (nw_some e).2
theorem nw_same {H0 H H' : Hp} (s : Same H H') : Same (nw H0 H) (nw H0 H') := fun a o e => by
  obtain ⟨e1, e2⟩ := nw_some e
  rw [nw_none e1]; exact s _ _ e2
/-- what is new behind H1 is new behind the smaller H0, apart from what stood at H1 -/
theorem nw_in {H0 H1 H : Hp} {l : Addr} {o : HO} (s : Same H0 H1) (hl : H1 l = some o) : Same (nw H1 H) (del (nw H0 H) l) := fun a u e => by
  obtain ⟨e1, e2⟩ := nw_some e
  rw [del_ne (fun z => by rw [z, hl] at e1; cases e1), nw_none (Same.free s e1)]; exact e2
theorem nw_less {H0 H1 H : Hp} (s : Same H0 H1) : Same (nw H1 H) (nw H0 H) := fun a u e => by
  obtain ⟨e1, e2⟩ := nw_some e
  rw [nw_none (Same.free s e1)]; exact e2
theorem nw_del {H0 H : Hp} {l : Addr} {o : HO} (hl : H0 l = some o) : Same (nw H0 H) (del H l) := fun a u e => by
  obtain ⟨e1, e2⟩ := nw_some e
  rw [del_ne (fun z => by rw [z, hl] at e1; cases e1)]; exact e2
theorem nw_at {H0 H : Hp} {l : Addr} {o : HO} (hl : H0 l = some o) : nw H0 H l = none := by unfold nw; rw [hl]; rfl
theorem same_wr {G H : Hp} {l : Addr} {o : HO} (s : Same G H) (hl : G l = none) : Same G (upd H l o) := fun b u e => by
  rw [upd_ne (ne_of_none e hl)]; exact s _ _ e
/-- a write at l, that is known of old, leaves the new part -/
theorem nw_upd {H0 H : Hp} {l : Addr} {o u : HO} (hl : H0 l = some o) : Same (nw H0 H) (nw H0 (upd H l u)) := fun a v e => by
  obtain ⟨e1, e2⟩ := nw_some e
  rw [nw_none e1, upd_ne (fun z => by rw [z, hl] at e1; cases e1)]; exact e2
theorem nw_upd' {H0 H : Hp} {l : Addr} {o u : HO} (hl : H0 l = some o) : Same (nw H0 H) (upd H l u) := Same.trans (nw_upd hl) nw_sub
theorem Dp.newTupN {K : PySem.W.Frag} {H0 H : Hp} {p : Addr} {vs : List V} {ds : List PyData} (s : Same H0 H) (n : H p = none) (h : DpAll K (nw H0 H) vs ds) : Dp K (nw H0 (upd H p (.tup vs))) (.ref p) (.tuple ds) := by
  refine .tup (SqT.of ?_) (DpAll.mono (nw_same (same_upd n)) h)
  rw [nw_none (Same.free s n)]; exact upd_same
theorem Dp.newTupD {K : PySem.W.Frag} {H0 H : Hp} {p l : Addr} {o : HO} {vs : List V} {ds : List PyData} (s : Same H0 H) (n : H p = none) (hl : H l = some o) (h : DpAll K (del (nw H0 H) l) vs ds) : Dp K (del (nw H0 (upd H p (.tup vs))) l) (.ref p) (.tuple ds) := by
  have npl : p ≠ l := (ne_of_none hl n).symm
  refine .tup (SqT.of ?_) (DpAll.mono (same_dels (nw_same (same_upd n))) h)
  rw [del_ne npl, nw_none (Same.free s n)]; exact upd_same
theorem Dp.newLstD {K : PySem.W.Frag} {H0 H : Hp} {p l : Addr} {o : HO} {vs : List V} {ds : List PyData} (s : Same H0 H) (n : H p = none) (hl : H l = some o) (h : DpAll K (del (nw H0 H) l) vs ds) : Dp K (del (nw H0 (upd H p (.lst vs))) l) (.ref p) (.list ds) := by
  have npl : p ≠ l := (ne_of_none hl n).symm
  refine .lst (SqL.of ?_) (DpAll.mono (same_dels (nw_same (same_upd n))) h)
  rw [del_ne npl, nw_none (Same.free s n)]; exact upd_same
/-- a list at l that grows, behind H0; its items' data so far lie in what is not of H0 -/
structure Acc (K : PySem.W.Frag) (H0 H : Hp) (l : Addr) (ds : List PyData) : Prop where
  same : Same H0 H
  new : H0 l = none
  ex : ∃ xs, H l = some (.lst xs) ∧ DpAll K (del (nw H0 H) l) xs ds
theorem Acc.start {K : PySem.W.Frag} {H : Hp} {l : Addr} (n : H l = none) : Acc K H (upd H l (.lst [])) l [] := ⟨same_upd n, n, [], upd_same, .nil⟩
theorem Acc.start' {K : PySem.W.Frag} {H0 H : Hp} {l : Addr} (s : Same H0 H) (n : H l = none) : Acc K H0 (upd H l (.lst [])) l [] := ⟨Same.trans s (same_upd n), Same.free s n, [], upd_same, .nil⟩
theorem Acc.grow {K : PySem.W.Frag} {H0 H H' : Hp} {l : Addr} {ds : List PyData} (a : Acc K H0 H l ds) (s : Same H H') : Acc K H0 H' l ds := by
  obtain ⟨xs, h1, h2⟩ := a.ex
  exact ⟨Same.trans a.same s, a.new, xs, s _ _ h1, DpAll.mono (same_dels (nw_same s)) h2⟩
theorem Acc.push {K : PySem.W.Frag} {H0 H : Hp} {l : Addr} {ds : List PyData} {xs : List V} {v : V} {d : PyData} (a : Acc K H0 H l ds) (hl : H l = some (.lst xs)) (h : Dp K (del (nw H0 H) l) v d) : Acc K H0 (upd H l (.lst (xs ++ [v]))) l (ds ++ [d]) := by
  obtain ⟨ys, h1, h2⟩ := a.ex
  rw [hl] at h1
  cases h1
  have s : Same (del (nw H0 H) l) (del (nw H0 (upd H l (.lst (xs ++ [v])))) l) := fun b o e => by
    obtain ⟨e1, e2⟩ := del_some e
    obtain ⟨e3, e4⟩ := nw_some e1
    rw [del_ne e2, nw_none e3, upd_ne e2]; exact e4
  refine ⟨fun b o e => ?_, a.new, _, upd_same, DpAll.snoc (DpAll.mono s h2) (Dp.mono s h)⟩
  rw [upd_ne (ne_of_none e a.new)]; exact a.same _ _ e
theorem Acc.len {K : PySem.W.Frag} {H0 H : Hp} {l : Addr} {ds : List PyData} {xs : List V} (a : Acc K H0 H l ds) (hl : H l = some (.lst xs)) : xs.length = ds.length := by
  obtain ⟨ys, h1, h2⟩ := a.ex
  rw [hl] at h1
  cases h1
  exact DpAll.length h2
theorem Acc.done {K : PySem.W.Frag} {H0 H : Hp} {l : Addr} {ds : List PyData} (a : Acc K H0 H l ds) : Dp K (nw H0 H) (.ref l) (.list ds) := by
  obtain ⟨ys, h1, h2⟩ := a.ex
  exact .lst (SqL.of (by rw [nw_none a.new]; exact h1)) (DpAll.mono same_del h2)
end L2
namespace KR
open PySem PySem.Spec PyProof.Rows L2
theorem ifdT {p A B : Prop} [Decidable p] (hp : p) (h : A) : if decide p = true then A else B := by
  rw [decide_eq_true hp]; exact iteT h
theorem ifdF {p A B : Prop} [Decidable p] (hp : ¬ p) (h : B) : if decide p = true then A else B := by
  rw [decide_eq_false hp]; exact iteF h
theorem ifnT {p A B : Prop} [Decidable p] (hp : ¬ p) (h : A) : if (!decide p) = true then A else B := by
  rw [decide_eq_false hp]; exact iteT h
theorem ifnF {p A B : Prop} [Decidable p] (hp : p) (h : B) : if (!decide p) = true then A else B := by
  rw [decide_eq_true hp]; exact iteF h
theorem ifbT {b : Bool} {A B : Prop} (hb : b = true) (h : A) : if b = true then A else B := by
  rw [hb]; exact iteT h
theorem ifbF {b : Bool} {A B : Prop} (hb : b = false) (h : B) : if b = true then A else B := by
  rw [hb]; exact iteF h
theorem small_sz {n : Nat} (h : n < 16777216) : n < sizeLine := by rw [sizeLine_eq]; exact h
theorem small_sz' {n : Nat} (h : n ≤ 16777216) : n ≤ sizeLine := by rw [sizeLine_eq]; exact h
/-! ## what is called -/
section
variable (P : Program) (w : World) (K : PySem.W.Frag) (mg : Str → Option Value) (base : Heap)
/-- a def of the module -/
structure Cal (k : Nat) (x : Str) (ps : List Str) (sp : Sp) : Prop where
  ex : ∃ (f : Addr) (fd : FuncData), FnOk P w K mg base CX0 k f fd ps sp ∧ mg x = some (.ref f) ∧ PySem.W.keepIn K (.ref f) = true ∧ Binds K fd ps []
/-- a method of the class at C -/
structure Mth (C : Addr) (k : Nat) (m : Str) (ps : List Str) (sp : Sp) : Prop where
  ex : ∃ (f : Addr) (fd : FuncData), FnOk P w K mg base CX0 k f fd ps sp ∧ Meth K C m f ∧ Binds K fd ps []
/-- the class at C is made -/
structure Mkc (C : Addr) (k : Nat) (x : Str) (ps : List Str) (sp : Sp) : Prop where
  ex : ∃ (f : Addr) (fd : FuncData), FnOk P w K mg base CX0 k f fd ps sp ∧ mg x = some (.ref C) ∧ Mk K C f ∧ Binds K fd ps []
end
section
variable {X : Cx} {k : Nat} {C : Addr} {ps : List Str} {sp : Sp} {x m : Str} {p pos apos : Pos} {e o : Expr} {es : List Expr} {ta : TE} {t : TA}
theorem pe_cal (c : Cal X.prog X.w X.K X.mg X.base k x ps sp) (hr : Room k X.A) (ha : PA X (e :: es) t) (hg : Gl X x := by rfl)
    (hdb : (x == ("__debug__" : Str)) = false := by decide) (he : starEach (e :: es) X.env = (false, eval e X.env) :: starEach es X.env := by rfl) (hpl : (backTo pos (starEach es X.env)).any (·.1) = false := by rfl) :
    PE X (.Call (.Name x p) (e :: es) [] pos) (tCall sp [] E0 t) := by
  obtain ⟨f, fd, F, hm, hk, hb⟩ := c.ex
  exact pe_call F hr hg hm hk hb .nil pass0 ha hdb he hpl
theorem pe_mth {pl : Sem Bool} (he : PE X o ta) (c : Cls X.K C) (cc : Mth X.prog X.w X.K X.mg X.base C k m ps sp) (hr : Room k X.A) (ha : PA X (e :: es) t)
    (hst : starEach (e :: es) X.env = (false, eval e X.env) :: starEach es X.env := by rfl) (hpl : (backTo pos (starEach es X.env)).any (·.1) = false := by rfl)
    (ht : eval (.Call (.Attribute o m apos) (e :: es) [] pos) X.env = (do
      let ov ← eval o X.env
      standAt apos.atName
      let (f, first) ← holding [ov] (getMethod ov m pl)
      callWith pos f first (backTo pos (starEach (e :: es) X.env)) (backToKw pos (keywordEach [] X.env))) := by rfl) :
    PE X (.Call (.Attribute o m apos) (e :: es) [] pos) (tMeth C m sp [] E0 ta t) := by
  obtain ⟨f, fd, F, hm, hb⟩ := cc.ex
  exact pe_meth he c hm F hr hb .nil pass0 ha hst hpl ht
theorem pe_mth0 {pl : Sem Bool} (he : PE X o ta) (c : Cls X.K C) (cc : Mth X.prog X.w X.K X.mg X.base C k m ps sp) (hr : Room k X.A)
    (ht : eval (.Call (.Attribute o m apos) [] [] pos) X.env = (do
      let ov ← eval o X.env
      standAt apos.atName
      let (f, first) ← holding [ov] (getMethod ov m pl)
      callWith pos f first (backTo pos (starEach [] X.env)) (backToKw pos (keywordEach [] X.env))) := by rfl) :
    PE X (.Call (.Attribute o m apos) [] [] pos) (tMeth C m sp [] E0 ta tNil) := by
  obtain ⟨f, fd, F, hm, hb⟩ := cc.ex
  exact pe_meth0 he c hm F hr hb .nil pass0 ht
theorem pe_mkc (c : Mkc X.prog X.w X.K X.mg X.base C k x ps sp) (hr : Room (k + 1) X.A) (ha : PA X (e :: es) t) (hg : Gl X x := by rfl)
    (hdb : (x == ("__debug__" : Str)) = false := by decide) (he : starEach (e :: es) X.env = (false, eval e X.env) :: starEach es X.env := by rfl) (hpl : (backTo pos (starEach es X.env)).any (·.1) = false := by rfl) :
    PE X (.Call (.Name x p) (e :: es) [] pos) (tMake C sp [] E0 t) := by
  obtain ⟨f, fd, F, hm, M, hb⟩ := c.ex
  exact pe_make M F hr hg hm hb .nil pass0 ha hdb he hpl
end
theorem pe_gstr {X : Cx} {x : Str} {z : Str} {t : Tok} {pos : Pos} (hm : X.mg x = some (.str z t)) (hg : Gl X x := by rfl) (hd : (x == ("__debug__" : Str)) = false := by decide) : PE X (.Name x pos) (tC (.str z)) := pe_glob (v := .str z) hg hm ⟨t, rfl⟩ hd
theorem pe_gint {X : Cx} {x : Str} {z : Int} {t : Tok} {pos : Pos} (hm : X.mg x = some (.int z t)) (hg : Gl X x := by rfl) (hd : (x == ("__debug__" : Str)) = false := by decide) : PE X (.Name x pos) (tC (.int z)) := pe_glob (v := .int z) hg hm ⟨t, rfl⟩ hd
/-! the same with the written part told apart from the frame (within a comprehension) -/
def rLenQ (K : PySem.W.Frag) : List V → Hp → VK → Prop := fun xs H Q => ∃ p ys, xs = [V.ref p] ∧ (SqL K H p ys ∨ SqT K H p ys) ∧ Q (V.int (ys.length : Nat)) H
theorem call_lenK {X : Cx} (K : PySem.W.Frag) (h : X.K = K := by rfl) : CallR X (.builtin "len") (rLenQ K) := by subst h; exact call_len_seq
theorem pe_fldK {X : Cx} (K : PySem.W.Frag) {e : Expr} {ta : TE} {f : Str} {pos : Pos} (he : PE X e ta) (hb : attributeBase e f X.env (eval e X.env) = eval e X.env := by rfl) (h : X.K = K := by rfl) : PE X (.Attribute e f pos) (tFld K ta f) := by subst h; exact pe_fld he hb
theorem pg_tupK {X : Cx} (K : PySem.W.Frag) (n : Nat) {es : List Expr} {k : Nat} {t : TGs} {pos : Pos} (h : PGs X es t) (hc : X.calm = true := by rfl) 
    (hn : (assignEach es X.env).length = n := by rfl) (hst : (assignEach es X.env).findIdx? (·.1) = none := by rfl) (hK : X.K = K := by rfl) : PG X (.Tuple es k pos) (gTup K n t) := by subst hK; exact pg_tup hc h hn hst
/-! ## what the walk asks of the text -/
structure Txt (K : PySem.W.Frag) (mg : Str → Option Value) (cL cM cH cR : Addr) : Prop where
  lC : Cls K cL
  mC : Cls K cM
  hC : Cls K cH
  rC : Cls K cR
  l1 : NoAttr K cL "rules"
  l2 : NoAttr K cL "standing"
  l3 : NoAttr K cL "gone_names"
  m1 : NoAttr K cM "book_rules"
  m2 : NoAttr K cM "book_texts"
  m3 : NoAttr K cM "book_lengths"
  m4 : NoAttr K cM "book_stands"
  m5 : NoAttr K cM "came"
  h1 : NoAttr K cH "rules"
  h2 : NoAttr K cH "grown"
  h3 : NoAttr K cH "entries"
  r1 : NoAttr K cR "tails"
  r2 : NoAttr K cR "hushed"
  enumerate : mg "enumerate" = none
  len : mg "len" = none
  sum : mg "sum" = none
  tuple : mg "tuple" = none
  isinstance : mg "isinstance" = none
  str : mg "str" = none
  list : mg "list" = none
  sorted : mg "sorted" = none
  dict : mg "dict" = none
  all : mg "all" = none
  reversed : mg "reversed" = none
  range : mg "range" = none
  min : mg "min" = none
  int : mg "int" = none
  gRUN : ∃ t, mg "RUN_SIGNS" = some (.str "abcdefghijklmnopqrstuvwxyz0123456789" t)
  gHL : ∃ t, mg "HOUSE_LETTERS" = some (.str "abcdefghijklmnopqrstuvwxyz" t)
  gHS : ∃ t, mg "HOUSE_SIGNS" = some (.str " !\"#$&'()*+,-./0123456789:;<=>?@ABCDEFGHIJKLMNOPQRSTUVWXYZ[\\]^_`abcdefghijklmnopqrstuvwxyz{|}~" t)
  gHN : ∃ t, mg "HOUSE_LONGEST" = some (.int 8 t)
  gHP : ∃ t, mg "HOUSE_PARTS" = some (.int 3 t)
  gRL : ∃ t, mg "RULE_LETTERS" = some (.str "abcdefghijklmnopqrstuvwxyz" t)
  gRS : ∃ t, mg "RULE_SIGNS" = some (.str "abcdefghijklmnopqrstuvwxyz0123456789" t)
  gLE : ∃ t, mg "LONGEST_ENDING" = some (.int 8 t)
  gLP : ∃ t, mg "LONGEST_PLAIN" = some (.int 20 t)
  gML : ∃ t, mg "MOST_LEFT" = some (.int 20 t)
end KR
set_option maxHeartbeats 4000000
namespace KR
open PySem PySem.Spec PyProof.Rows L2
theorem walk_enumS {z : Str} : Walk (Ites z) z.cps.size (fun _ => True) (fun i H v H' => ∃ T c, v = .ref T ∧ H T = none ∧ H' = upd H T (.tup [.int (i : Nat), .str ⟨#[c]⟩]) ∧ z.cps[i]? = some c) :=
  ⟨fun _ _ hi _ => hi, fun _ _ => rfl, fun _ _ _ _ _ _ y => y⟩
theorem walk_enumT {K : PySem.W.Frag} {a : Addr} {xs : List V} : Walk (Itet K a) xs.length (fun H => SqT K H a xs) (fun i H v H' => ∃ T x, v = .ref T ∧ H T = none ∧ H' = upd H T (.tup [.int (i : Nat), x]) ∧ xs[i]? = some x) :=
  ⟨fun i _ hi q => ⟨xs, xs[i], q, by simp [hi]⟩, fun _ q => ⟨xs, q, rfl⟩, fun _ _ _ _ _ q ⟨T, x, h1, h2, h3, h4⟩ => ⟨T, x, h1, h2, h3, h4 xs q⟩⟩
/-! ## runs_of -/
def sgnRun : Str := "abcdefghijklmnopqrstuvwxyz0123456789"
def runSt (small all : Str) : Nat → List (Str × Nat × Nat) × Nat
  | 0 => ([], 0)
  | i + 1 =>
    let st := runSt small all i
    if all.cps.getD i 0 ∈ sgnRun.cps.toList then st else
      (if st.2 < i then st.1 ++ [(cutS small (some (st.2 : Int)) (some (i : Int)), st.2, i)] else st.1, i + 1)
def lowOf (z : Str) : Str := Txt.lower z
def runsOf (z : Str) : List (Str × Nat × Nat) := (runSt (lowOf z) (lowOf z ++ " ") (lowOf z ++ " ").cps.size).1
theorem runSt_le (small all : Str) : ∀ i, (runSt small all i).1.length ≤ i ∧ (runSt small all i).2 ≤ i
  | 0 => ⟨Nat.le_refl _, Nat.le_refl _⟩
  | i + 1 => by
    have ih := runSt_le small all i
    unfold runSt
    dsimp only
    split
    · exact ⟨Nat.le_succ_of_le ih.1, Nat.le_succ_of_le ih.2⟩
    · refine ⟨?_, Nat.le_refl _⟩
      dsimp only
      split
      · rw [List.length_append]; exact Nat.succ_le_succ ih.1
      · exact Nat.le_succ_of_le ih.1
theorem cutS_length (z : Str) (lo hi : Option Int) : (cutS z lo hi).length ≤ z.length := by
  unfold cutS
  show (List.toArray _).size ≤ z.cps.size
  rw [List.size_toArray, List.length_take, List.length_drop]
  have : z.cps.toList.length = z.cps.size := by simp
  omega
theorem runSt_short (small all : Str) : ∀ i, ∀ r ∈ (runSt small all i).1, r.1.length ≤ small.length
  | 0 => fun r h => by cases h
  | i + 1 => fun r h => by
    have ih := runSt_short small all i
    unfold runSt at h
    dsimp only at h
    split at h
    · exact ih r h
    · dsimp only at h
      split at h
      · rcases List.mem_append.mp h with h | h
        · exact ih r h
        · rw [List.mem_singleton.mp h]; exact cutS_length _ _ _
      · exact ih r h
theorem low_len {z : Str} (h : z.length ≤ 1000) : (lowOf z).length ≤ 3000 := by
  have := len_lower z
  unfold lowOf
  omega
theorem app_len (a b : Str) : (a ++ b).length = a.length + b.length := by
  show (a.cps ++ b.cps).size = a.cps.size + b.cps.size
  exact Array.size_append
theorem runs_short {z : Str} (h : z.length ≤ 1000) : ∀ r ∈ runsOf z, r.1.length ≤ 3000 := fun r hr => Nat.le_trans (runSt_short _ _ _ r hr) (low_len h)
theorem runs_few {z : Str} (h : z.length ≤ 1000) : (runsOf z).length ≤ 3001 := by
  refine Nat.le_trans (runSt_le _ _ _).1 ?_
  have h1 : (lowOf z ++ " ").length = (lowOf z).length + 1 := app_len _ _
  have h2 := low_len h
  show (lowOf z ++ " ").length ≤ 3001
  omega
def runRow (r : Str × Nat × Nat) : PyData := .tuple [.str r.1, .int r.2.1, .int r.2.2]
def runsData (z : Str) : PyData := .list ((runsOf z).map runRow)
def spRuns (K : PySem.W.Frag) : Sp := fun vs H Q _ => ∃ z, vs = [.str z] ∧ z.length ≤ 1000 ∧ ∀ H' v, Same H H' → Dp K (nw H H') v (runsData z) → Q v H'
section
variable {P : Program} {w : World} {K : PySem.W.Frag} {mg : Str → Option Value} {base : Heap} {cL cM cH cR : Addr}
theorem scRuns : FnScope ["text", "small", "found", "begin", "at", "sign"] ["text"] (defScope sRuns) := ⟨rfl, rfl, rfl, by decide +kernel, rfl, by decide +kernel, by decide +kernel⟩
theorem ok_runs {f : Addr} {fd : FuncData} (F : Fun K "runs_of" "runs_of" sRuns f fd) (T : Txt K mg cL cM cH cR) : FnOk P w K mg base CX0 1 f fd ["text"] (spRuns K) := by
  refine F.ok scRuns (fun vs H Q E h => ?_) (fun cdv A outer s H vs Q E hr h => ?_)
  · obtain ⟨z, rfl, _⟩ := h
    rfl
  · obtain ⟨z, rfl, hz, k⟩ := h
    have nd := scRuns.nd
    obtain ⟨tR, gR⟩ := T.gRUN
    refine ⟨_, pss_cons (ps_set (i := 1) nd rfl (.inl rfl) (pe_lower (pv 0)))
      (pss_cons (ps_set (i := 2) nd rfl (.inl rfl) (pe_lst pa_nil))
      (pss_cons (ps_set (i := 3) nd rfl (.inl rfl) pe_int)
      (pss_cons (ps_for PassesOwn.never rfl (pi_enumS (by rfl) T.enumerate (pa_cons (pe_op op_add_str (pv 1) pe_str) pa_nil))
          (pg_tup rfl (pgs_cons (pg_name (i := 4) nd rfl (.inl rfl)) (pgs_cons (pg_name (i := 5) nd rfl (.inl rfl)) pgs_nil)))
          (pss_one (ps_if (pt_cmpR op_notIn_sign (pv 5) (pe_gstr gR) rfl)
            (pss_cons (ps_if (pt_cmpR op_lt (pv 3) (pv 4) (nomark _))
                (pss_one (ps_expr (pe_bm PySem.F.plainAttrs_list PySem.F.slot_list_append PySem.F.type_list_append mt_append (pv 2)
                  (pa_cons (pe_tup (pa_cons (pe_slice sl_str (pv 1) (po_some (pv 3)) (po_some (pv 4))) (pa_cons (pv 3) (pa_cons (pv 4) pa_nil)))) pa_nil))))
                pss_nil)
              (pss_one (ps_set (i := 3) nd rfl (.inl rfl) (pe_op op_add (pv 4) pe_int))))
            pss_nil)))
      (pss_one (ps_ret (pv 2)))))), ?_⟩
    have hz1 := low_len hz
    refine ⟨_, rfl, ⟨_, rfl⟩, z, rfl, rfl, Nat.le_trans hz (by decide), ?_⟩
    refine ⟨Nat.zero_le _, fun l hl => ?_⟩
    refine ⟨_, rfl, _, _, rfl, rfl, ?_, _, rfl, ?_⟩
    · show (lowOf z).length + 1 ≤ sizeLine
      rw [sizeLine_eq]; omega
    have s0 : Same H (upd H l (.lst [])) := same_upd hl
    refine for_it (walk_enumS (z := lowOf z ++ " ")) (fun i σ H1 => ∃ (a b : Option V), σ = [some (.str z), some (.str (lowOf z)), some (.ref l), some (.int ((runSt (lowOf z) (lowOf z ++ " ") i).2 : Nat)), a, b] ∧ Acc K H H1 l ((runSt (lowOf z) (lowOf z ++ " ") i).1.map runRow))
      ⟨none, none, rfl, Acc.start hl⟩ (fun _ _ _ _ _ => trivial) ?_ ?_
    · rintro i x σ H1 H2 hi ⟨a, b, rfl, A1⟩ ⟨T1, c, rfl, hT, rfl, hc⟩
      have ec : (lowOf z ++ " ").cps.getD i 0 = c := by rw [Array.getD_eq_getD_getElem?, hc]; rfl
      obtain ⟨b1, b2⟩ := runSt_le (lowOf z) (lowOf z ++ " ") i
      have A2 := A1.grow (same_upd (o := .tup [.int (i : Nat), .str ⟨#[c]⟩]) hT)
      have hi' : i < (lowOf z ++ " ").length := hi
      have hal : (lowOf z ++ " ").length = (lowOf z).length + 1 := app_len _ _
      refine ⟨T1, _, rfl, SqT.of upd_same, rfl, _, _, rfl, _, _, rfl, rfl, ?_⟩
      refine ⟨_, rfl, c, _, rfl, rfl, _, rfl, ?_⟩
      by_cases hm : c ∈ (sgnRun : Str).cps.toList
      · have e1 : runSt (lowOf z) (lowOf z ++ " ") (i + 1) = runSt (lowOf z) (lowOf z ++ " ") i := by
          conv => lhs; unfold runSt
          dsimp only
          rw [ec, if_pos hm]
        rw [show (!decide (c ∈ ("abcdefghijklmnopqrstuvwxyz0123456789" : Str).cps.toList)) = false by rw [decide_eq_true (show c ∈ ("abcdefghijklmnopqrstuvwxyz0123456789" : Str).cps.toList from hm)]; rfl]
        refine iteF ?_
        refine ⟨_, _, by rw [e1]; rfl, ?_⟩
        rw [e1]
        exact A2
      · rw [show (!decide (c ∈ ("abcdefghijklmnopqrstuvwxyz0123456789" : Str).cps.toList)) = true by rw [decide_eq_false (show ¬ c ∈ ("abcdefghijklmnopqrstuvwxyz0123456789" : Str).cps.toList from hm)]; rfl]
        refine iteT ?_
        refine ⟨_, rfl, _, rfl, _, _, rfl, rfl, _, rfl, ?_⟩
        by_cases hb : (runSt (lowOf z) (lowOf z ++ " ") i).2 < i
        · have e1 : runSt (lowOf z) (lowOf z ++ " ") (i + 1) = ((runSt (lowOf z) (lowOf z ++ " ") i).1 ++ [(cutS (lowOf z) (some ((runSt (lowOf z) (lowOf z ++ " ") i).2 : Int)) (some (i : Int)), (runSt (lowOf z) (lowOf z ++ " ") i).2, i)], i + 1) := by
            conv => lhs; unfold runSt
            dsimp only
            rw [ec, if_neg hm, if_pos hb]
          rw [decide_eq_true (show (((runSt (lowOf z) (lowOf z ++ " ") i).2 : Nat) : Int) < (i : Int) by omega)]
          refine iteT ?_
          obtain ⟨xs, hL, hD⟩ := A2.ex
          refine ⟨_, rfl, .inl ⟨rfl, _, SqL.of hL⟩, ⟨_, rfl, ⟨_, rfl, _, rfl, ⟨_, rfl, _, rfl, ⟨_, rfl, small_sz' (by omega), ⟨_, rfl, ⟨_, rfl, ⟨by show 3 ≤ sizeLine; decide, fun p hp => ?_⟩⟩⟩⟩⟩⟩⟩⟩
          have A3 := A2.grow (same_upd (o := .tup [.str (cutS (lowOf z) (some ((runSt (lowOf z) (lowOf z ++ " ") i).2 : Int)) (some (i : Int))), .int ((runSt (lowOf z) (lowOf z ++ " ") i).2 : Nat), .int (i : Nat)]) hp)
          have hL3 := same_upd (o := .tup [.str (cutS (lowOf z) (some ((runSt (lowOf z) (lowOf z ++ " ") i).2 : Int)) (some (i : Int))), .int ((runSt (lowOf z) (lowOf z ++ " ") i).2 : Nat), .int (i : Nat)]) hp _ _ hL
          have e2 := A3.len hL3
          rw [List.length_map] at e2
          refine ⟨l, xs, _, rfl, rfl, hL3, small_sz (by omega), ?_⟩
          refine ⟨_, rfl, _, _, rfl, rfl, ?_⟩
          refine ⟨_, _, by rw [e1]; rfl, ?_⟩
          rw [e1, List.map_append]
          exact A3.push hL3 (Dp.newTupD A2.same hp hL (.cons (.str _) (.cons (.int _) (.cons (.int _) .nil))))
        · have e1 : runSt (lowOf z) (lowOf z ++ " ") (i + 1) = ((runSt (lowOf z) (lowOf z ++ " ") i).1, i + 1) := by
            conv => lhs; unfold runSt
            dsimp only
            rw [ec, if_neg hm, if_neg hb]
          rw [decide_eq_false (show ¬ (((runSt (lowOf z) (lowOf z ++ " ") i).2 : Nat) : Int) < (i : Int) by omega)]
          refine iteF ?_
          refine ⟨_, rfl, _, _, rfl, rfl, ?_⟩
          refine ⟨_, _, by rw [e1]; rfl, ?_⟩
          rw [e1]
          exact A2
    · rintro σ H1 ⟨a, b, rfl, A1⟩
      exact ⟨_, rfl, k _ _ A1.same A1.done⟩
end
end KR
set_option maxHeartbeats 4000000
namespace KR
open PySem PySem.Spec PyProof.Rows L2
/-! ## rulebooks -/
structure Rb where
  tail : Str → Option (Str × Int)
  hush : Str → Bool
structure Rb.Ok (rb : Rb) : Prop where
  short : ∀ x i n, rb.tail x = some (i, n) → i.length ≤ 8
def rbF (d1 d2 : Addr) : List (Str × V) := putF "hushed" (.ref d2) (putF "tails" (.ref d1) [])
theorem nTH : ¬ (("tails" : Str) = "hushed") := by decide +kernel
theorem rbF_tails (d1 d2 : Addr) : (rbF d1 d2).lookup ("tails" : Str) = some (.ref d1) := by
  unfold rbF
  rw [lookup_putF, if_neg nTH, lookup_putF, if_pos rfl]
theorem rbF_hushed (d1 d2 : Addr) : (rbF d1 d2).lookup ("hushed" : Str) = some (.ref d2) := by
  unfold rbF
  rw [lookup_putF, if_pos rfl]
theorem rbF_no (d1 d2 : Addr) {m : Str} (h1 : ¬ m = "tails") (h2 : ¬ m = "hushed") : (rbF d1 d2).lookup m = none := by
  unfold rbF
  rw [lookup_putF, if_neg h2, lookup_putF, if_neg h1]
  all_goals rfl
def TailV (H : Hp) : Option V → Option (Str × Int) → Prop
  | none, none => True
  | some v, some (i, n) => ∃ a, v = .ref a ∧ H a = some (.tup [.str i, .int n])
  | _, _ => False
structure RbAt (cR : Addr) (H : Hp) (r : Addr) (rb : Rb) : Prop where
  ex : ∃ dx d1 d2 kv1 kv2, H r = some (.ins cR dx (rbF d1 d2)) ∧ H d1 = some (.dK kv1) ∧ H d2 = some (.dK kv2) ∧ (∀ x : Str, TailV H (valV kv1 (.inr x)) (rb.tail x)) ∧ (∀ x : Str, (valV kv2 (.inr x)).isSome = rb.hush x)
theorem TailV.mono {H H' : Hp} (s : Same H H') : ∀ {a : Option V} {b : Option (Str × Int)}, TailV H a b → TailV H' a b
  | none, none, _ => trivial
  | some v, some (i, n), ⟨a, h1, h2⟩ => ⟨a, h1, s _ _ h2⟩
  | none, some _, h => h.elim
  | some _, none, h => h.elim
theorem RbAt.mono {cR : Addr} {H H' : Hp} {r : Addr} {rb : Rb} (s : Same H H') (h : RbAt cR H r rb) : RbAt cR H' r rb := by
  obtain ⟨dx, d1, d2, kv1, kv2, h1, h2, h3, h4, h5⟩ := h.ex
  exact ⟨dx, d1, d2, kv1, kv2, s _ _ h1, s _ _ h2, s _ _ h3, fun x => TailV.mono s (h4 x), h5⟩
/-! brought -/
def stemOf (run : Str) (many : Nat) : Str := cutS run none (some ((run.length : Int) - (many : Nat)))
def restOf (run : Str) (many : Nat) : Str := cutS run (some ((stemOf run many).length : Int)) none
def broughtFrom (rb : Rb) (run : Str) : Nat → Str
  | 0 => run
  | m + 1 => match rb.tail (restOf run (m + 1)) with
    | some (ins, least) => if least ≤ ((stemOf run (m + 1)).length : Int) then stemOf run (m + 1) ++ ins else broughtFrom rb run m
    | none => broughtFrom rb run m
def brought (rb : Rb) (run : Str) : Str := broughtFrom rb run (min 8 run.length)
theorem stem_len (run : Str) {many : Nat} (h : many ≤ run.length) : (stemOf run many).length = run.length - many := by
  unfold stemOf cutS
  show (List.toArray _).size = run.cps.size - many
  rw [List.size_toArray, List.length_take, List.length_drop, HT.sIx_none]
  have e : HT.sIx run.length run.length (some ((run.length : Int) - (many : Nat))) = run.length - many := by
    have e1 : ((run.length : Int) - (many : Nat)) = ((run.length - many : Nat) : Int) := by omega
    rw [e1, HT.sIx_nat]
    omega
  rw [e]
  have e2 : run.cps.toList.length = run.cps.size := by simp
  have e3 : run.length = run.cps.size := rfl
  omega
theorem broughtFrom_len {rb : Rb} (ok : rb.Ok) {run : Str} {n : Nat} (h : run.length ≤ n) : ∀ m, (broughtFrom rb run m).length ≤ n + 8
  | 0 => Nat.le_trans h (Nat.le_add_right _ _)
  | m + 1 => by
    unfold broughtFrom
    split
    · rename_i ins least e
      split
      · rw [app_len]
        have h1 := ok.short _ _ _ e
        have h2 : (stemOf run (m + 1)).length ≤ run.length := cutS_length _ _ _
        omega
      · exact broughtFrom_len ok h m
    · exact broughtFrom_len ok h m
def spBrought (cR : Addr) : Sp := fun vs H Q _ => ∃ r rb run, vs = [.ref r, .str run] ∧ RbAt cR H r rb ∧ rb.Ok ∧ run.length ≤ 3000 ∧ ∀ H', Same H H' → Q (.str (brought rb run)) H'
def spSilent (cR : Addr) : Sp := fun vs H Q _ => ∃ r rb run, vs = [.ref r, .str run] ∧ RbAt cR H r rb ∧ Q (.bl (rb.hush run)) H
section
variable {P : Program} {w : World} {K : PySem.W.Frag} {mg : Str → Option Value} {base : Heap} {cL cM cH cR : Addr}
theorem scSilent : FnScope ["self", "run"] ["self", "run"] (defScope sRSilent) := ⟨rfl, rfl, rfl, by decide +kernel, rfl, by decide +kernel, by decide +kernel⟩
theorem ok_silent {f : Addr} {fd : FuncData} (F : Fun K "is_silent" "Rulebook.is_silent" sRSilent f fd) (T : Txt K mg cL cM cH cR) : FnOk P w K mg base CX0 1 f fd ["self", "run"] (spSilent cR) := by
  refine F.ok scSilent (fun vs H Q E h => ?_) (fun cdv A outer s H vs Q E hr h => ?_)
  · obtain ⟨r, rb, run, rfl, _⟩ := h
    rfl
  · obtain ⟨r, rb, run, rfl, R, k⟩ := h
    have hu := hu_of hr
    obtain ⟨dx, d1, d2, kv1, kv2, h1, h2, h3, h4, h5⟩ := R.ex
    refine ⟨_, pss_one (ps_ret (pe_cmp (pc_din hu (pv 1) (pe_fld (pv 0) rfl)) rfl)), ?_⟩
    refine ⟨_, rfl, _, rfl, r, cR, dx, _, _, rfl, h1, T.rC, T.r2, rbF_hushed _ _, d2, _, rfl, DGet.k (k := Sum.inr run) h3, ?_⟩
    rw [h5 run]
    exact k
theorem scBrought : FnScope ["self", "run", "many", "stem", "instead", "least"] ["self", "run"] (defScope sRBrought) := ⟨rfl, rfl, rfl, by decide +kernel, rfl, by decide +kernel, by decide +kernel⟩
theorem ok_brought {f : Addr} {fd : FuncData} (F : Fun K "brought" "Rulebook.brought" sRBrought f fd) (T : Txt K mg cL cM cH cR) : FnOk P w K mg base CX0 1 f fd ["self", "run"] (spBrought cR) := by
  refine F.ok scBrought (fun vs H Q E h => ?_) (fun cdv A outer s H vs Q E hr h => ?_)
  · obtain ⟨r, rb, run, rfl, _⟩ := h
    rfl
  · obtain ⟨r, rb, run, rfl, R, ok, hrun, k⟩ := h
    have hu := hu_of hr
    have nd := scBrought.nd
    obtain ⟨tE, gE⟩ := T.gLE
    refine ⟨_, pss_cons (ps_for PassesOwn.never rfl (pi_revR (by rfl) T.reversed (prg_2 (by rfl) T.range pe_int (pe_op op_add (pe_callB (call_min2 rfl) (by rfl) T.min (by decide +kernel) (pa_cons (pe_gint gE) (pa_cons (pe_callB call_len_str (by rfl) T.len PySem.boot_len (pa_cons (pv 1) pa_nil)) pa_nil))) pe_int)))
        (pg_name (i := 2) nd rfl (.inl rfl))
        (pss_cons (ps_set (i := 3) nd rfl (.inl rfl) (pe_slice sl_str (pv 1) po_none (po_some (pe_op op_sub (pe_callB call_len_str (by rfl) T.len PySem.boot_len (pa_cons (pv 1) pa_nil)) (pv 2)))))
        (pss_cons (ps_asg (pe_dget2 hu (pe_fld (pv 0) rfl) (pe_slice sl_str (pv 1) (po_some (pe_callB call_len_str (by rfl) T.len PySem.boot_len (pa_cons (pv 3) pa_nil))) po_none)
              (pe_tup (pa_cons pe_str (pa_cons (pe_callB call_len_str (by rfl) T.len PySem.boot_len (pa_cons (pv 1) pa_nil)) pa_nil))) ⟨rfl, rfl, rfl, rfl⟩)
            (pg_tup rfl (pgs_cons (pg_name (i := 4) nd rfl (.inl rfl)) (pgs_cons (pg_name (i := 5) nd rfl (.inl rfl)) pgs_nil))))
        (pss_one (ps_if (pt_cmpR op_ge (pe_callB call_len_str (by rfl) T.len PySem.boot_len (pa_cons (pv 3) pa_nil)) (pv 5) (nomark _))
          (pss_one (ps_ret (pe_op op_add_str (pv 3) (pv 4)))) pss_nil)))))
      (pss_one (ps_ret (pv 1))), ?_⟩
    have hsz : run.length ≤ sizeLine := small_sz' (by omega)
    have en : (if (run.length : Int) < 8 then (run.length : Int) else 8) + 1 = ((min 8 run.length : Nat) : Int) + 1 := by
      split <;> omega
    have hmin : min 8 run.length ≤ run.length := Nat.min_le_right _ _
    have hmin8 : min 8 run.length ≤ 8 := Nat.min_le_left _ _
    obtain ⟨N, hN⟩ : ∃ N, min 8 run.length = N := ⟨_, rfl⟩
    rw [hN] at en hmin hmin8
    have eN : (((N : Nat) : Int) + 1 - 1).toNat = N := by omega
    refine ⟨_, rfl, _, rfl, hsz, _, _, rfl, _, _, rfl, rfl, 1, ((N : Nat) : Int) + 1, rfl, congrArg V.int en, ?_⟩
    refine ⟨by omega, by omega, by omega, by omega, ?_⟩
    rw [eN]
    refine for_it (walk_rangeC (lo := 1 + (N : Int) - 1) (c := -1) (n := N)) (fun i σ H1 => ∃ (a b c d : Option V), σ = [some (.ref r), some (.str run), a, b, c, d] ∧ Same H H1 ∧ broughtFrom rb run (N - i) = brought rb run)
      ⟨none, none, none, none, rfl, Same.refl _, by unfold brought; rw [hN]; rfl⟩ (fun _ _ _ _ _ => trivial) ?_ ?_
    · rintro i x σ H1 H2 hi ⟨a, b, c, d, rfl, s1, hB⟩ ⟨eH, hx⟩
      subst eH
      have em : (1 + (N : Int) - 1 + (i : Nat) * (-1)) = ((N - i : Nat) : Int) := by omega
      obtain ⟨m, hm⟩ : ∃ m, N - i = m + 1 := ⟨N - i - 1, by omega⟩
      have hm' : N - (i + 1) = m := by omega
      rw [hm] at hB em
      have hx2 : x = V.int ((m + 1 : Nat) : Int) := by rw [hx]; exact congrArg V.int em
      subst hx2
      have hmr : m + 1 ≤ run.length := by omega
      have hst := stem_len run hmr
      have hst2 : (stemOf run (m + 1)).length ≤ sizeLine := small_sz' (by omega)
      obtain ⟨dx, d1, d2, kv1, kv2, h1, h2, h3, h4, h5⟩ := (R.mono s1).ex
      refine ⟨_, rfl, _, rfl, _, rfl, hsz, _, rfl, _, _, rfl, rfl, _, rfl, _, rfl, hsz, ?_⟩
      refine ⟨_, rfl, r, cR, dx, _, _, rfl, h1, T.rC, T.r1, rbF_tails _ _, d1, rfl, .inl ⟨_, .inl h2⟩, ?_⟩
      refine ⟨_, rfl, _, rfl, _, rfl, hst2, _, rfl, _, rfl, hsz, ?_⟩
      refine ⟨_, rfl, _, rfl, hsz, by show 2 ≤ sizeLine; decide, fun p hp => ?_⟩
      have s2 : Same H2 (upd H2 p (.tup [.str "", .int run.length])) := same_upd hp
      refine ⟨_, DGet.k (k := Sum.inr (restOf run (m + 1))) (s2 _ _ h2), ?_⟩
      have h4' := TailV.mono s2 (h4 (restOf run (m + 1)))
      unfold broughtFrom at hB
      cases eV : valV kv1 (Sum.inr (restOf run (m + 1)) : Key) with
      | none =>
        rw [eV] at h4'
        cases eT : rb.tail (restOf run (m + 1)) with
        | some q => rw [eT] at h4'; exact h4'.elim
        | none =>
          rw [eT] at hB
          refine ⟨p, _, rfl, SqT.of upd_same, rfl, _, _, rfl, _, _, rfl, rfl, ?_⟩
          refine ⟨_, rfl, _, rfl, hst2, _, rfl, _, _, rfl, rfl, _, rfl, ?_⟩
          refine ifdF (show ¬ (run.length : Int) ≤ ((stemOf run (m + 1)).length : Int) by rw [hst]; omega) ?_
          exact ⟨_, _, _, _, rfl, Same.trans s1 s2, by rw [hm']; exact hB⟩
      | some v =>
        rw [eV] at h4'
        cases eT : rb.tail (restOf run (m + 1)) with
        | none => rw [eT] at h4'; exact h4'.elim
        | some q =>
          obtain ⟨ins, least⟩ := q
          rw [eT] at h4' hB
          obtain ⟨a3, rfl, ha3⟩ := h4'
          refine ⟨a3, _, rfl, SqT.of ha3, rfl, _, _, rfl, _, _, rfl, rfl, ?_⟩
          refine ⟨_, rfl, _, rfl, hst2, _, rfl, _, _, rfl, rfl, _, rfl, ?_⟩
          dsimp only at hB
          by_cases hle : least ≤ ((stemOf run (m + 1)).length : Int)
          · refine ifdT hle ?_
            rw [if_pos hle] at hB
            have h1' := ok.short _ _ _ eT
            refine ⟨_, rfl, _, rfl, _, _, rfl, rfl, ?_, ?_⟩
            · show (stemOf run (m + 1)).length + ins.length ≤ sizeLine
              exact small_sz' (by omega)
            · have q := k _ (Same.trans s1 s2)
              rw [← hB] at q
              exact q
          · refine ifdF hle ?_
            rw [if_neg hle] at hB
            exact ⟨_, _, _, _, rfl, Same.trans s1 s2, by rw [hm']; exact hB⟩
    · rintro σ H1 ⟨a, b, c, d, rfl, s1, hB⟩
      rw [Nat.sub_self] at hB
      have e : brought rb run = run := hB.symm
      refine ⟨_, rfl, ?_⟩
      have q := k _ s1
      rw [e] at q
      exact q
end
end KR
set_option maxHeartbeats 4000000
namespace KR
open PySem PySem.Spec PyProof.Rows L2
theorem dpall_map {K : PySem.W.Frag} {H : Hp} {α : Type} {f : α → PyData} {rs : List α} {xs : List V} {i : Nat} {x : V} (h : DpAll K H xs (rs.map f)) (e : xs[i]? = some x) : ∃ r, rs[i]? = some r ∧ Dp K H x (f r) := by
  obtain ⟨d, h1, h2⟩ := h.get e
  rw [List.getElem?_map] at h1
  cases e2 : rs[i]? with
  | none => rw [e2] at h1; cases h1
  | some r =>
    rw [e2] at h1
    cases h1
    exact ⟨r, rfl, h2⟩
theorem dp_list {K : PySem.W.Frag} {H : Hp} {v : V} {ds : List PyData} (h : Dp K H v (.list ds)) : ∃ a xs, v = .ref a ∧ SqL K H a xs ∧ DpAll K H xs ds := by
  cases h with
  | lst q r => exact ⟨_, _, rfl, q, r⟩
theorem dp_tup {K : PySem.W.Frag} {H : Hp} {v : V} {ds : List PyData} (h : Dp K H v (.tuple ds)) : ∃ a xs, v = .ref a ∧ SqT K H a xs ∧ DpAll K H xs ds := by
  cases h with
  | tup q r => exact ⟨_, _, rfl, q, r⟩
theorem dp_run {K : PySem.W.Frag} {H : Hp} {v : V} {r : Str × Nat × Nat} (h : Dp K H v (runRow r)) : ∃ a, v = .ref a ∧ SqT K H a [.str r.1, .int r.2.1, .int r.2.2] := by
  obtain ⟨a, xs, e, q, t⟩ := dp_tup h
  cases t with
  | cons t1 t =>
    cases t with
    | cons t2 t =>
      cases t with
      | cons t3 t =>
        cases t
        cases t1
        cases t2
        cases t3
        exact ⟨a, e, q⟩
abbrev Wd := Str × Nat × Nat × Nat
def wordSt (rb : Rb) (rs : List (Str × Nat × Nat)) : Nat → List Wd
  | 0 => []
  | i + 1 => match rs[i]? with
    | some r => if rb.hush r.1 = true then wordSt rb rs i else wordSt rb rs i ++ [(brought rb r.1, i, r.2.1, r.2.2)]
    | none => wordSt rb rs i
def wordsOf (rb : Rb) (z : Str) : List Wd := wordSt rb (runsOf z) (runsOf z).length
def wordRow (r : Wd) : PyData := .tuple [.str r.1, .int r.2.1, .int r.2.2.1, .int r.2.2.2]
def wordsData (rb : Rb) (z : Str) : PyData := .list ((wordsOf rb z).map wordRow)
theorem wordSt_le (rb : Rb) (rs : List (Str × Nat × Nat)) : ∀ i, (wordSt rb rs i).length ≤ i
  | 0 => Nat.le_refl _
  | i + 1 => by
    have ih := wordSt_le rb rs i
    unfold wordSt
    split
    · split
      · exact Nat.le_succ_of_le ih
      · rw [List.length_append]; exact Nat.succ_le_succ ih
    · exact Nat.le_succ_of_le ih
theorem words_few {rb : Rb} {z : Str} (h : z.length ≤ 1000) : (wordsOf rb z).length ≤ 3001 := Nat.le_trans (wordSt_le _ _ _) (runs_few h)
theorem dp_word {K : PySem.W.Frag} {H : Hp} {v : V} {r : Wd} (h : Dp K H v (wordRow r)) : ∃ a, v = .ref a ∧ SqT K H a [.str r.1, .int r.2.1, .int r.2.2.1, .int r.2.2.2] := by
  obtain ⟨a, xs, e, q, t⟩ := dp_tup h
  cases t with
  | cons t1 t =>
    cases t with
    | cons t2 t =>
      cases t with
      | cons t3 t =>
        cases t with
        | cons t4 t =>
          cases t
          cases t1
          cases t2
          cases t3
          cases t4
          exact ⟨a, e, q⟩
def spWords (K : PySem.W.Frag) (cR : Addr) : Sp := fun vs H Q _ => ∃ r rb z, vs = [.ref r, .str z] ∧ RbAt cR H r rb ∧ rb.Ok ∧ z.length ≤ 1000 ∧ ∀ H' v, Same H H' → Dp K (nw H H') v (wordsData rb z) → Q v H'
section
variable {P : Program} {w : World} {K : PySem.W.Frag} {mg : Str → Option Value} {base : Heap} {cL cM cH cR : Addr}
theorem scWords : FnScope ["rulebook", "text", "found", "place", "run", "begin", "end"] ["rulebook", "text"] (defScope sWords) := ⟨rfl, rfl, rfl, by decide +kernel, rfl, by decide +kernel, by decide +kernel⟩
theorem ok_words {f : Addr} {fd : FuncData} (F : Fun K "words_of" "words_of" sWords f fd) (T : Txt K mg cL cM cH cR)
    (cRuns : Cal P w K mg base 1 "runs_of" ["text"] (spRuns K)) (mSil : Mth P w K mg base cR 1 "is_silent" ["self", "run"] (spSilent cR)) (mBro : Mth P w K mg base cR 1 "brought" ["self", "run"] (spBrought cR)) :
    FnOk P w K mg base CX0 2 f fd ["rulebook", "text"] (spWords K cR) := by
  refine F.ok scWords (fun vs H Q E h => ?_) (fun cdv A outer s H vs Q E hr h => ?_)
  · obtain ⟨r, rb, z, rfl, _⟩ := h
    rfl
  · obtain ⟨r, rb, z, rfl, R, ok, hz, k⟩ := h
    have hu := hu_of hr
    have nd := scWords.nd
    refine ⟨_, pss_cons (ps_set (i := 2) nd rfl (.inl rfl) (pe_lst pa_nil))
      (pss_cons (ps_for PassesOwn.never rfl (pi_enum (by rfl) T.enumerate (pa_cons (pe_cal cRuns hr (pa_cons (pv 1) pa_nil)) pa_nil))
          (pg_tup rfl (pgs_cons (pg_name (i := 3) nd rfl (.inl rfl)) (pgs_cons (pg_tup rfl (pgs_cons (pg_name (i := 4) nd rfl (.inl rfl)) (pgs_cons (pg_name (i := 5) nd rfl (.inl rfl)) (pgs_cons (pg_name (i := 6) nd rfl (.inl rfl)) pgs_nil)))) pgs_nil)))
          (pss_one (ps_if (pt_not (pt_val (pe_mth (pv 0) T.rC mSil hr (pa_cons (pv 4) pa_nil))))
            (pss_one (ps_expr (pe_bm PySem.F.plainAttrs_list PySem.F.slot_list_append PySem.F.type_list_append mt_append (pv 2)
                  (pa_cons (pe_tup (pa_cons (pe_mth (pv 0) T.rC mBro hr (pa_cons (pv 4) pa_nil)) (pa_cons (pv 3) (pa_cons (pv 5) (pa_cons (pv 6) pa_nil))))) pa_nil))))
            pss_nil)))
      (pss_one (ps_ret (pv 2)))), ?_⟩
    refine ⟨Nat.zero_le _, fun l hl => ?_⟩
    refine ⟨_, rfl, z, rfl, hz, fun H1 v s1 D1 => ?_⟩
    obtain ⟨a1, xs, rfl, q1, t1⟩ := dp_list D1
    have A0 : Acc K H H1 l [] := (Acc.start hl).grow s1
    have few := runs_few hz
    have hlx : xs.length = (runsOf z).length := by rw [t1.length, List.length_map]
    have hl0 : (upd H l (.lst [])) l = some (.lst []) := upd_same
    refine ⟨a1, xs, rfl, Same.seq nw_sub q1, ?_⟩
    refine for_it (walk_enum (xs := xs)) (fun i σ H2 => ∃ (a b c d : Option V), σ = [some (.ref r), some (.str z), some (.ref l), a, b, c, d] ∧ Same (nw (upd H l (.lst [])) H1) H2 ∧ Acc K H H2 l ((wordSt rb (runsOf z) i).map wordRow))
      ⟨none, none, none, none, rfl, nw_sub, A0⟩ (fun i σ H2 _ ⟨_, _, _, _, _, s, _⟩ => Same.seq s q1) ?_ ?_
    · rintro i x σ H2 H3 hi ⟨a, b, c, d, rfl, s2, A1⟩ ⟨T1, i', y, rfl, hT, rfl, ei, ey⟩
      cases ei
      obtain ⟨rn, ern, drn⟩ := dpall_map t1 ey
      obtain ⟨ta, rfl, hta⟩ := dp_run drn
      have sT : Same H2 (upd H2 T1 (.tup [.int (i : Nat), .ref ta])) := same_upd hT
      have A2 := A1.grow sT
      have R2 := R.mono A2.same
      have hrs : rn.1.length ≤ 3000 := runs_short hz rn (List.mem_of_getElem? ern)
      obtain ⟨dx, d1, d2, kv1, kv2, h1, _⟩ := R2.ex
      refine ⟨T1, _, rfl, SqT.of upd_same, rfl, _, _, rfl, _, _, rfl, ?_⟩
      refine ⟨ta, _, rfl, Same.tup (Same.trans s2 sT) hta, rfl, _, _, rfl, _, _, rfl, _, _, rfl, rfl, rfl, ?_⟩
      refine ⟨_, rfl, r, dx, _, rfl, h1, rbF_no _ _ (by decide +kernel) (by decide +kernel), _, rfl, r, rb, rn.1, rfl, R2, _, rfl, ?_⟩
      cases eh : rb.hush rn.1 with
      | true =>
        refine iteF ?_
        have e1 : wordSt rb (runsOf z) (i + 1) = wordSt rb (runsOf z) i := by
          conv => lhs; unfold wordSt
          rw [ern]; dsimp only; rw [if_pos eh]
        refine ⟨_, _, _, _, rfl, Same.trans s2 sT, ?_⟩
        rw [e1]
        exact A2
      | false =>
        refine iteT ?_
        have e1 : wordSt rb (runsOf z) (i + 1) = wordSt rb (runsOf z) i ++ [(brought rb rn.1, i, rn.2.1, rn.2.2)] := by
          conv => lhs; unfold wordSt
          rw [ern]; dsimp only; rw [if_neg (by rw [eh]; exact Bool.false_ne_true)]
        obtain ⟨ys, hL, hD⟩ := A2.ex
        refine ⟨_, rfl, .inl ⟨rfl, _, SqL.of hL⟩, ?_⟩
        refine ⟨_, rfl, r, dx, _, rfl, h1, rbF_no _ _ (by decide +kernel) (by decide +kernel), _, rfl, r, rb, rn.1, rfl, R2, ok, hrs, fun H4 s4 => ?_⟩
        have A4 := A2.grow s4
        refine ⟨_, rfl, _, rfl, _, rfl, by show 4 ≤ sizeLine; decide, fun p hp => ?_⟩
        have A5 := A4.grow (same_upd (o := .tup [.str (brought rb rn.1), .int (i : Nat), .int rn.2.1, .int rn.2.2]) hp)
        have hL4 := s4 _ _ hL
        have hL5 := same_upd (o := .tup [.str (brought rb rn.1), .int (i : Nat), .int rn.2.1, .int rn.2.2]) hp _ _ hL4
        have e2 := A5.len hL5
        rw [List.length_map] at e2
        have e3 := wordSt_le rb (runsOf z) i
        refine ⟨l, ys, _, rfl, rfl, hL5, small_sz (by omega), ?_⟩
        refine ⟨_, _, _, _, rfl, ?_, ?_⟩
        · exact same_wr (Same.trans s2 (Same.trans sT (Same.trans s4 (same_upd hp)))) (nw_at hl0)
        · rw [e1, List.map_append]
          exact A5.push hL5 (Dp.newTupD A4.same hp hL4 (.cons (.str _) (.cons (.int _) (.cons (.int _) (.cons (.int _) .nil)))))
    · rintro σ H2 ⟨a, b, c, d, rfl, s2, A2⟩
      rw [hlx] at A2
      exact ⟨_, rfl, k _ _ A2.same A2.done⟩
end
end KR
set_option maxHeartbeats 4000000
namespace KR
open PySem PySem.Spec PyProof.Rows L2
/-! ## association lists -/
def ensure {α : Type} (m : List (Str × List α)) (k : Str) : List (Str × List α) := if (m.any fun p => decide (p.1 = k)) = true then m else m ++ [(k, [])]
def pushM {α : Type} (m : List (Str × List α)) (k : Str) (x : α) : List (Str × List α) := m.map fun p => if p.1 = k then (p.1, p.2 ++ [x]) else p
def pushA {α : Type} (m : List (Str × List α)) (k : Str) (x : α) : List (Str × List α) := pushM (ensure m k) k x
theorem ensure_len {α : Type} (m : List (Str × List α)) (k : Str) : (ensure m k).length ≤ m.length + 1 := by
  unfold ensure
  split
  · exact Nat.le_succ _
  · rw [List.length_append]; exact Nat.le_refl _
theorem pushA_len {α : Type} (m : List (Str × List α)) (k : Str) (x : α) : (pushA m k x).length ≤ m.length + 1 := by
  unfold pushA pushM
  rw [List.length_map]
  exact ensure_len m k
theorem ensure_map {α β : Type} (f : α → β) (m : List (Str × List α)) (k : Str) : ensure (m.map fun p => (p.1, p.2.map f)) k = (ensure m k).map fun p => (p.1, p.2.map f) := by
  unfold ensure
  rw [List.any_map]
  show (if (m.any fun p => decide (p.1 = k)) = true then _ else _) = _
  split
  · rfl
  · rw [List.map_append]; rfl
theorem pushM_map {α β : Type} (f : α → β) (m : List (Str × List α)) (k : Str) (x : α) : pushM (m.map fun p => (p.1, p.2.map f)) k (f x) = (pushM m k x).map fun p => (p.1, p.2.map f) := by
  unfold pushM
  rw [List.map_map, List.map_map]
  refine List.map_congr_left fun p _ => ?_
  show (if p.1 = k then (p.1, p.2.map f ++ [f x]) else (p.1, p.2.map f)) = _
  by_cases e : p.1 = k
  · simp [e]
  · simp [e]
theorem pushA_map {α β : Type} (f : α → β) (m : List (Str × List α)) (k : Str) (x : α) : pushA (m.map fun p => (p.1, p.2.map f)) k (f x) = (pushA m k x).map fun p => (p.1, p.2.map f) := by
  unfold pushA
  rw [ensure_map, pushM_map]
/-- a dict with text keys and known data -/
def DkAll (K : PySem.W.Frag) (H : Hp) (kvs : List (Key × V)) (m : List (Str × PyData)) : Prop := Paired (fun (kv : Key × V) (p : Str × PyData) => kv.1 = .inr p.1 ∧ Dp K H kv.2 p.2) kvs m
def aget {α : Type} (m : List (Str × α)) (k : Str) : Option α := (m.find? fun p => decide (p.1 = k)).map (·.2)
theorem DkAll.mono {K : PySem.W.Frag} {H H' : Hp} (s : Same H H') {kvs : List (Key × V)} {m : List (Str × PyData)} (h : DkAll K H kvs m) : DkAll K H' kvs m := by
  unfold DkAll at h ⊢
  induction h with
  | nil => exact .nil
  | cons q _ ih => exact .cons ⟨q.1, Dp.mono s q.2⟩ ih
theorem DkAll.len {K : PySem.W.Frag} {H : Hp} {kvs : List (Key × V)} {m : List (Str × PyData)} (h : DkAll K H kvs m) : kvs.length = m.length := Paired.length h
theorem DkAll.keys {K : PySem.W.Frag} {H : Hp} {kvs : List (Key × V)} {m : List (Str × PyData)} (h : DkAll K H kvs m) : kvs.map (·.1) = (m.map (·.1)).map Sum.inr := by
  unfold DkAll at h
  induction h with
  | nil => rfl
  | cons q _ ih => simp only [List.map_cons]; rw [ih, q.1]
theorem DkAll.val {K : PySem.W.Frag} {H : Hp} {kvs : List (Key × V)} {m : List (Str × PyData)} (h : DkAll K H kvs m) (k : Str) : (valV kvs (.inr k) = none ∧ aget m k = none) ∨ ∃ v d, valV kvs (.inr k) = some v ∧ aget m k = some d ∧ Dp K H v d := by
  unfold DkAll at h
  induction h with
  | nil => exact .inl ⟨rfl, rfl⟩
  | @cons kv p kvs m q _ ih =>
    by_cases e : p.1 = k
    · refine .inr ⟨kv.2, p.2, valV_pos (by rw [q.1, e]), ?_, q.2⟩
      simp [aget, List.find?_cons, e]
    · have e1 : ¬ kv.1 = (.inr k : Key) := by
        rw [q.1]; exact fun z => e (Sum.inr.inj z)
      rw [valV_neg e1]
      have e2 : aget (p :: m) k = aget m k := by simp [aget, List.find?_cons, e]
      rw [e2]; exact ih
theorem DkAll.snoc {K : PySem.W.Frag} {H : Hp} {kvs : List (Key × V)} {m : List (Str × PyData)} {k : Str} {v : V} {d : PyData} (h : DkAll K H kvs m) (q : Dp K H v d) : DkAll K H (kvs ++ [(.inr k, v)]) (m ++ [(k, d)]) := by
  unfold DkAll at h ⊢
  induction h with
  | nil => exact .cons ⟨rfl, q⟩ .nil
  | cons r _ ih => exact .cons r ih
/-! ## a dict of lists that grow -/
abbrev DE := Str × Addr × List PyData
def deK (es : List DE) : List (Key × V) := es.map fun e => (.inr e.1, .ref e.2.1)
def deM (es : List DE) : List (Str × List PyData) := es.map fun e => (e.1, e.2.2)
def deL (es : List DE) : List Addr := es.map fun e => e.2.1
structure DL (K : PySem.W.Frag) (H0 G H : Hp) (d : Addr) (es : List DE) : Prop where
  same : Same H0 H
  prot : Same G H
  at_ : H d = some (.dK (deK es))
  keys : (es.map (·.1)).Nodup
  nd : (d :: deL es).Nodup
  new : ∀ a ∈ d :: deL es, H0 a = none ∧ G a = none
  lst : ∀ e ∈ es, ∃ xs, H e.2.1 = some (.lst xs) ∧ DpAll K G xs e.2.2
  gnew : ∀ a o, H0 a = some o → G a = none
theorem DL.start {K : PySem.W.Frag} {H0 G H : Hp} {d : Addr} (s : Same H0 H) (g : Same G H) (n : H d = none) (gn : ∀ a o, H0 a = some o → G a = none) : DL K H0 G (upd H d (.dK [])) d [] :=
  ⟨Same.trans s (same_upd n), Same.trans g (same_upd n), upd_same, List.nodup_nil, by simp [deL], fun a ha => by
    have e : a = d := by simpa [deL] using ha
    subst e
    exact ⟨Same.free s n, Same.free g n⟩, (fun _ h => by cases h), gn⟩
theorem DL.grow {K : PySem.W.Frag} {H0 G H G' H' : Hp} {d : Addr} {es : List DE} (D : DL K H0 G H d es) (s : Same H H') (g : Same G G') (p : Same G' H') (f : ∀ a o, H a = some o → G a = none → G' a = none) : DL K H0 G' H' d es := by
  have there : ∀ a ∈ d :: deL es, ∃ o, H a = some o := fun a ha => by
    rcases List.mem_cons.mp ha with e | ha
    · rw [e]; exact ⟨_, D.at_⟩
    · obtain ⟨e, he, rfl⟩ := List.mem_map.mp ha
      obtain ⟨xs, h1, _⟩ := D.lst e he
      exact ⟨_, h1⟩
  refine ⟨Same.trans D.same s, p, s _ _ D.at_, D.keys, D.nd, fun a ha => ?_, fun e he => ?_, fun a o e => f a o (D.same _ _ e) (D.gnew a o e)⟩
  · obtain ⟨o, ho⟩ := there a ha
    obtain ⟨n1, n2⟩ := D.new a ha
    exact ⟨n1, f a o ho n2⟩
  · obtain ⟨xs, h1, h2⟩ := D.lst e he
    exact ⟨xs, s _ _ h1, DpAll.mono g h2⟩
theorem DL.growS {K : PySem.W.Frag} {H0 G H H' : Hp} {d : Addr} {es : List DE} (D : DL K H0 G H d es) (s : Same H H') : DL K H0 G H' d es := D.grow s (Same.refl _) (Same.trans D.prot s) fun _ _ _ h => h
/-- G and what is new -/
def join (G N : Hp) : Hp := fun a => match G a with | some o => some o | none => N a
theorem join_l {G N : Hp} : Same G (join G N) := fun a o e => by unfold join; rw [e]
theorem join_some {G N : Hp} {a : Addr} {o : HO} (h : join G N a = some o) : G a = some o ∨ (G a = none ∧ N a = some o) := by
  unfold join at h
  cases e : G a with
  | some u => rw [e] at h; exact .inl h
  | none => rw [e] at h; exact .inr ⟨rfl, h⟩
theorem join_r {G N : Hp} (h : ∀ a o u, G a = some o → N a = some u → o = u) : Same N (join G N) := fun a o e => by
  unfold join
  cases q : G a with
  | some u => exact congrArg some (h a u o q e)
  | none => exact e
theorem join_sub {G N H : Hp} (g : Same G H) (n : Same N H) : Same (join G N) H := fun a o e => by
  rcases join_some e with e | ⟨_, e⟩
  · exact g _ _ e
  · exact n _ _ e
/-- what is new behind H is known from now on -/
theorem DL.keep {K : PySem.W.Frag} {H0 G H H' : Hp} {d : Addr} {es : List DE} (D : DL K H0 G H d es) (s : Same H H') : DL K H0 (join G (nw H H')) H' d es :=
  D.grow s join_l (join_sub (Same.trans D.prot s) nw_sub) fun a o ho hn => by
    cases e : join G (nw H H') a with
    | none => rfl
    | some u =>
      rcases join_some e with e | ⟨_, e⟩
      · rw [hn] at e; cases e
      · rw [nw_at ho] at e; cases e
/-- a write elsewhere -/
theorem DL.other {K : PySem.W.Frag} {H0 G H : Hp} {d a : Addr} {es : List DE} {o : HO} (D : DL K H0 G H d es) (h0 : H0 a = none) (hg : G a = none) (hd : a ≠ d) (hl : ∀ xs, H a ≠ some (.lst xs)) : DL K H0 G (upd H a o) d es := by
  refine ⟨same_wr D.same h0, same_wr D.prot hg, by rw [upd_ne hd.symm]; exact D.at_, D.keys, D.nd, D.new, fun e he => ?_, D.gnew⟩
  obtain ⟨xs, h1, h2⟩ := D.lst e he
  have ne : e.2.1 ≠ a := fun z => hl xs (by rw [← z]; exact h1)
  exact ⟨xs, by rw [upd_ne ne]; exact h1, h2⟩
/-- a smaller region -/
theorem DL.region {K : PySem.W.Frag} {H0 G G' H : Hp} {d : Addr} {es : List DE} (D : DL K H0 G H d es) (g : Same G G') (p : Same G' H) (f : ∀ a ∈ d :: deL es, G' a = none) (gn : ∀ a o, H0 a = some o → G' a = none) : DL K H0 G' H d es :=
  ⟨D.same, p, D.at_, D.keys, D.nd, fun a ha => ⟨(D.new a ha).1, f a ha⟩, (fun e he => by
    obtain ⟨xs, h1, h2⟩ := D.lst e he
    exact ⟨xs, h1, DpAll.mono g h2⟩), gn⟩
theorem deK_val {es : List DE} (k : Str) : (valV (deK es) (.inr k) = none ∧ ((deM es).any fun p => decide (p.1 = k)) = false ∧ ∀ e ∈ es, e.1 ≠ k) ∨ ∃ e ∈ es, e.1 = k ∧ valV (deK es) (.inr k) = some (.ref e.2.1) ∧ ((deM es).any fun p => decide (p.1 = k)) = true := by
  induction es with
  | nil => exact .inl ⟨rfl, rfl, fun _ h => by cases h⟩
  | cons x es ih =>
    by_cases e : x.1 = k
    · refine .inr ⟨x, List.mem_cons_self, e, ?_, ?_⟩
      · exact valV_pos (by rw [← e])
      · simp [deM, e]
    · have e1 : ¬ (Sum.inr x.1 : Key) = .inr k := fun z => e (Sum.inr.inj z)
      have e2 : valV (deK (x :: es)) (.inr k) = valV (deK es) (.inr k) := valV_neg (p := ((Sum.inr x.1 : Key), V.ref x.2.1)) e1
      have e3 : ((deM (x :: es)).any fun p => decide (p.1 = k)) = ((deM es).any fun p => decide (p.1 = k)) := by simp [deM, e]
      rw [e2, e3]
      rcases ih with ⟨h1, h2, h3⟩ | ⟨y, h1, h2, h3, h4⟩
      · refine .inl ⟨h1, h2, fun z hz => ?_⟩
        rcases List.mem_cons.mp hz with q | q
        · rw [q]; exact e
        · exact h3 z q
      · exact .inr ⟨y, List.mem_cons_of_mem _ h1, h2, h3, h4⟩
/-- setdefault(k, []): the key is there -/
theorem DL.there {K : PySem.W.Frag} {H0 G H : Hp} {d : Addr} {es : List DE} {k : Str} {v : V} (D : DL K H0 G H d es) (h : valV (deK es) (.inr k) = some v) : ∃ e ∈ es, e.1 = k ∧ v = .ref e.2.1 ∧ ensure (deM es) k = deM es := by
  rcases deK_val (es := es) k with ⟨h1, _⟩ | ⟨e, h1, h2, h3, h4⟩
  · rw [h1] at h; cases h
  · rw [h3] at h
    refine ⟨e, h1, h2, (Option.some.inj h).symm, ?_⟩
    unfold ensure
    rw [if_pos h4]
/-- setdefault(k, []): it is put -/
theorem DL.put {K : PySem.W.Frag} {H0 G H : Hp} {d q : Addr} {es : List DE} {k : Str} (D : DL K H0 G H d es) (hq : H q = some (.lst [])) (hq0 : H0 q = none) (hqG : G q = none) (hqd : q ≠ d) (hql : q ∉ deL es) (h : valV (deK es) (.inr k) = none) :
    DL K H0 G (upd H d (.dK (putK (deK es) (.inr k) (.ref q)))) d (es ++ [(k, q, [])]) ∧ deM (es ++ [(k, q, [])]) = ensure (deM es) k ∧ putK (deK es) (.inr k) (.ref q) = deK (es ++ [(k, q, [])]) := by
  have e1 : putK (deK es) (.inr k) (.ref q) = deK (es ++ [(k, q, [])]) := by
    rw [putK_new _ h]
    unfold deK
    rw [List.map_append]; rfl
  have hd0 := D.new d List.mem_cons_self
  rcases deK_val (es := es) k with ⟨_, h2, h3⟩ | ⟨e, _, _, h3, _⟩
  · refine ⟨⟨same_wr D.same hd0.1, same_wr D.prot hd0.2, by rw [upd_same, e1], ?_, ?_, fun a ha => ?_, fun e he => ?_, D.gnew⟩, ?_, e1⟩
    · rw [List.map_append]
      refine List.nodup_append.mpr ⟨D.keys, by simp, fun a ha b hb => ?_⟩
      have eb : b = k := by simpa using hb
      obtain ⟨e, he, rfl⟩ := List.mem_map.mp ha
      rw [eb]; exact h3 e he
    · have : d :: deL (es ++ [(k, q, [])]) = (d :: deL es) ++ [q] := by unfold deL; rw [List.map_append]; rfl
      rw [this]
      refine List.nodup_append.mpr ⟨D.nd, by simp, fun a ha b hb => ?_⟩
      have eb : b = q := by simpa using hb
      rw [eb]
      rcases List.mem_cons.mp ha with z | z
      · rw [z]; exact hqd.symm
      · exact fun w => hql (w ▸ z)
    · have e2 : deL (es ++ [(k, q, [])]) = deL es ++ [q] := by unfold deL; rw [List.map_append]; rfl
      rw [e2] at ha
      rcases List.mem_cons.mp ha with z | z
      · exact D.new a (z ▸ List.mem_cons_self)
      · rcases List.mem_append.mp z with z | z
        · exact D.new a (List.mem_cons_of_mem _ z)
        · have : a = q := by simpa using z
          rw [this]; exact ⟨hq0, hqG⟩
    · rcases List.mem_append.mp he with he | he
      · obtain ⟨xs, g1, g2⟩ := D.lst e he
        have ne : e.2.1 ≠ d := fun z => by
          have := (List.nodup_cons.mp D.nd).1
          exact this (z ▸ List.mem_map.mpr ⟨e, he, rfl⟩)
        exact ⟨xs, by rw [upd_ne ne]; exact g1, g2⟩
      · have e3 : e = (k, q, []) := by simpa using he
        subst e3
        exact ⟨[], by rw [upd_ne hqd]; exact hq, .nil⟩
    · unfold ensure
      rw [h2]
      unfold deM
      rw [List.map_append]; rfl
  · rw [h3] at h; cases h
/-- the reading of d.setdefault(k, []), both ways in one -/
theorem DL.setd {K : PySem.W.Frag} {H0 G H : Hp} {d q : Addr} {es : List DE} {k : Str} {R : V → Hp → Prop} (D : DL K H0 G H d es) (n : H q = none)
    (h : ∀ (e : DE) (es' : List DE) (H4 : Hp), e ∈ es' → e.1 = k → DL K H0 G H4 d es' → deM es' = ensure (deM es) k → (∀ a, a ≠ d → H4 a = upd H q (.lst []) a) → R (.ref e.2.1) H4) :
    (∀ v, valV (deK es) (.inr k) = some v → R v (upd H q (.lst []))) ∧ (valV (deK es) (.inr k) = none → R (.ref q) (upd (upd H q (.lst [])) d (.dK (putK (deK es) (.inr k) (.ref q))))) := by
  have D1 : DL K H0 G (upd H q (.lst [])) d es := D.growS (same_upd n)
  refine ⟨fun v hv => ?_, fun hv => ?_⟩
  · obtain ⟨e, he, hk, rfl, e2⟩ := D1.there hv
    exact h e es _ he hk D1 e2.symm fun _ _ => rfl
  · have hqd : q ≠ d := (ne_of_none D.at_ n).symm
    have hql : q ∉ deL es := fun hm => by
      obtain ⟨e, he, ee⟩ := List.mem_map.mp hm
      obtain ⟨xs, h1, _⟩ := D.lst e he
      rw [ee, n] at h1
      cases h1
    obtain ⟨D2, e1, _⟩ := D1.put upd_same (Same.free D.same n) (Same.free D.prot n) hqd hql hv
    exact h (k, q, []) _ _ (List.mem_append_right _ List.mem_cons_self) rfl D2 e1 fun a ha => upd_ne ha
theorem DL.setdQ {K : PySem.W.Frag} {H0 G H : Hp} {d q : Addr} {es : List DE} {k : Str} {Q : VK} (D : DL K H0 G H d es) (n : H q = none) (hz : es.length < sizeLine)
    (h : ∀ (e : DE) (es' : List DE) (H4 : Hp), e ∈ es' → e.1 = k → DL K H0 G H4 d es' → deM es' = ensure (deM es) k → (∀ a, a ≠ d → H4 a = upd H q (.lst []) a) → Q (.ref e.2.1) H4) :
    ∃ (kvs : List (Key × V)) (k' : Key), (upd H q (.lst [])) d = some (.dK kvs) ∧ V.str k = kV k' ∧ kvs.length < sizeLine ∧ (∀ v, valV kvs k' = some v → Q v (upd H q (.lst []))) ∧ (valV kvs k' = none → Q (.ref q) (upd (upd H q (.lst [])) d (.dK (putK kvs k' (.ref q))))) :=
  ⟨deK es, .inr k, by rw [upd_ne (ne_of_none D.at_ n)]; exact D.at_, rfl, by unfold deK; rw [List.length_map]; exact hz, D.setd n h⟩
/-- d.setdefault(k, []), d and k names -/
theorem setd_var {K : PySem.W.Frag} {H0 G H : Hp} {i j : Nat} {σ : L2.St} {d : Addr} {es : List DE} {k : Str} {Q : VK} (hi : σ[i]? = some (some (.ref d))) (hj : σ[j]? = some (some (.str k))) (D : DL K H0 G H d es) (hz : es.length < sizeLine)
    (h : ∀ (q : Addr) (e : DE) (es' : List DE) (H4 : Hp), H q = none → e ∈ es' → e.1 = k → DL K H0 G H4 d es' → deM es' = ensure (deM es) k → (∀ a, a ≠ d → H4 a = upd H q (.lst []) a) → Q (.ref e.2.1) H4) :
    tDSetd (tVar i) (tVar j) (tLst tNil) σ H Q :=
  ⟨_, hi, d, rfl, .inl ⟨_, .inl D.at_⟩, _, hj, Nat.zero_le _, fun q hq => D.setdQ hq hz fun e es' H4 => h q e es' H4 hq⟩
/-- .. d a field of the object at i -/
theorem setd_fld {K : PySem.W.Frag} {H0 G H : Hp} {i j : Nat} {f : Str} {σ : L2.St} {b d C dx : Addr} {fs : List (Str × V)} {es : List DE} {k : Str} {Q : VK} (hi : σ[i]? = some (some (.ref b))) (hb : H b = some (.ins C dx fs)) (hc : Cls K C) (hn : NoAttr K C f) (hf : fs.lookup f = some (.ref d)) (hj : σ[j]? = some (some (.str k))) (D : DL K H0 G H d es) (hz : es.length < sizeLine)
    (h : ∀ (q : Addr) (e : DE) (es' : List DE) (H4 : Hp), H q = none → e ∈ es' → e.1 = k → DL K H0 G H4 d es' → deM es' = ensure (deM es) k → (∀ a, a ≠ d → H4 a = upd H q (.lst []) a) → Q (.ref e.2.1) H4) :
    tDSetd (tFld K (tVar i) f) (tVar j) (tLst tNil) σ H Q :=
  ⟨_, hi, b, C, dx, _, _, rfl, hb, hc, hn, hf, d, rfl, .inl ⟨_, .inl D.at_⟩, _, hj, Nat.zero_le _, fun q hq => D.setdQ hq hz fun e es' H4 => h q e es' H4 hq⟩
def dePush (es : List DE) (k : Str) (x : PyData) : List DE := es.map fun e => if e.1 = k then (e.1, e.2.1, e.2.2 ++ [x]) else e
theorem dePush_K (es : List DE) (k : Str) (x : PyData) : deK (dePush es k x) = deK es := by
  unfold deK dePush
  rw [List.map_map]
  refine List.map_congr_left fun e _ => ?_
  show (fun e : DE => ((Sum.inr e.1 : Key), V.ref e.2.1)) (if e.1 = k then (e.1, e.2.1, e.2.2 ++ [x]) else e) = _
  split <;> rfl
theorem dePush_L (es : List DE) (k : Str) (x : PyData) : deL (dePush es k x) = deL es := by
  unfold deL dePush
  rw [List.map_map]
  refine List.map_congr_left fun e _ => ?_
  show (fun e : DE => e.2.1) (if e.1 = k then (e.1, e.2.1, e.2.2 ++ [x]) else e) = _
  split <;> rfl
theorem dePush_keys (es : List DE) (k : Str) (x : PyData) : (dePush es k x).map (·.1) = es.map (·.1) := by
  unfold dePush
  rw [List.map_map]
  refine List.map_congr_left fun e _ => ?_
  show (fun e : DE => e.1) (if e.1 = k then (e.1, e.2.1, e.2.2 ++ [x]) else e) = _
  split <;> rfl
theorem dePush_M (es : List DE) (k : Str) (x : PyData) : deM (dePush es k x) = pushM (deM es) k x := by
  unfold deM dePush pushM
  rw [List.map_map, List.map_map]
  refine List.map_congr_left fun e _ => ?_
  show (fun e : DE => (e.1, e.2.2)) (if e.1 = k then (e.1, e.2.1, e.2.2 ++ [x]) else e) = if e.1 = k then (e.1, e.2.2 ++ [x]) else (e.1, e.2.2)
  split <;> rfl
/-- .append(v) to the list of k -/
theorem DL.push {K : PySem.W.Frag} {H0 G H : Hp} {d : Addr} {es : List DE} {e : DE} {xs : List V} {v : V} {x : PyData} (D : DL K H0 G H d es) (he : e ∈ es) (hx : H e.2.1 = some (.lst xs)) (hv : Dp K G v x) :
    DL K H0 G (upd H e.2.1 (.lst (xs ++ [v]))) d (dePush es e.1 x) := by
  have mem : e.2.1 ∈ d :: deL es := List.mem_cons_of_mem _ (List.mem_map.mpr ⟨e, he, rfl⟩)
  obtain ⟨n1, n2⟩ := D.new _ mem
  have ne : e.2.1 ≠ d := fun z => by
    have := (List.nodup_cons.mp D.nd).1
    exact this (z ▸ List.mem_map.mpr ⟨e, he, rfl⟩)
  have inj : ∀ f ∈ es, f.1 = e.1 → f = e := fun f hf h => by
    have k := D.keys
    obtain ⟨i, hi⟩ := List.getElem?_of_mem hf
    obtain ⟨j, hj⟩ := List.getElem?_of_mem he
    have e1 : (es.map (·.1))[i]? = some f.1 := by rw [List.getElem?_map, hi]; rfl
    have e2 : (es.map (·.1))[j]? = some e.1 := by rw [List.getElem?_map, hj]; rfl
    rw [h] at e1
    obtain ⟨a1, b1⟩ := List.getElem?_eq_some_iff.mp e1
    obtain ⟨a2, b2⟩ := List.getElem?_eq_some_iff.mp e2
    have := (List.getElem_inj k).mp (b1.trans b2.symm)
    subst this
    rw [hi] at hj
    exact Option.some.inj hj
  have injL : ∀ f ∈ es, f.2.1 = e.2.1 → f = e := fun f hf h => by
    have k : (deL es).Nodup := (List.nodup_cons.mp D.nd).2
    obtain ⟨i, hi⟩ := List.getElem?_of_mem hf
    obtain ⟨j, hj⟩ := List.getElem?_of_mem he
    have e1 : (deL es)[i]? = some f.2.1 := by unfold deL; rw [List.getElem?_map, hi]; rfl
    have e2 : (deL es)[j]? = some e.2.1 := by unfold deL; rw [List.getElem?_map, hj]; rfl
    rw [h] at e1
    obtain ⟨a1, b1⟩ := List.getElem?_eq_some_iff.mp e1
    obtain ⟨a2, b2⟩ := List.getElem?_eq_some_iff.mp e2
    have := (List.getElem_inj k).mp (b1.trans b2.symm)
    subst this
    rw [hi] at hj
    exact Option.some.inj hj
  refine ⟨same_wr D.same n1, same_wr D.prot n2, by rw [upd_ne ne.symm, dePush_K]; exact D.at_, by rw [dePush_keys]; exact D.keys, by rw [dePush_L]; exact D.nd, by rw [dePush_L]; exact D.new, fun f hf => ?_, D.gnew⟩
  obtain ⟨g, hg, rfl⟩ := List.mem_map.mp hf
  obtain ⟨ys, h1, h2⟩ := D.lst g hg
  by_cases hk : g.1 = e.1
  · have := inj g hg hk
    subst this
    rw [hx] at h1
    cases h1
    rw [if_pos rfl]
    exact ⟨_, upd_same, DpAll.snoc h2 hv⟩
  · rw [if_neg hk]
    have ne2 : g.2.1 ≠ e.2.1 := fun z => hk (by rw [injL g hg z])
    exact ⟨ys, by rw [upd_ne ne2]; exact h1, h2⟩
/-- all its data, in what is not of H0 and not at b -/
theorem DL.done {K : PySem.W.Frag} {H0 G H : Hp} {d b : Addr} {es : List DE} {o : HO} (D : DL K H0 G H d es) (hb : H b = some o) (hl : ∀ xs, o ≠ .lst xs) (gb : G b = none) : DkAll K (del (nw H0 H) b) (deK es) ((deM es).map fun p => (p.1, .list p.2)) := by
  have sG : Same G (del (nw H0 H) b) := fun a u e => by
    have n0 : H0 a = none := by
      cases q : H0 a with
      | none => rfl
      | some v => rw [D.gnew a v q] at e; cases e
    rw [del_ne (fun z => by rw [z, gb] at e; cases e), nw_none n0]
    exact D.prot _ _ e
  have all : ∀ l : List DE, (∀ e ∈ l, e ∈ es) → DkAll K (del (nw H0 H) b) (deK l) ((deM l).map fun p => (p.1, .list p.2)) := by
    intro l
    induction l with
    | nil => intro _; exact .nil
    | cons e l ih =>
      intro h
      have he := h e List.mem_cons_self
      obtain ⟨xs, h1, h2⟩ := D.lst e he
      have n0 := (D.new e.2.1 (List.mem_cons_of_mem _ (List.mem_map.mpr ⟨e, he, rfl⟩))).1
      have nb : e.2.1 ≠ b := fun z => by
        rw [z, hb] at h1
        exact hl xs (Option.some.inj h1)
      refine .cons ⟨rfl, .lst (SqL.of ?_) (DpAll.mono sG h2)⟩ (ih fun z hz => h z (List.mem_cons_of_mem _ hz))
      rw [del_ne nb, nw_none n0]; exact h1
  exact all es fun _ h => h
end KR
set_option maxHeartbeats 4000000
namespace KR
open PySem PySem.Spec PyProof.Rows L2
/-! ## books: plain functions -/
abbrev Tx := Str × List Str
abbrev Row := Str × Nat × List Nat
abbrev Stand := List (Str × List Row)
def lenOf (ps : List Str) : Int := (ps.map fun z => ((runsOf z).length : Int)).sum
def spotsOf (ws : List Wd) : List (Str × List Nat) := ws.foldl (fun m w => pushA m w.1 w.2.1) []
def layPart (name : Str) (p : Nat) (sp : List (Str × List Nat)) (st : Stand) : Stand := sp.foldl (fun st s => pushA st s.1 (name, p, s.2)) st
def layParts (rb : Rb) (name : Str) (zs : List (Str × Nat)) (st : Stand) : Stand := zs.foldl (fun st zp => layPart name zp.2 (spotsOf (wordsOf rb zp.1)) st) st
def layText (rb : Rb) (st : Stand) (t : Tx) : Stand := layParts rb t.1 t.2.zipIdx st
def standsOf (rb : Rb) (ts : List Tx) : Stand := ts.foldl (layText rb) []
def rowD (r : Row) : PyData := .tuple [.str r.1, .int r.2.1, .list (r.2.2.map fun n : Nat => PyData.int (n : Int))]
def stM (st : Stand) : List (Str × List PyData) := st.map fun p => (p.1, p.2.map rowD)
def spM (sp : List (Str × List Nat)) : List (Str × List PyData) := sp.map fun p => (p.1, p.2.map fun n : Nat => PyData.int (n : Int))
def partsD (ps : List Str) : PyData := .tuple (ps.map PyData.str)
/-! sizes -/
def Bd {α : Type} (m : List (Str × List α)) (n : Nat) : Prop := m.length ≤ n ∧ ∀ p ∈ m, p.2.length ≤ n
theorem Bd.mono {α : Type} {m : List (Str × List α)} {n k : Nat} (h : Bd m n) (q : n ≤ k) : Bd m k := ⟨Nat.le_trans h.1 q, fun p hp => Nat.le_trans (h.2 p hp) q⟩
theorem Bd.nil {α : Type} {n : Nat} : Bd ([] : List (Str × List α)) n := ⟨Nat.zero_le _, fun _ h => by cases h⟩
theorem Bd.push {α : Type} {m : List (Str × List α)} {n : Nat} (h : Bd m n) (k : Str) (x : α) : Bd (pushA m k x) (n + 1) := by
  refine ⟨Nat.le_trans (pushA_len m k x) (Nat.succ_le_succ h.1), fun p hp => ?_⟩
  unfold pushA pushM at hp
  obtain ⟨q, hq, rfl⟩ := List.mem_map.mp hp
  have hq' : q.2.length ≤ n := by
    unfold ensure at hq
    split at hq
    · exact h.2 q hq
    · rcases List.mem_append.mp hq with z | z
      · exact h.2 q z
      · rw [List.mem_singleton.mp z]; exact Nat.zero_le _
  split
  · rw [List.length_append]; exact Nat.succ_le_succ hq'
  · exact Nat.le_succ_of_le hq'
theorem foldl_take_succ {α β : Type} {f : β → α → β} {a : β} {l : List α} {i : Nat} {x : α} (h : l[i]? = some x) : (l.take (i + 1)).foldl f a = f ((l.take i).foldl f a) x := by
  obtain ⟨hi, e⟩ := List.getElem?_eq_some_iff.mp h
  rw [List.take_succ_eq_append_getElem hi, List.foldl_append, e]
  rfl
theorem foldl_take_all {α β : Type} {f : β → α → β} {a : β} {l : List α} {n : Nat} (h : n = l.length) : (l.take n).foldl f a = l.foldl f a := by rw [h, List.take_length]
theorem Bd.spots : ∀ (ws : List Wd) (m : List (Str × List Nat)) (n : Nat), Bd m n → Bd (ws.foldl (fun m w => pushA m w.1 w.2.1) m) (n + ws.length)
  | [], m, n, h => h
  | w :: ws, m, n, h => by
    have := Bd.spots ws _ _ (h.push w.1 w.2.1)
    rw [List.length_cons, show n + (ws.length + 1) = n + 1 + ws.length by omega]
    exact this
theorem Bd.part (name : Str) (p : Nat) : ∀ (sp : List (Str × List Nat)) (st : Stand) (n : Nat), Bd st n → Bd (sp.foldl (fun st s => pushA st s.1 (name, p, s.2)) st) (n + sp.length)
  | [], st, n, h => h
  | s :: sp, st, n, h => by
    have := Bd.part name p sp _ _ (h.push s.1 (name, p, s.2))
    rw [List.length_cons, show n + (sp.length + 1) = n + 1 + sp.length by omega]
    exact this
theorem spots_few {rb : Rb} {z : Str} (h : z.length ≤ 1000) : (spotsOf (wordsOf rb z)).length ≤ 3001 := by
  have := (Bd.spots (wordsOf rb z) [] 0 Bd.nil).1
  have := words_few (rb := rb) h
  unfold spotsOf
  omega
theorem Bd.parts (rb : Rb) (name : Str) : ∀ (zs : List (Str × Nat)) (st : Stand) (n : Nat), (∀ zp ∈ zs, zp.1.length ≤ 1000) → Bd st n → Bd (layParts rb name zs st) (n + 3001 * zs.length)
  | [], st, n, _, h => h
  | zp :: zs, st, n, hz, h => by
    have h1 := spots_few (rb := rb) (hz zp List.mem_cons_self)
    have h2 : Bd (layPart name zp.2 (spotsOf (wordsOf rb zp.1)) st) (n + 3001) := (Bd.part name zp.2 _ st n h).mono (by omega)
    have := Bd.parts rb name zs _ _ (fun q hq => hz q (List.mem_cons_of_mem _ hq)) h2
    rw [List.length_cons, show n + 3001 * (zs.length + 1) = n + 3001 + 3001 * zs.length by omega]
    exact this
theorem stM_push (st : Stand) (k : Str) (r : Row) : stM (pushA st k r) = pushA (stM st) k (rowD r) := (pushA_map rowD st k r).symm
theorem spM_push (sp : List (Str × List Nat)) (k : Str) (n : Nat) : spM (pushA sp k n) = pushA (spM sp) k (.int n) := (pushA_map (fun n : Nat => PyData.int (n : Int)) sp k n).symm
/-! ## books in the heap -/
structure BFld (fs : List (Str × V)) (r d1 d2 d3 : Addr) : Prop where
  f1 : fs.lookup ("book_rules" : Str) = some (.ref r)
  f2 : fs.lookup ("book_texts" : Str) = some (.ref d1)
  f3 : fs.lookup ("book_lengths" : Str) = some (.ref d2)
  f4 : fs.lookup ("book_stands" : Str) = some (.ref d3)
  no : ∀ m : Str, ¬ m = "book_rules" → ¬ m = "book_texts" → ¬ m = "book_lengths" → ¬ m = "book_stands" → ¬ m = "came" → fs.lookup m = none
def lnK (ln : List (Str × Int)) : List (Key × V) := ln.map fun t => (.inr t.1, .int t.2)
structure BookIn (K : PySem.W.Frag) (cM cR : Addr) (Hs H0 G H : Hp) (b dx : Addr) (fs : List (Str × V)) (r d1 d2 d3 : Addr) (rb : Rb) (tx : List Tx) (ln : List (Str × Int)) (es : List DE) : Prop where
  ob : H b = some (.ins cM dx fs)
  fl : BFld fs r d1 d2 d3
  hs : Same Hs H0
  rbk : RbAt cR Hs r rb
  tx_ : ∃ kv1, H d1 = some (.dK kv1) ∧ DkAll K Hs kv1 (tx.map fun t => (t.1, partsD t.2))
  ln_ : H d2 = some (.dK (lnK ln))
  dl : DL K H0 G H d3 es
  nb : H0 b = none ∧ G b = none
  n1 : H0 d1 = none ∧ G d1 = none
  n2 : H0 d2 = none ∧ G d2 = none
  n12 : d1 ≠ d2
  n13 : d1 ≠ d3
  n23 : d2 ≠ d3
section
variable {K : PySem.W.Frag} {cM cR : Addr} {Hs H0 G H : Hp} {b dx : Addr} {fs : List (Str × V)} {r d1 d2 d3 : Addr} {rb : Rb} {tx : List Tx} {ln : List (Str × Int)} {es : List DE}
theorem BookIn.growS {H' : Hp} (B : BookIn K cM cR Hs H0 G H b dx fs r d1 d2 d3 rb tx ln es) (s : Same H H') : BookIn K cM cR Hs H0 G H' b dx fs r d1 d2 d3 rb tx ln es := by
  obtain ⟨kv1, h1, h2⟩ := B.tx_
  exact ⟨s _ _ B.ob, B.fl, B.hs, B.rbk, ⟨kv1, s _ _ h1, h2⟩, s _ _ B.ln_, B.dl.growS s, B.nb, B.n1, B.n2, B.n12, B.n13, B.n23⟩
theorem BookIn.keep {H' : Hp} (B : BookIn K cM cR Hs H0 G H b dx fs r d1 d2 d3 rb tx ln es) (s : Same H H') : BookIn K cM cR Hs H0 (join G (nw H H')) H' b dx fs r d1 d2 d3 rb tx ln es := by
  obtain ⟨kv1, h1, h2⟩ := B.tx_
  have f : ∀ a o, H a = some o → G a = none → join G (nw H H') a = none := fun a o ho hn => by
    cases e : join G (nw H H') a with
    | none => rfl
    | some u =>
      rcases join_some e with e | ⟨_, e⟩
      · rw [hn] at e; cases e
      · rw [nw_at ho] at e; cases e
  exact ⟨s _ _ B.ob, B.fl, B.hs, B.rbk, ⟨kv1, s _ _ h1, h2⟩, s _ _ B.ln_, B.dl.keep s, ⟨B.nb.1, f _ _ B.ob B.nb.2⟩, ⟨B.n1.1, f _ _ h1 B.n1.2⟩, ⟨B.n2.1, f _ _ B.ln_ B.n2.2⟩, B.n12, B.n13, B.n23⟩
theorem BookIn.grow {G' H' : Hp} (B : BookIn K cM cR Hs H0 G H b dx fs r d1 d2 d3 rb tx ln es) (s : Same H H') (g : Same G G') (p : Same G' H') (f : ∀ a o, H a = some o → G a = none → G' a = none) : BookIn K cM cR Hs H0 G' H' b dx fs r d1 d2 d3 rb tx ln es := by
  obtain ⟨kv1, h1, h2⟩ := B.tx_
  exact ⟨s _ _ B.ob, B.fl, B.hs, B.rbk, ⟨kv1, s _ _ h1, h2⟩, s _ _ B.ln_, B.dl.grow s g p f, ⟨B.nb.1, f _ _ B.ob B.nb.2⟩, ⟨B.n1.1, f _ _ h1 B.n1.2⟩, ⟨B.n2.1, f _ _ B.ln_ B.n2.2⟩, B.n12, B.n13, B.n23⟩
/-- a write elsewhere, known from then on -/
theorem BookIn.wrote {a : Addr} {o u : HO} (B : BookIn K cM cR Hs H0 G H b dx fs r d1 d2 d3 rb tx ln es) (h0 : H0 a = none) (hg : G a = none) (ha : H a = some o) (nb : a ≠ b) (n1 : a ≠ d1) (n2 : a ≠ d2) (n3 : a ≠ d3) (hl : ∀ xs, o ≠ .lst xs) :
    BookIn K cM cR Hs H0 (upd G a u) (upd H a u) b dx fs r d1 d2 d3 rb tx ln es := by
  obtain ⟨kv1, q1, q2⟩ := B.tx_
  have hl' : ∀ xs, H a ≠ some (.lst xs) := fun xs z => hl xs (Option.some.inj (ha.symm.trans z))
  have D := B.dl.other (o := u) h0 hg n3 hl'
  refine ⟨by rw [upd_ne nb.symm]; exact B.ob, B.fl, B.hs, B.rbk, ⟨kv1, by rw [upd_ne n1.symm]; exact q1, q2⟩, by rw [upd_ne n2.symm]; exact B.ln_, D.region (same_upd hg) (fun c v e => ?_) (fun c hc => ?_) (fun c v e => by rw [upd_ne (ne_of_none e h0)]; exact B.dl.gnew c v e), ⟨B.nb.1, by rw [upd_ne nb.symm]; exact B.nb.2⟩, ⟨B.n1.1, by rw [upd_ne n1.symm]; exact B.n1.2⟩, ⟨B.n2.1, by rw [upd_ne n2.symm]; exact B.n2.2⟩, B.n12, B.n13, B.n23⟩
  · by_cases hc : c = a
    · rw [hc, upd_same] at e ⊢; exact e
    · rw [upd_ne hc] at e ⊢; exact B.dl.prot _ _ e
  · have nca : c ≠ a := fun z => by
      rw [z] at hc
      rcases List.mem_cons.mp hc with q | q
      · exact n3 q
      · obtain ⟨e, he, ee⟩ := List.mem_map.mp q
        obtain ⟨xs, g1, _⟩ := B.dl.lst e he
        rw [ee] at g1
        exact hl' xs g1
    rw [upd_ne nca]
    exact (B.dl.new c hc).2
/-- the dict of stands has changed -/
theorem BookIn.stands {G' H' : Hp} {es' : List DE} (B : BookIn K cM cR Hs H0 G H b dx fs r d1 d2 d3 rb tx ln es) (D : DL K H0 G' H' d3 es') (hb : H' b = H b) (h1 : H' d1 = H d1) (h2 : H' d2 = H d2) (gb : G' b = none) (g1 : G' d1 = none) (g2 : G' d2 = none) :
    BookIn K cM cR Hs H0 G' H' b dx fs r d1 d2 d3 rb tx ln es' := by
  obtain ⟨kv1, q1, q2⟩ := B.tx_
  exact ⟨hb.trans B.ob, B.fl, B.hs, B.rbk, ⟨kv1, h1.trans q1, q2⟩, h2.trans B.ln_, D, ⟨B.nb.1, gb⟩, ⟨B.n1.1, g1⟩, ⟨B.n2.1, g2⟩, B.n12, B.n13, B.n23⟩
theorem BookIn.push {e : DE} {xs : List V} {v : V} {x : PyData} (B : BookIn K cM cR Hs H0 G H b dx fs r d1 d2 d3 rb tx ln es) (he : e ∈ es) (hx : H e.2.1 = some (.lst xs)) (hv : Dp K G v x) :
    BookIn K cM cR Hs H0 G (upd H e.2.1 (.lst (xs ++ [v]))) b dx fs r d1 d2 d3 rb tx ln (dePush es e.1 x) := by
  obtain ⟨kv1, q1, q2⟩ := B.tx_
  exact B.stands (B.dl.push he hx hv) (upd_ne (ne_of B.ob hx (by intro z; cases z))) (upd_ne (ne_of q1 hx (by intro z; cases z))) (upd_ne (ne_of B.ln_ hx (by intro z; cases z))) B.nb.2 B.n1.2 B.n2.2
theorem BookIn.setd {q : Addr} {H4 : Hp} {es' : List DE} (B : BookIn K cM cR Hs H0 G H b dx fs r d1 d2 d3 rb tx ln es) (n : H q = none) (D : DL K H0 G H4 d3 es') (ag : ∀ a, a ≠ d3 → H4 a = upd H q (.lst []) a) :
    BookIn K cM cR Hs H0 G H4 b dx fs r d1 d2 d3 rb tx ln es' := by
  obtain ⟨kv1, q1, q2⟩ := B.tx_
  have nb3 : b ≠ d3 := ne_of B.ob B.dl.at_ (by intro z; cases z)
  exact B.stands D ((ag b nb3).trans (upd_ne (ne_of_none B.ob n))) ((ag d1 B.n13).trans (upd_ne (ne_of_none q1 n))) ((ag d2 B.n23).trans (upd_ne (ne_of_none B.ln_ n))) B.nb.2 B.n1.2 B.n2.2
theorem Bd.ens {α : Type} {m : List (Str × List α)} {n : Nat} {k : Str} (h : Bd m n) : ∀ p ∈ ensure m k, p.2.length ≤ n := fun p hp => by
  unfold ensure at hp
  split at hp
  · exact h.2 p hp
  · rcases List.mem_append.mp hp with z | z
    · exact h.2 p z
    · rw [List.mem_singleton.mp z]; exact Nat.zero_le _
theorem Bd.map {α β : Type} {f : α → β} {m : List (Str × List α)} {n : Nat} (h : Bd m n) : Bd (m.map fun p => (p.1, p.2.map f)) n := by
  refine ⟨by rw [List.length_map]; exact h.1, fun p hp => ?_⟩
  obtain ⟨q, hq, rfl⟩ := List.mem_map.mp hp
  show (q.2.map f).length ≤ n
  rw [List.length_map]; exact h.2 q hq
theorem DL.ys_len {d : Addr} {es' : List DE} {k : Str} {e : DE} {ys : List V} {m : List (Str × List PyData)} {n : Nat} (D : DL K H0 G H d es') (he : e ∈ es') (hM : deM es' = ensure m k) (hB : Bd m n) (hL : H e.2.1 = some (.lst ys)) : ys.length ≤ n := by
  obtain ⟨zs, h1, h2⟩ := D.lst e he
  rw [hL] at h1
  cases h1
  rw [h2.length]
  have hm : (e.1, e.2.2) ∈ deM es' := List.mem_map.mpr ⟨e, he, rfl⟩
  rw [hM] at hm
  exact hB.ens _ hm
theorem DpAll.ints_any {H' : Hp} : ∀ {ns : List Nat} {vs : List V}, DpAll K H vs (ns.map fun n : Nat => PyData.int (n : Int)) → DpAll K H' vs (ns.map fun n : Nat => PyData.int (n : Int))
  | [], _, .nil => .nil
  | _ :: _, _, .cons (.int _) t => .cons (.int _) (DpAll.ints_any t)
theorem BookIn.setTx {kv' : List (Key × V)} {tx' : List Tx} (B : BookIn K cM cR Hs H0 G H b dx fs r d1 d2 d3 rb tx ln es) (h : DkAll K Hs kv' (tx'.map fun t => (t.1, partsD t.2))) : BookIn K cM cR Hs H0 G (upd H d1 (.dK kv')) b dx fs r d1 d2 d3 rb tx' ln es := by
  obtain ⟨kv1, q1, q2⟩ := B.tx_
  have nb1 : b ≠ d1 := ne_of B.ob q1 (by intro z; cases z)
  exact ⟨by rw [upd_ne nb1]; exact B.ob, B.fl, B.hs, B.rbk, ⟨kv', upd_same, h⟩, by rw [upd_ne B.n12.symm]; exact B.ln_, B.dl.other B.n1.1 B.n1.2 B.n13 (fun xs z => by rw [q1] at z; cases z), B.nb, B.n1, B.n2, B.n12, B.n13, B.n23⟩
theorem BookIn.setLn {ln' : List (Str × Int)} (B : BookIn K cM cR Hs H0 G H b dx fs r d1 d2 d3 rb tx ln es) : BookIn K cM cR Hs H0 G (upd H d2 (.dK (lnK ln'))) b dx fs r d1 d2 d3 rb tx ln' es := by
  obtain ⟨kv1, q1, q2⟩ := B.tx_
  have nb2 : b ≠ d2 := ne_of B.ob B.ln_ (by intro z; cases z)
  exact ⟨by rw [upd_ne nb2]; exact B.ob, B.fl, B.hs, B.rbk, ⟨kv1, by rw [upd_ne B.n12]; exact q1, q2⟩, upd_same, B.dl.other B.n2.1 B.n2.2 B.n23 (fun xs z => by rw [B.ln_] at z; cases z), B.nb, B.n1, B.n2, B.n12, B.n13, B.n23⟩
theorem BookIn.same (B : BookIn K cM cR Hs H0 G H b dx fs r d1 d2 d3 rb tx ln es) : Same H0 H := B.dl.same
end
end KR
set_option maxHeartbeats 4000000
namespace KR
open PySem PySem.Spec PyProof.Rows L2
theorem aget_absent {α : Type} {m : List (Str × α)} {k : Str} (h : ∀ p ∈ m, p.1 ≠ k) : aget m k = none := by
  unfold aget
  rw [List.find?_eq_none.mpr fun p hp => by simpa using h p hp]
  rfl
theorem DkAll.absent {K : PySem.W.Frag} {H : Hp} {kvs : List (Key × V)} {m : List (Str × PyData)} {k : Str} (h : DkAll K H kvs m) (q : ∀ p ∈ m, p.1 ≠ k) : valV kvs (.inr k) = none := by
  rcases h.val k with ⟨h1, _⟩ | ⟨v, d, _, h2, _⟩
  · exact h1
  · rw [aget_absent q] at h2; cases h2
theorem valV_absent {kvs : List (Key × V)} {k : Key} (q : ∀ p ∈ kvs, p.1 ≠ k) : valV kvs k = none := by
  unfold valV
  rw [List.find?_eq_none.mpr fun p hp => by simpa using q p hp]
  rfl
theorem lnK_absent {ln : List (Str × Int)} {k : Str} (q : ∀ p ∈ ln, p.1 ≠ k) : valV (lnK ln) (.inr k) = none := valV_absent fun p hp => by
  obtain ⟨x, hx, rfl⟩ := List.mem_map.mp hp
  exact fun z => q x hx (Sum.inr.inj z)
/-- lay_text's promise: a text with a new name is laid in -/
def spLay (K : PySem.W.Frag) (cM cR : Addr) : Sp := fun vs H Q _ => ∃ (Hs H0 G : Hp) (b dx : Addr) (fs : List (Str × V)) (r d1 d2 d3 : Addr) (rb : Rb) (tx : List Tx) (ln : List (Str × Int)) (es : List DE) (st : Stand) (n : Nat) (name : Str) (t : Addr) (ps : List Str),
  vs = [.ref b, .str name, .ref t] ∧ BookIn K cM cR Hs H0 G H b dx fs r d1 d2 d3 rb tx ln es ∧ rb.Ok ∧ deM es = stM st ∧ Bd st n ∧ n ≤ 1000000 ∧ SqT K Hs t (ps.map V.str) ∧ (∀ z ∈ ps, z.length ≤ 1000) ∧ ps.length ≤ 3 ∧
  (∀ p ∈ tx, p.1 ≠ name) ∧ (∀ p ∈ ln, p.1 ≠ name) ∧ tx.length ≤ 1000 ∧ ln.length ≤ 1000 ∧
  ∀ (H' G' : Hp) (es' : List DE), BookIn K cM cR Hs H0 G' H' b dx fs r d1 d2 d3 rb (tx ++ [(name, ps)]) (ln ++ [(name, lenOf ps)]) es' → deM es' = stM (layText rb st (name, ps)) → Q .non H'
section
variable {P : Program} {w : World} {K : PySem.W.Frag} {mg : Str → Option Value} {base : Heap} {cL cM cH cR : Addr}
theorem scLay : FnScope ["self", "name", "parts", "text", "part", "spots", "word", "place", "begin", "end", "places"] ["self", "name", "parts"] (defScope sBLay) := ⟨rfl, rfl, rfl, by decide +kernel, rfl, by decide +kernel, by decide +kernel⟩
theorem ok_lay {f : Addr} {fd : FuncData} (F : Fun K "lay_text" "Book.lay_text" sBLay f fd) (T : Txt K mg cL cM cH cR)
    (cRuns : Cal P w K mg base 1 "runs_of" ["text"] (spRuns K)) (cWords : Cal P w K mg base 2 "words_of" ["rulebook", "text"] (spWords K cR)) :
    FnOk P w K mg base CX0 3 f fd ["self", "name", "parts"] (spLay K cM cR) := by
  refine F.ok scLay (fun vs H Q E h => ?_) (fun cdv A outer s H vs Q E hr h => ?_)
  · obtain ⟨Hs, H0, G, b, dx, fs, r, d1, d2, d3, rb, tx, ln, es, st, n, name, t, ps, rfl, _⟩ := h
    rfl
  · obtain ⟨Hs, H0, G, b, dx, fs, r, d1, d2, d3, rb, tx, ln, es, st, n, name, t, ps, rfl, B, ok, hes, hBd, hn, hT, hz, hp3, hnt, hnl, htl, hll, k⟩ := h
    have hu := hu_of hr
    have hr1 : Room 1 _ := hr.mono (by decide)
    have nd := scLay.nd
    refine ⟨_, (pss_cons (ps_dput hu (pe_fld (pv 0) rfl) (pv 1) (pe_callTy call_tupleT (by rfl) T.tuple (by decide +kernel) (pa_cons (pv 2) pa_nil)) rfl)
      (pss_cons (ps_dput hu (pe_fld (pv 0) rfl) (pv 1) (pe_callB (cr_sum rfl) (by rfl) T.sum (by decide +kernel) (pa_cons (pe_lc (own := [("text", 3)]) (g := gName 3) (tt := tYes) rfl nd (pi_tup (pv 2)) (blkOk_by (own := [("text", 3)]) (N := ["self", "name", "parts", "text", "part", "spots", "word", "place", "begin", "end", "places"]) (sc := (defScope sBLay)) (by decide +kernel)) (fun _ _ _ _ _ => (pg_name (i := 3) nd rfl (.inl rfl))) (fun _ _ _ _ _ => pts_nil) (fun _ _ _ _ _ => (pe_callB (call_lenK K) (by rfl) T.len PySem.boot_len (pa_cons (pe_cal cRuns hr1 (pa_cons (pv 3) pa_nil)) pa_nil)))) pa_nil)) rfl)
      (pss_one (ps_for PassesOwn.never rfl (pi_enumT (by rfl) T.enumerate (pa_cons (pv 2) pa_nil)) (pg_tup rfl (pgs_cons (pg_name (i := 4) nd rfl (.inl rfl)) (pgs_cons (pg_name (i := 3) nd rfl (.inl rfl)) pgs_nil)))
          (pss_cons (ps_set (i := 5) nd rfl (.inl rfl) pe_dnewK)
          (pss_cons (ps_for PassesOwn.never rfl (pi_list (pe_cal cWords hr (pa_cons (pe_fld (pv 0) rfl) (pa_cons (pv 3) pa_nil)))) (pg_tup rfl (pgs_cons (pg_name (i := 6) nd rfl (.inl rfl)) (pgs_cons (pg_name (i := 7) nd rfl (.inl rfl)) (pgs_cons (pg_name (i := 8) nd rfl (.inl rfl)) (pgs_cons (pg_name (i := 9) nd rfl (.inl rfl)) pgs_nil)))))
              (pss_one (ps_expr (pe_bm PySem.F.plainAttrs_list PySem.F.slot_list_append PySem.F.type_list_append mt_append (pe_dsetd (pv 5) (pv 6) (pe_lst pa_nil) ⟨rfl, rfl, rfl, rfl⟩) (pa_cons (pv 7) pa_nil)))))
          (pss_one (ps_for PassesOwn.never rfl (pi_items (pe_frz (pv 5))) (pg_tup rfl (pgs_cons (pg_name (i := 6) nd rfl (.inl rfl)) (pgs_cons (pg_name (i := 10) nd rfl (.inl rfl)) pgs_nil)))
              (pss_one (ps_expr (pe_bm PySem.F.plainAttrs_list PySem.F.slot_list_append PySem.F.type_list_append mt_append (pe_dsetd (pe_fld (pv 0) rfl) (pv 6) (pe_lst pa_nil) ⟨rfl, rfl, rfl, rfl⟩) (pa_cons (pe_tup (pa_cons (pv 1) (pa_cons (pv 4) (pa_cons (pv 10) pa_nil)))) pa_nil)))))))))))), ?_⟩
    obtain ⟨kv1, hd1, hk1⟩ := B.tx_
    have same0 := B.same
    have hk1n : valV kv1 (.inr name : Key) = none := hk1.absent fun p hp => by
      obtain ⟨q, hq, rfl⟩ := List.mem_map.mp hp
      exact hnt q hq
    have hkl : kv1.length ≤ 1000 := by rw [hk1.len, List.length_map]; exact htl
    -- self.book_texts[name] = tuple(parts)
    refine ⟨_, rfl, t, _, rfl, Same.tup (Same.trans B.hs same0) hT, _, rfl, b, cM, dx, _, _, rfl, B.ob, T.mC, T.m2, B.fl.f2, _, rfl, d1, _, rfl, DPut.k (k := Sum.inr name) hd1 (small1000 hkl), ?_⟩
    have B1 := B.setTx (tx' := tx ++ [(name, ps)]) (kv' := putK kv1 (.inr name) (.ref t)) (by
      rw [putK_new _ hk1n, List.map_append]
      exact hk1.snoc (.tup hT (DpAll.strs ps)))
    generalize eH1 : upd H d1 (.dK (putK kv1 (.inr name) (.ref t))) = H1 at B1 ⊢
    have same1 := B1.same
    -- self.book_lengths[name] = sum([len(runs_of(text)) for text in parts])
    refine ⟨_, rfl, t, rfl, ⟨_, Same.tup (Same.trans B.hs same1) hT⟩, fun D hD => lc_tup (K := K) (a := t) (xs := ps.map V.str) (fun i H' => Same H1 H' ∧ H' D = some (.lst (((ps.take i).map fun z => ((runsOf z).length : Int)).map V.int)))
      ⟨same_upd hD, upd_same⟩ (fun i H' _ q => Same.tup (Same.trans B.hs (Same.trans same1 q.1)) hT) ?_ ?_⟩
    · rintro i x H' hx ⟨s2, hDL⟩
      rw [List.getElem?_map] at hx
      obtain ⟨z, hz1, rfl⟩ : ∃ z, ps[i]? = some z ∧ x = V.str z := by
        cases e : ps[i]? with
        | none => rw [e] at hx; cases hx
        | some z => rw [e] at hx; exact ⟨z, rfl, (Option.some.inj hx).symm⟩
      have hzl := hz z (List.mem_of_getElem? hz1)
      refine ⟨rfl, ?_⟩
      refine ⟨_, rfl, z, rfl, hzl, fun H5 v s5 D5 => ?_⟩
      obtain ⟨a1, xs, rfl, q1, t1⟩ := dp_list D5
      have hlx : xs.length = (runsOf z).length := by rw [t1.length, List.length_map]
      have hi3 : i < ps.length := (List.getElem?_eq_some_iff.mp hz1).1
      refine ⟨a1, xs, rfl, .inl (Same.seq nw_sub q1), _, s5 _ _ hDL, ?_, ?_, ?_⟩
      · rw [List.length_map, List.length_map, List.length_take]
        exact small_sz (by omega)
      · exact same_wr (Same.trans s2 s5) hD
      · rw [upd_same]
        have e1 : ps.take (i + 1) = ps.take i ++ [z] := by
          obtain ⟨hi, e⟩ := List.getElem?_eq_some_iff.mp hz1
          rw [List.take_succ_eq_append_getElem hi, e]
        rw [e1, List.map_append, List.map_append, hlx]
        rfl
    · rintro H2 ⟨s2, hDL⟩
      rw [show (ps.map V.str).length = ps.length by simp, List.take_length] at hDL
      have B2 := B1.growS s2
      refine ⟨D, _, rfl, SqL.of hDL, ?_⟩
      refine ⟨_, rfl, b, cM, dx, _, _, rfl, B2.ob, T.mC, T.m3, B2.fl.f3, _, rfl, d2, _, rfl, DPut.k (k := Sum.inr name) B2.ln_ (small1000 (by unfold lnK; rw [List.length_map]; exact hll)), ?_⟩
      have e3 : putK (lnK ln) (.inr name : Key) (.int (lenOf ps)) = lnK (ln ++ [(name, lenOf ps)]) := by
        rw [putK_new _ (lnK_absent hnl)]
        unfold lnK
        rw [List.map_append]
        rfl
      have B3 := B2.setLn (ln' := ln ++ [(name, lenOf ps)])
      rw [← e3] at B3
      change BookIn K cM cR Hs H0 G (upd H2 d2 (.dK (putK (lnK ln) (.inr name) (.int ((ps.map fun z => ((runsOf z).length : Int)).sum))))) b dx fs r d1 d2 d3 rb _ _ es at B3
      generalize upd H2 d2 (.dK (putK (lnK ln) (.inr name) (.int ((ps.map fun z => ((runsOf z).length : Int)).sum)))) = H3 at B3 ⊢
      have hlp : (ps.map V.str).length = ps.length := by simp
      -- for part, text in enumerate(parts)
      refine ⟨_, rfl, t, _, rfl, Same.tup (Same.trans B.hs B3.same) hT, ?_⟩
      refine for_it (walk_enumT (xs := ps.map V.str)) (fun i σ H' => ∃ (x3 x4 x5 x6 x7 x8 x9 x10 : Option V) (G' : Hp) (es' : List DE), σ = [some (.ref b), some (.str name), some (.ref t), x3, x4, x5, x6, x7, x8, x9, x10] ∧
          BookIn K cM cR Hs H0 G' H' b dx fs r d1 d2 d3 rb (tx ++ [(name, ps)]) (ln ++ [(name, lenOf ps)]) es' ∧ deM es' = stM (layParts rb name (ps.zipIdx.take i) st))
        ⟨none, none, none, none, none, none, none, none, G, es, rfl, B3, hes⟩ (fun i σ H' _ ⟨_, _, _, _, _, _, _, _, G', es', _, B', _⟩ => Same.tup (Same.trans B.hs B'.same) hT) ?_ ?_
      · rintro i x σ H' H'' hi ⟨x3, x4, x5, x6, x7, x8, x9, x10, G', es', rfl, B', he'⟩ ⟨T1, y, rfl, hT1, rfl, ey⟩
        rw [List.getElem?_map] at ey
        obtain ⟨z, hz1, rfl⟩ : ∃ z, ps[i]? = some z ∧ y = V.str z := by
          cases e : ps[i]? with
          | none => rw [e] at ey; cases ey
          | some z => rw [e] at ey; exact ⟨z, rfl, (Option.some.inj ey).symm⟩
        have hzl := hz z (List.mem_of_getElem? hz1)
        have hi3 : i < ps.length := (List.getElem?_eq_some_iff.mp hz1).1
        have Ba := B'.growS (same_upd (o := .tup [.int (i : Nat), .str z]) hT1)
        refine ⟨T1, _, rfl, SqT.of upd_same, rfl, _, _, rfl, _, _, rfl, rfl, ?_⟩
        generalize upd H' T1 (.tup [.int (i : Nat), .str z]) = Ha at Ba ⊢
        -- spots = {}
        intro sp hsp
        have Bb := Ba.growS (same_upd (o := .dK []) hsp)
        -- words_of(self.book_rules, text)
        refine ⟨_, rfl, b, cM, dx, _, _, rfl, Bb.ob, T.mC, T.m1, Bb.fl.f1, _, rfl, r, rb, z, rfl, Bb.rbk.mono (Same.trans B.hs Bb.same), ok, hzl, fun Hc v sc Dc => ?_⟩
        obtain ⟨a1, xs, rfl, q1, t1⟩ := dp_list Dc
        have hlx : xs.length = (wordsOf rb z).length := by rw [t1.length, List.length_map]
        have D0 : DL K Ha (fun _ => none) (upd Ha sp (.dK [])) sp [] := DL.start (Same.refl _) (fun _ _ e => by cases e) hsp (fun _ _ _ => rfl)
        have D1 := D0.keep sc
        generalize eGs : join (fun _ => none) (nw (upd Ha sp (.dK [])) Hc) = Gs at D1
        have sGs : Same (nw (upd Ha sp (.dK [])) Hc) Gs := by rw [← eGs]; exact join_r fun _ _ _ e => by cases e
        refine ⟨a1, rfl, ⟨_, Same.seq nw_sub q1⟩, ?_⟩
        refine for_it (walk_list (xs := xs)) (fun j σ H5 => ∃ (x6 x7 x8 x9 : Option V) (ep : List DE), σ = [some (.ref b), some (.str name), some (.ref t), some (.str z), some (.int (i : Nat)), some (.ref sp), x6, x7, x8, x9, x10] ∧
            DL K Ha Gs H5 sp ep ∧ deM ep = spM (((wordsOf rb z).take j).foldl (fun m w => pushA m w.1 w.2.1) []))
          ⟨x6, x7, x8, x9, [], rfl, D1, rfl⟩ (fun j σ H5 _ ⟨_, _, _, _, _, _, D, _⟩ => Same.seq D.prot (Same.seq sGs q1)) ?_ ?_
        · rintro j x σ H5 H6 hj ⟨x6, x7, x8, x9, ep, rfl, D, hM⟩ ⟨eH, ex⟩
          subst eH
          obtain ⟨wd, ewd, dwd⟩ := dpall_map t1 ex
          obtain ⟨ta, rfl, hta⟩ := dp_word dwd
          refine ⟨ta, _, rfl, Same.tup D.prot (Same.tup sGs hta), rfl, _, _, rfl, _, _, rfl, _, _, rfl, _, _, rfl, rfl, ?_⟩
          have hj' : j < (wordsOf rb z).length := by rw [← hlx]; exact hj
          have few := words_few (rb := rb) hzl
          have hbd : Bd (((wordsOf rb z).take j).foldl (fun m w => pushA m w.1 w.2.1) []) 3001 := (Bd.spots ((wordsOf rb z).take j) [] 0 Bd.nil).mono (by rw [List.length_take]; omega)
          have hlM : ep.length ≤ 3001 := by
            have e1 := congrArg List.length hM
            unfold deM spM at e1
            rw [List.length_map, List.length_map] at e1
            rw [e1]; exact hbd.1
          show tDSetd (tVar 5) (tVar 6) (tLst tNil) _ _ _
          refine setd_var rfl rfl D (small_sz (by omega)) fun q e es2 H7 hq he hk D2 hM2 _ => ?_
          obtain ⟨ys, hL, hdat⟩ := D2.lst e he
          have hys : ys.length ≤ 3001 := DL.ys_len D2 he hM2 (by rw [hM]; exact hbd.map) hL
          refine ⟨.inl ⟨rfl, _, SqL.of hL⟩, _, rfl, ?_⟩
          refine ⟨e.2.1, ys, _, rfl, rfl, hL, small_sz (by omega), ?_⟩
          refine ⟨_, _, _, _, dePush es2 e.1 (.int wd.2.1), rfl, D2.push he hL (.int _), ?_⟩
          rw [dePush_M, hM2, hM, foldl_take_succ ewd, spM_push, hk]
          rfl
        · rintro σ Hd ⟨x6, x7, x8, x9, ep, rfl, D, hM⟩
          rw [hlx, foldl_take_all rfl] at hM
          have hGsp : G' sp = none := Same.free Ba.dl.prot hsp
          have hG2sp : join G' (del (nw Ha Hd) sp) sp = none := by unfold join; rw [hGsp]; exact del_same
          obtain ⟨kva, hda1, _⟩ := Ba.tx_
          have Bd1 := Ba.grow (G' := join G' (del (nw Ha Hd) sp)) D.same join_l (join_sub (Same.trans Ba.dl.prot D.same) (Same.trans same_del nw_sub)) (fun a o ho hn => by
            cases e : join G' (del (nw Ha Hd) sp) a with
            | none => rfl
            | some u =>
              rcases join_some e with e | ⟨_, e⟩
              · rw [hn] at e; cases e
              · have := (del_some e).1
                rw [nw_at ho] at this; cases this)
          refine ⟨_, rfl, sp, _, rfl, D.at_, trivial, fun od => ?_⟩
          have Be := Bd1.wrote (a := sp) (u := .frz od (.dK (deK ep))) (Same.free Ba.same hsp) hG2sp D.at_ (ne_of_none Ba.ob hsp).symm (ne_of_none hda1 hsp).symm (ne_of_none Ba.ln_ hsp).symm (ne_of_none Ba.dl.at_ hsp).symm (by intro xs z; cases z)
          generalize eG3 : upd (join G' (del (nw Ha Hd) sp)) sp (.frz od (.dK (deK ep))) = G3 at Be
          have hG3 : G3 sp = some (.frz od (.dK (deK ep))) := by rw [← eG3]; exact upd_same
          -- the lists of spots are known
          have spots_at : ∀ (j : Nat) (e0 : DE), ep[j]? = some e0 → ∃ s, (spotsOf (wordsOf rb z))[j]? = some s ∧ s.1 = e0.1 ∧ Dp K G3 (.ref e0.2.1) (.list (s.2.map fun n : Nat => PyData.int (n : Int))) := by
            intro j e0 hj0
            have e1 : (deM ep)[j]? = some (e0.1, e0.2.2) := by unfold deM; rw [List.getElem?_map, hj0]; rfl
            rw [hM] at e1
            unfold spM at e1
            rw [List.getElem?_map] at e1
            change ((spotsOf (wordsOf rb z))[j]?.map _) = _ at e1
            cases e2 : (spotsOf (wordsOf rb z))[j]? with
            | none => rw [e2] at e1; cases e1
            | some s =>
              rw [e2] at e1
              obtain ⟨e3, e4⟩ := Prod.mk.inj (Option.some.inj e1)
              refine ⟨s, rfl, e3, ?_⟩
              have he0 : e0 ∈ ep := List.mem_of_getElem? hj0
              obtain ⟨ys, g1, g2⟩ := D.lst e0 he0
              rw [← e4] at g2
              have mem : e0.2.1 ∈ deL ep := List.mem_map.mpr ⟨e0, he0, rfl⟩
              have nsp : e0.2.1 ≠ sp := fun q => (List.nodup_cons.mp D.nd).1 (q ▸ mem)
              have na : Ha e0.2.1 = none := (D.new _ (List.mem_cons_of_mem _ mem)).1
              refine .lst (SqL.of ?_) (DpAll.ints_any g2)
              rw [← eG3, upd_ne nsp]
              unfold join
              rw [Same.free Ba.dl.prot na]
              show del (nw Ha Hd) sp e0.2.1 = _
              rw [del_ne nsp, nw_none na]
              exact g1
          have hspl := spots_few (rb := rb) hzl
          have hlen : ep.length = (spotsOf (wordsOf rb z)).length := by
            have e1 := congrArg List.length hM
            unfold deM spM at e1
            rw [List.length_map, List.length_map] at e1
            exact e1
          have hB0 : Bd (layParts rb name (ps.zipIdx.take i) st) (n + 3001 * 3) := (Bd.parts rb name (ps.zipIdx.take i) st n (fun zp hzp => by
            have h1 := List.mem_of_mem_take hzp
            exact hz _ (List.mem_of_getElem? (List.mk_mem_zipIdx_iff_getElem?.mp h1))) hBd).mono (by rw [List.length_take, List.length_zipIdx]; omega)
          refine ⟨sp, od, deK ep, rfl, upd_same, ?_⟩
          have hlk : (deK ep).length = ep.length := by unfold deK; rw [List.length_map]
          refine for_it (walk_items (kvs := deK ep)) (fun j σ H5 => ∃ (x6 x7 x8 x9 x10 : Option V) (Gj : Hp) (es3 : List DE), σ = [some (.ref b), some (.str name), some (.ref t), some (.str z), some (.int (i : Nat)), some (.ref sp), x6, x7, x8, x9, x10] ∧
              BookIn K cM cR Hs H0 Gj H5 b dx fs r d1 d2 d3 rb (tx ++ [(name, ps)]) (ln ++ [(name, lenOf ps)]) es3 ∧ Same G3 Gj ∧ deM es3 = stM (((spotsOf (wordsOf rb z)).take j).foldl (fun st s => pushA st s.1 (name, i, s.2)) (layParts rb name (ps.zipIdx.take i) st)))
            ⟨x6, x7, x8, x9, x10, G3, es', rfl, Be, Same.refl _, he'⟩ (fun j σ H5 _ ⟨_, _, _, _, _, Gj, _, _, B5, g5, _⟩ => B5.dl.prot _ _ (g5 _ _ hG3)) ?_ ?_
          · rintro j x σ H5 H6 hj ⟨x6, x7, x8, x9, x10, Gj, es3, rfl, B5, g5, hM5⟩ ⟨T2, kx, vx, rfl, hT2, rfl, ek, ev⟩
            obtain ⟨e0, he0, rfl, rfl⟩ : ∃ e0, ep[j]? = some e0 ∧ kx = .str e0.1 ∧ vx = .ref e0.2.1 := by
              unfold deK at ek ev
              dsimp only at ek ev
              rw [List.getElem?_map] at ek ev
              cases e : ep[j]? with
              | none => rw [e] at ek; cases ek
              | some e0 =>
                rw [e] at ek ev
                exact ⟨e0, rfl, (Option.some.inj ek).symm, (Option.some.inj ev).symm⟩
            obtain ⟨sj, hsj, esj, dsj⟩ := spots_at j e0 he0
            have hj' : j < (spotsOf (wordsOf rb z)).length := (List.getElem?_eq_some_iff.mp hsj).1
            refine ⟨T2, _, rfl, SqT.of upd_same, rfl, _, _, rfl, _, _, rfl, rfl, ?_⟩
            have Bx := B5.growS (same_upd (o := .tup [.str e0.1, .ref e0.2.1]) hT2)
            generalize upd H5 T2 (.tup [.str e0.1, .ref e0.2.1]) = Hx at Bx ⊢
            have hbd : Bd (((spotsOf (wordsOf rb z)).take j).foldl (fun st s => pushA st s.1 (name, i, s.2)) (layParts rb name (ps.zipIdx.take i) st)) (n + 3001 * 4) := (Bd.part name i ((spotsOf (wordsOf rb z)).take j) _ _ hB0).mono (by rw [List.length_take]; omega)
            have hl3 : es3.length ≤ n + 3001 * 4 := by
              have e1 := congrArg List.length hM5
              unfold deM stM at e1
              rw [List.length_map, List.length_map] at e1
              rw [e1]; exact hbd.1
            show tDSetd (tFld _ (tVar 0) _) (tVar 6) (tLst tNil) _ _ _
            refine setd_fld rfl Bx.ob T.mC T.m4 Bx.fl.f4 rfl Bx.dl (small_sz (by omega)) fun q e es2 H7 hq he hk D2 hM2 hag => ?_
            have B7 := Bx.setd hq D2 hag
            obtain ⟨ys, hL, hdat⟩ := D2.lst e he
            have hys : ys.length ≤ n + 3001 * 4 := DL.ys_len D2 he hM2 (by rw [hM5]; exact hbd.map) hL
            refine ⟨.inl ⟨rfl, _, SqL.of hL⟩, _, rfl, _, rfl, _, rfl, by show 3 ≤ sizeLine; decide, fun p hp => ?_⟩
            have B8 := B7.keep (same_upd (o := .tup [.str name, .int (i : Nat), .ref e0.2.1]) hp)
            have hL8 := same_upd (o := .tup [.str name, .int (i : Nat), .ref e0.2.1]) hp _ _ hL
            have row : Dp K (join Gj (nw H7 (upd H7 p (.tup [.str name, .int (i : Nat), .ref e0.2.1])))) (.ref p) (rowD (name, i, sj.2)) := by
              refine .tup (SqT.of ?_) (.cons (.str _) (.cons (.int _) (.cons (Dp.mono (Same.trans g5 join_l) dsj) .nil)))
              unfold join
              rw [Same.free B7.dl.prot hp]
              show nw H7 _ p = _
              rw [nw_none hp]
              exact upd_same
            have B9 := B8.push he hL8 row
            refine ⟨e.2.1, ys, _, rfl, rfl, hL8, small_sz (by omega), ?_⟩
            refine ⟨_, _, _, _, _, _, _, rfl, B9, Same.trans g5 join_l, ?_⟩
            rw [dePush_M, hM2, hM5, foldl_take_succ hsj, stM_push, hk, esj]
            rfl
          · rintro σ H5 ⟨x6, x7, x8, x9, x10, Gj, es3, rfl, B5, g5, hM5⟩
            refine ⟨_, _, _, _, _, _, _, _, Gj, es3, rfl, B5, ?_⟩
            rw [hM5, hlk, hlen, foldl_take_all rfl]
            have e1 : (ps.zipIdx)[i]? = some (z, i) := by
              rw [List.getElem?_zipIdx, hz1]
              simp
            unfold layParts
            rw [foldl_take_succ e1]
            rfl
      · rintro σ H' ⟨x3, x4, x5, x6, x7, x8, x9, x10, G', es', rfl, B', he'⟩
        refine k H' G' es' B' ?_
        rw [he', hlp]
        unfold layText
        rw [show ps.zipIdx.take ps.length = ps.zipIdx by rw [List.take_of_length_le (by simp)]]
end
end KR
set_option maxHeartbeats 4000000
namespace KR
open PySem PySem.Spec PyProof.Rows L2
/-! ## a book as it stands -/
def sortedTx (m : List Tx) : List Tx := (ssort (m.map (·.1))).map fun k => (k, (aget m k).getD [])
structure BookBody (K : PySem.W.Frag) (cR : Addr) (H : Hp) (r d1 d2 d3 : Addr) (rb : Rb) (ts : List Tx) : Prop where
  rbk : RbAt cR H r rb
  tx_ : ∃ kv1, H d1 = some (.dK kv1) ∧ DkAll K H kv1 (ts.map fun t => (t.1, partsD t.2))
  ln_ : H d2 = some (.dK (lnK (ts.map fun t => (t.1, lenOf t.2))))
  st_ : ∃ kv3, H d3 = some (.dK kv3) ∧ DkAll K H kv3 ((stM (standsOf rb ts)).map fun p => (p.1, .list p.2))
theorem BookBody.mono {K : PySem.W.Frag} {cR : Addr} {H H' : Hp} {r d1 d2 d3 : Addr} {rb : Rb} {ts : List Tx} (s : Same H H') (B : BookBody K cR H r d1 d2 d3 rb ts) : BookBody K cR H' r d1 d2 d3 rb ts := by
  obtain ⟨kv1, h1, h2⟩ := B.tx_
  obtain ⟨kv3, h3, h4⟩ := B.st_
  exact ⟨B.rbk.mono s, ⟨kv1, s _ _ h1, h2.mono s⟩, s _ _ B.ln_, kv3, s _ _ h3, h4.mono s⟩
theorem putF_len (f : Str) (v : V) : ∀ fs : List (Str × V), (putF f v fs).length ≤ fs.length + 1
  | [] => Nat.le_refl _
  | (g, x) :: r => by
    unfold putF
    split
    · exact Nat.le_succ _
    · exact Nat.succ_le_succ (putF_len f v r)
def bookF (r d1 d2 d3 : Addr) : List (Str × V) := putF "book_stands" (.ref d3) (putF "book_lengths" (.ref d2) (putF "book_texts" (.ref d1) (putF "book_rules" (.ref r) [])))
theorem bookF_ok (r d1 d2 d3 : Addr) : BFld (bookF r d1 d2 d3) r d1 d2 d3 := by
  refine ⟨?_, ?_, ?_, ?_, fun m h1 h2 h3 h4 _ => ?_⟩
  · unfold bookF
    rw [lookup_putF, if_neg (by decide +kernel), lookup_putF, if_neg (by decide +kernel), lookup_putF, if_neg (by decide +kernel), lookup_putF, if_pos rfl]
  · unfold bookF
    rw [lookup_putF, if_neg (by decide +kernel), lookup_putF, if_neg (by decide +kernel), lookup_putF, if_pos rfl]
  · unfold bookF
    rw [lookup_putF, if_neg (by decide +kernel), lookup_putF, if_pos rfl]
  · unfold bookF
    rw [lookup_putF, if_pos rfl]
  · unfold bookF
    rw [lookup_putF, if_neg h4, lookup_putF, if_neg h3, lookup_putF, if_neg h2, lookup_putF, if_neg h1]
    rfl
theorem bookF_len (r d1 d2 d3 : Addr) : (bookF r d1 d2 d3).length ≤ 4 := by
  unfold bookF
  refine Nat.le_trans (putF_len _ _ _) (Nat.succ_le_succ (Nat.le_trans (putF_len _ _ _) (Nat.succ_le_succ (Nat.le_trans (putF_len _ _ _) (Nat.succ_le_succ (putF_len _ _ _))))))
theorem Bd.text {rb : Rb} {st : Stand} {n : Nat} {t : Tx} (h : Bd st n) (h3 : t.2.length ≤ 3) (hz : ∀ z ∈ t.2, z.length ≤ 1000) : Bd (layText rb st t) (n + 9003) :=
  (Bd.parts rb t.1 t.2.zipIdx st n (fun zp hzp => hz _ (List.mem_of_getElem? (List.mk_mem_zipIdx_iff_getElem?.mp hzp))) h).mono (by rw [List.length_zipIdx]; omega)
theorem Bd.texts {rb : Rb} : ∀ (ts : List Tx) (st : Stand) (n : Nat), Bd st n → (∀ t ∈ ts, t.2.length ≤ 3 ∧ ∀ z ∈ t.2, z.length ≤ 1000) → Bd (ts.foldl (layText rb) st) (n + 9003 * ts.length)
  | [], st, n, h, _ => h
  | t :: ts, st, n, h, q => by
    have q1 := q t List.mem_cons_self
    have := Bd.texts (rb := rb) ts _ _ (h.text (rb := rb) q1.1 q1.2) fun x hx => q x (List.mem_cons_of_mem _ hx)
    rw [List.length_cons, show n + 9003 * (ts.length + 1) = n + 9003 + 9003 * ts.length by omega]
    exact this
theorem aget_some {α : Type} {m : List (Str × α)} {k : Str} (h : k ∈ m.map (·.1)) : ∃ x, aget m k = some x ∧ (k, x) ∈ m := by
  induction m with
  | nil => cases h
  | cons p m ih =>
    by_cases e : p.1 = k
    · refine ⟨p.2, by simp [aget, List.find?_cons, e], ?_⟩
      rw [← e]; exact List.mem_cons_self
    · have e2 : aget (p :: m) k = aget m k := by simp [aget, List.find?_cons, e]
      rw [e2]
      have h' : k ∈ m.map (·.1) := by
        rcases List.mem_cons.mp h with q | q
        · exact absurd q.symm e
        · exact q
      obtain ⟨x, h1, h2⟩ := ih h'
      exact ⟨x, h1, List.mem_cons_of_mem _ h2⟩
theorem aget_map {α β : Type} (f : α → β) (m : List (Str × α)) (k : Str) : aget (m.map fun t => (t.1, f t.2)) k = (aget m k).map f := by
  induction m with
  | nil => rfl
  | cons p m ih =>
    by_cases e : p.1 = k
    · simp [aget, List.find?_cons, e]
    · have e2 : aget (p :: m) k = aget m k := by simp [aget, List.find?_cons, e]
      have e3 : aget ((p :: m).map fun t => (t.1, f t.2)) k = aget (m.map fun t => (t.1, f t.2)) k := by simp [aget, List.find?_cons, e]
      rw [e2, e3, ih]
theorem sortedTx_names (m : List Tx) : (sortedTx m).map (·.1) = ssort (m.map (·.1)) := by
  unfold sortedTx
  rw [List.map_map]
  exact (List.map_congr_left fun _ _ => rfl).trans (List.map_id _)
theorem sortedTx_mem {m : List Tx} {t : Tx} (h : t ∈ sortedTx m) : t ∈ m := by
  obtain ⟨k, hk, rfl⟩ := List.mem_map.mp h
  obtain ⟨x, h1, h2⟩ := aget_some ((ssort_perm _).mem_iff.mp hk)
  rw [h1]; exact h2
/-- what Book.__init__ leaves -/
def spBInit (K : PySem.W.Frag) (cM cR : Addr) : Sp := fun vs H Q _ => ∃ (Hs H0 : Hp) (b dx r d : Addr) (rb : Rb) (m : List Tx) (kvt : List (Key × V)),
  vs = [.ref b, .ref r, .ref d] ∧ Same Hs H0 ∧ Same H0 H ∧ H0 b = none ∧ H b = some (.ins cM dx []) ∧ RbAt cR Hs r rb ∧ rb.Ok ∧ H0 d = some (.dK kvt) ∧ DkAll K Hs kvt (m.map fun t => (t.1, partsD t.2)) ∧ (m.map (·.1)).Nodup ∧ m.length ≤ 100 ∧
  (∀ t ∈ m, t.2.length ≤ 3 ∧ ∀ z ∈ t.2, z.length ≤ 1000) ∧
  ∀ (H' : Hp) (fs : List (Str × V)) (d1 d2 d3 : Addr), Same H0 H' → H' b = some (.ins cM dx fs) → BFld fs r d1 d2 d3 → fs.length ≤ 10 → BookBody K cR (join Hs (del (nw H0 H') b)) r d1 d2 d3 rb (sortedTx m) → Q .non H'
section
variable {P : Program} {w : World} {K : PySem.W.Frag} {mg : Str → Option Value} {base : Heap} {cL cM cH cR : Addr}
theorem scBInit : FnScope ["self", "rulebook", "texts", "name"] ["self", "rulebook", "texts"] (defScope sBInit) := ⟨rfl, rfl, rfl, by decide +kernel, rfl, by decide +kernel, by decide +kernel⟩
theorem ok_binit {f : Addr} {fd : FuncData} (F : Fun K "__init__" "Book.__init__" sBInit f fd) (T : Txt K mg cL cM cH cR)
    (mLay : Mth P w K mg base cM 3 "lay_text" ["self", "name", "parts"] (spLay K cM cR)) :
    FnOk P w K mg base CX0 4 f fd ["self", "rulebook", "texts"] (spBInit K cM cR) := by
  refine F.ok scBInit (fun vs H Q E h => ?_) (fun cdv A outer s H vs Q E hr h => ?_)
  · obtain ⟨Hs, H0, b, dx, r, d, rb, m, kvt, rfl, _⟩ := h
    rfl
  · obtain ⟨Hs, H0, b, dx, r, d, rb, m, kvt, rfl, ss, s0, nb, hb, R, ok, hd, hk, hnd, hml, hsz, k⟩ := h
    have hu := hu_of hr
    have nd := scBInit.nd
    refine ⟨_, (pss_cons (ps_fld (pv 0) (pv 1) rfl)
      (pss_cons (ps_fld (pv 0) pe_dnewK rfl)
      (pss_cons (ps_fld (pv 0) pe_dnewK rfl)
      (pss_cons (ps_fld (pv 0) pe_dnewK rfl)
      (pss_one (ps_for PassesOwn.never rfl (pi_list (pe_callB (cr_sortKS rfl) (by rfl) T.sorted (by decide +kernel) (pa_cons (pe_keys (pv 2)) pa_nil))) (pg_name (i := 3) nd rfl (.inl rfl))
          (pss_one (ps_expr (pe_mth (pv 0) T.mC mLay hr (pa_cons (pv 3) (pa_cons (pe_dget hu (pv 2) (pv 3) (fun _ _ => rfl)) pa_nil))))))))))), ?_⟩
    -- the four fields
    refine ⟨_, rfl, _, rfl, b, cM, dx, _, rfl, hb, T.mC, T.m1, (by show 0 < 1000; decide), ?_⟩
    have s1 : Same H0 (upd H b (.ins cM dx (putF "book_rules" (.ref r) []))) := same_wr s0 nb
    have b1 : (upd H b (.ins cM dx (putF "book_rules" (.ref r) []))) b = some (.ins cM dx (putF "book_rules" (.ref r) [])) := upd_same
    generalize upd H b (.ins cM dx (putF "book_rules" (.ref r) [])) = H1 at s1 b1 ⊢
    intro d1 hd1
    have n1 : d1 ≠ b := (ne_of_none b1 hd1).symm
    have z1 : H0 d1 = none := Same.free s1 hd1
    refine ⟨_, rfl, b, cM, dx, _, rfl, by rw [upd_ne n1.symm]; exact b1, T.mC, T.m2, Nat.lt_of_le_of_lt (putF_len _ _ _) (by decide), ?_⟩
    have s2 : Same H0 (upd (upd H1 d1 (.dK [])) b (.ins cM dx (putF "book_texts" (.ref d1) (putF "book_rules" (.ref r) [])))) := same_wr (same_wr s1 z1) nb
    have b2 : (upd (upd H1 d1 (.dK [])) b (.ins cM dx (putF "book_texts" (.ref d1) (putF "book_rules" (.ref r) [])))) b = some (.ins cM dx (putF "book_texts" (.ref d1) (putF "book_rules" (.ref r) []))) := upd_same
    have q2 : (upd (upd H1 d1 (.dK [])) b (.ins cM dx (putF "book_texts" (.ref d1) (putF "book_rules" (.ref r) [])))) d1 = some (.dK []) := by rw [upd_ne n1]; exact upd_same
    generalize upd (upd H1 d1 (.dK [])) b (.ins cM dx (putF "book_texts" (.ref d1) (putF "book_rules" (.ref r) []))) = H2 at s2 b2 q2 ⊢
    intro d2 hd2
    have n2 : d2 ≠ b := (ne_of_none b2 hd2).symm
    have n21 : d2 ≠ d1 := (ne_of_none q2 hd2).symm
    have z2 : H0 d2 = none := Same.free s2 hd2
    refine ⟨_, rfl, b, cM, dx, _, rfl, by rw [upd_ne n2.symm]; exact b2, T.mC, T.m3, Nat.lt_of_le_of_lt (Nat.le_trans (putF_len _ _ _) (Nat.succ_le_succ (putF_len _ _ _))) (by decide), ?_⟩
    have s3 : Same H0 (upd (upd H2 d2 (.dK [])) b (.ins cM dx (putF "book_lengths" (.ref d2) (putF "book_texts" (.ref d1) (putF "book_rules" (.ref r) []))))) := same_wr (same_wr s2 z2) nb
    have b3 : (upd (upd H2 d2 (.dK [])) b (.ins cM dx (putF "book_lengths" (.ref d2) (putF "book_texts" (.ref d1) (putF "book_rules" (.ref r) []))))) b = some (.ins cM dx (putF "book_lengths" (.ref d2) (putF "book_texts" (.ref d1) (putF "book_rules" (.ref r) [])))) := upd_same
    have q31 : (upd (upd H2 d2 (.dK [])) b (.ins cM dx (putF "book_lengths" (.ref d2) (putF "book_texts" (.ref d1) (putF "book_rules" (.ref r) []))))) d1 = some (.dK []) := by rw [upd_ne n1, upd_ne n21.symm]; exact q2
    have q32 : (upd (upd H2 d2 (.dK [])) b (.ins cM dx (putF "book_lengths" (.ref d2) (putF "book_texts" (.ref d1) (putF "book_rules" (.ref r) []))))) d2 = some (.dK []) := by rw [upd_ne n2]; exact upd_same
    generalize upd (upd H2 d2 (.dK [])) b (.ins cM dx (putF "book_lengths" (.ref d2) (putF "book_texts" (.ref d1) (putF "book_rules" (.ref r) [])))) = H3 at s3 b3 q31 q32 ⊢
    intro d3 hd3
    have n3 : d3 ≠ b := (ne_of_none b3 hd3).symm
    have n31 : d3 ≠ d1 := (ne_of_none q31 hd3).symm
    have n32 : d3 ≠ d2 := (ne_of_none q32 hd3).symm
    have z3 : H0 d3 = none := Same.free s3 hd3
    refine ⟨_, rfl, b, cM, dx, _, rfl, by rw [upd_ne n3.symm]; exact b3, T.mC, T.m4, Nat.lt_of_le_of_lt (Nat.le_trans (putF_len _ _ _) (Nat.succ_le_succ (Nat.le_trans (putF_len _ _ _) (Nat.succ_le_succ (putF_len _ _ _))))) (by decide), ?_⟩
    have s4 : Same H0 (upd (upd H3 d3 (.dK [])) b (.ins cM dx (bookF r d1 d2 d3))) := same_wr (same_wr s3 z3) nb
    have b4 : (upd (upd H3 d3 (.dK [])) b (.ins cM dx (bookF r d1 d2 d3))) b = some (.ins cM dx (bookF r d1 d2 d3)) := upd_same
    have q41 : (upd (upd H3 d3 (.dK [])) b (.ins cM dx (bookF r d1 d2 d3))) d1 = some (.dK []) := by rw [upd_ne n1, upd_ne n31.symm]; exact q31
    have q42 : (upd (upd H3 d3 (.dK [])) b (.ins cM dx (bookF r d1 d2 d3))) d2 = some (.dK []) := by rw [upd_ne n2, upd_ne n32.symm]; exact q32
    have q43 : (upd (upd H3 d3 (.dK [])) b (.ins cM dx (bookF r d1 d2 d3))) d3 = some (.dK []) := by rw [upd_ne n3]; exact upd_same
    rw [show putF "book_stands" (.ref d3) (putF "book_lengths" (.ref d2) (putF "book_texts" (.ref d1) (putF "book_rules" (.ref r) []))) = bookF r d1 d2 d3 from rfl]
    generalize upd (upd H3 d3 (.dK [])) b (.ins cM dx (bookF r d1 d2 d3)) = H4 at s4 b4 q41 q42 q43 ⊢
    -- for name in sorted(texts.keys())
    refine ⟨_, rfl, d, kvt, rfl, .inl (s4 _ _ hd), fun v hv => ?_⟩
    have s5 := same_upd (o := keysO v d) hv
    refine ⟨v, d, kvt, m.map (·.1), rfl, upd_same, .inl (s5 _ _ (s4 _ _ hd)), ?_, fun p hp => ?_⟩
    · rw [hk.keys]
      simp only [List.map_map]
      rfl
    have s6 := Same.trans s5 (same_upd (o := .lst ((ssort (m.map (·.1))).map V.str)) hp)
    have hp6 : (upd (upd H4 v (keysO v d)) p (.lst ((ssort (m.map (·.1))).map V.str))) p = some (.lst ((ssort (m.map (·.1))).map V.str)) := upd_same
    have pn : p ≠ b ∧ p ≠ d1 ∧ p ≠ d2 ∧ p ≠ d3 := ⟨(ne_of_none (s5 _ _ b4) hp).symm, (ne_of_none (s5 _ _ q41) hp).symm, (ne_of_none (s5 _ _ q42) hp).symm, (ne_of_none (s5 _ _ q43) hp).symm⟩
    generalize upd (upd H4 v (keysO v d)) p (.lst ((ssort (m.map (·.1))).map V.str)) = H6 at s6 hp6 ⊢
    have s06 := Same.trans s4 s6
    have b6 := s6 _ _ b4
    have q61 := s6 _ _ q41
    have q62 := s6 _ _ q42
    have q63 := s6 _ _ q43
    obtain ⟨H0', hH0'⟩ : ∃ X, X = del (del (del (del H6 b) d1) d2) d3 := ⟨_, rfl⟩
    have t06 : Same H0' H6 := by rw [hH0']; exact Same.trans same_del (Same.trans same_del (Same.trans same_del same_del))
    have t00 : Same H0 H0' := by
      rw [hH0']
      exact same_del_of (same_del_of (same_del_of (same_del_of s06 nb) z1) z2) z3
    have o1 : H0' b = none := by rw [hH0', del_ne n3.symm, del_ne n2.symm, del_ne n1.symm, del_same]
    have o2 : H0' d1 = none := by rw [hH0', del_ne n31.symm, del_ne n21.symm, del_same]
    have o3 : H0' d2 = none := by rw [hH0', del_ne n32.symm, del_same]
    have o4 : H0' d3 = none := by rw [hH0', del_same]
    have hp0 : H0' p = some (.lst ((ssort (m.map (·.1))).map V.str)) := by rw [hH0', del_ne pn.2.2.2, del_ne pn.2.2.1, del_ne pn.2.1, del_ne pn.1]; exact hp6
    have hnew : ∀ a ∈ d3 :: deL ([] : List DE), H0' a = none ∧ (fun _ => none : Hp) a = none := fun a ha => by
      have e : a = d3 := by simpa [deL] using ha
      rw [e]; exact ⟨o4, rfl⟩
    have Bk0 : BookIn K cM cR Hs H0' (fun _ => none) H6 b dx (bookF r d1 d2 d3) r d1 d2 d3 rb [] [] [] :=
      ⟨b6, bookF_ok r d1 d2 d3, Same.trans ss t00, R, ⟨[], q61, .nil⟩, q62, ⟨t06, (fun _ _ e => by cases e), q63, List.nodup_nil, by simp [deL], hnew, (fun _ h => by cases h), fun _ _ _ => rfl⟩, ⟨o1, rfl⟩, ⟨o2, rfl⟩, ⟨o3, rfl⟩, n21.symm, n31.symm, n32.symm⟩
    have hnm := sortedTx_names m
    have hlm : (sortedTx m).length = m.length := by unfold sortedTx; rw [List.length_map, (ssort_perm _).length_eq, List.length_map]
    have hnd2 : ((sortedTx m).map (·.1)).Nodup := by rw [hnm]; exact (ssort_perm _).nodup_iff.mpr hnd
    refine ⟨p, rfl, ⟨_, SqL.of hp6⟩, ?_⟩
    refine for_it (walk_list (xs := (ssort (m.map (·.1))).map V.str)) (fun i σ H' => ∃ (x3 : Option V) (G : Hp) (es : List DE), σ = [some (.ref b), some (.ref r), some (.ref d), x3] ∧
        BookIn K cM cR Hs H0' G H' b dx (bookF r d1 d2 d3) r d1 d2 d3 rb ((sortedTx m).take i) (((sortedTx m).take i).map fun t => (t.1, lenOf t.2)) es ∧ deM es = stM (((sortedTx m).take i).foldl (layText rb) []))
      ⟨none, _, [], rfl, Bk0, rfl⟩ (fun i σ H' _ ⟨_, G, es, _, B, _⟩ => SqL.of (B.same _ _ hp0)) ?_ ?_
    · rintro i x σ H' H'' hi ⟨x3, G, es, rfl, B, hM⟩ ⟨eH, ex⟩
      subst eH
      rw [List.getElem?_map, ← hnm, List.getElem?_map] at ex
      obtain ⟨t, ht, rfl⟩ : ∃ t, (sortedTx m)[i]? = some t ∧ x = V.str t.1 := by
        cases e : (sortedTx m)[i]? with
        | none => rw [e] at ex; cases ex
        | some t => rw [e] at ex; exact ⟨t, rfl, (Option.some.inj ex).symm⟩
      have htm := sortedTx_mem (List.mem_of_getElem? ht)
      have hts := hsz t htm
      have hil : i < (sortedTx m).length := (List.getElem?_eq_some_iff.mp ht).1
      -- texts[name]
      rcases hk.val t.1 with ⟨_, g2⟩ | ⟨v1, dt, g1, g2, g3⟩
      · rw [aget_map, ] at g2
        obtain ⟨y, y1, _⟩ := aget_some (List.mem_map.mpr ⟨t, htm, rfl⟩ : t.1 ∈ m.map (·.1))
        rw [y1] at g2; cases g2
      · rw [aget_map] at g2
        have htag : aget m t.1 = some t.2 := by
          have h1 : t ∈ sortedTx m := List.mem_of_getElem? ht
          obtain ⟨k0, hk0, e0⟩ := List.mem_map.mp h1
          obtain ⟨y, y1, y2⟩ := aget_some ((ssort_perm _).mem_iff.mp hk0)
          rw [← e0]
          show aget m k0 = some ((aget m k0).getD [])
          rw [y1]; rfl
        rw [htag] at g2
        have e3 := Option.some.inj g2
        subst e3
        obtain ⟨ta, ys, rfl, gq, gt⟩ := dp_tup g3
        have e4 := gt.strs_of
        subst e4
        refine ⟨_, rfl, b, dx, _, rfl, B.ob, B.fl.no _ (by decide +kernel) (by decide +kernel) (by decide +kernel) (by decide +kernel) (by decide +kernel), _, rfl, _, rfl, _, rfl, d, .ref ta, rfl, ?_, ?_⟩
        · have := DGet.k (k := Sum.inr t.1) (B.same _ _ (t00 _ _ hd))
          rw [g1] at this
          exact this
        have hbd : Bd (((sortedTx m).take i).foldl (layText rb) []) 900300 := (Bd.texts ((sortedTx m).take i) [] 0 Bd.nil fun x hx => hsz x (sortedTx_mem (List.mem_of_mem_take hx))).mono (by rw [List.length_take]; omega)
        have hne : ∀ q ∈ (sortedTx m).take i, q.1 ≠ t.1 := fun q hq => by
          have e1 : (sortedTx m).take (i + 1) = (sortedTx m).take i ++ [t] := by
            obtain ⟨hi, e⟩ := List.getElem?_eq_some_iff.mp ht
            rw [List.take_succ_eq_append_getElem hi, e]
          have h1 : (((sortedTx m).take (i + 1)).map (·.1)).Nodup := hnd2.sublist ((List.take_sublist _ _).map _)
          rw [e1, List.map_append] at h1
          exact (List.nodup_append.mp h1).2.2 q.1 (List.mem_map.mpr ⟨q, hq, rfl⟩) t.1 List.mem_cons_self
        have htl : ((sortedTx m).take i).length ≤ 1000 := by rw [List.length_take]; omega
        refine ⟨Hs, H0', G, b, dx, _, r, d1, d2, d3, rb, _, _, es, _, 900300, t.1, ta, t.2, rfl, B, ok, hM, hbd, by decide, gq, hts.2, hts.1, hne, fun q hq => ?_, htl, by rw [List.length_map]; exact htl, fun H5 G5 es5 B5 hM5 => ?_⟩
        · obtain ⟨z, hz, rfl⟩ := List.mem_map.mp hq
          exact hne z hz
        · have e1 : (sortedTx m).take (i + 1) = (sortedTx m).take i ++ [t] := by
            obtain ⟨hi, e⟩ := List.getElem?_eq_some_iff.mp ht
            rw [List.take_succ_eq_append_getElem hi, e]
          refine ⟨_, G5, es5, rfl, ?_, ?_⟩
          · rw [e1, List.map_append]; exact B5
          · rw [hM5, foldl_take_succ ht]
    · rintro σ H' ⟨x3, G, es, rfl, B, hM⟩
      have hlk : ((ssort (m.map (·.1))).map V.str).length = (sortedTx m).length := by rw [List.length_map, ← hnm, List.length_map]
      rw [hlk, List.take_length] at B hM
      refine k H' _ d1 d2 d3 (Same.trans t00 B.same) B.ob B.fl (Nat.le_trans (bookF_len _ _ _ _) (by decide)) ?_
      have cons : ∀ a o u, Hs a = some o → del (nw H0 H') b a = some u → o = u := fun a o u e1 e2 => by
        obtain ⟨e3, _⟩ := del_some e2
        obtain ⟨e4, _⟩ := nw_some e3
        rw [ss _ _ e1] at e4; cases e4
      have up : ∀ a o, H0 a = none → a ≠ b → H' a = some o → join Hs (del (nw H0 H') b) a = some o := fun a o e1 e2 e3 => join_r cons a o (by rw [del_ne e2, nw_none e1]; exact e3)
      obtain ⟨kv1, g1, g2⟩ := B.tx_
      refine ⟨B.rbk.mono join_l, ⟨kv1, up _ _ z1 n1 g1, g2.mono join_l⟩, up _ _ z2 n2 B.ln_, _, up _ _ z3 n3 B.dl.at_, ?_⟩
      have D := B.dl.done B.ob (by intro xs z; cases z) B.nb.2
      rw [hM] at D
      refine DkAll.mono ?_ D
      exact Same.trans (same_dels (nw_less t00)) (join_r cons)
end
end KR
set_option maxHeartbeats 4000000
namespace KR
open PySem PySem.Spec PyProof.Rows L2
structure BookAt (K : PySem.W.Frag) (cM cR : Addr) (H : Hp) (b : Addr) (rb : Rb) (ts : List Tx) : Prop where
  ex : ∃ dx fs r d1 d2 d3, H b = some (.ins cM dx fs) ∧ BFld fs r d1 d2 d3 ∧ BookBody K cR H r d1 d2 d3 rb ts
theorem BookAt.mono {K : PySem.W.Frag} {cM cR : Addr} {H H' : Hp} {b : Addr} {rb : Rb} {ts : List Tx} (s : Same H H') (B : BookAt K cM cR H b rb ts) : BookAt K cM cR H' b rb ts := by
  obtain ⟨dx, fs, r, d1, d2, d3, h1, h2, h3⟩ := B.ex
  exact ⟨dx, fs, r, d1, d2, d3, s _ _ h1, h2, h3.mono s⟩
section
variable (P : Program) (w : World) (K : PySem.W.Frag) (mg : Str → Option Value) (base : Heap)
/-- a plain function of a class, called by the class -/
structure ClsF (C : Addr) (k : Nat) (x m : Str) (ps : List Str) (sp : Sp) : Prop where
  ex : ∃ (mc : Value) (f : Addr) (fd : FuncData), FnOk P w K mg base CX0 k f fd ps sp ∧ mg x = some (.ref C) ∧ ClX.CRead K C mc ∧ ClX.CVal K C mc m (.ref f) (.ref f) ∧ PySem.W.keepIn K (.ref f) = true ∧ Binds K fd ps []
end
theorem pe_clsf {X : Cx} {k : Nat} {C : Addr} {ps : List Str} {sp : Sp} {x m : Str} {np pos apos : Pos} {e : Expr} {es : List Expr} {t : TA} {pl : Sem Bool} (c : ClsF X.prog X.w X.K X.mg X.base C k x m ps sp) (hr : Room k X.A) (ha : PA X (e :: es) t) (hg : Gl X x := by rfl)
    (hdb : (x == ("__debug__" : Str)) = false := by decide) (hst : starEach (e :: es) X.env = (false, eval e X.env) :: starEach es X.env := by rfl) (hpl : (backTo pos (starEach es X.env)).any (·.1) = false := by rfl)
    (ht : eval (.Call (.Attribute (.Name x np) m apos) (e :: es) [] pos) X.env = (do
      let ov ← eval (.Name x np) X.env
      standAt apos.atName
      let (f, first) ← holding [ov] (getMethod ov m pl)
      callWith pos f first (backTo pos (starEach (e :: es) X.env)) (backToKw pos (keywordEach [] X.env))) := by rfl) :
    PE X (.Call (.Attribute (.Name x np) m apos) (e :: es) [] pos) (tClsFn C sp [] E0 (tC (.ref C)) t) := by
  obtain ⟨mc, f, fd, F, hm, r, v, kp, hb⟩ := c.ex
  exact pe_clsfn (pe_glob (v := .ref C) hg hm rfl hdb) r v kp F hr hb .nil pass0 ha hst hpl ht
def spMInit (K : PySem.W.Frag) (cM cR : Addr) : Sp := fun vs H Q _ => ∃ (Hs H0 : Hp) (b dx r d : Addr) (rb : Rb) (m : List Tx) (kvt : List (Key × V)) (n : Int),
  vs = [.ref b, .ref r, .ref d, .int n] ∧ Same Hs H0 ∧ Same H0 H ∧ H0 b = none ∧ H b = some (.ins cM dx []) ∧ RbAt cR Hs r rb ∧ rb.Ok ∧ H0 d = some (.dK kvt) ∧ DkAll K Hs kvt (m.map fun t => (t.1, partsD t.2)) ∧ (m.map (·.1)).Nodup ∧ m.length ≤ 100 ∧
  (∀ t ∈ m, t.2.length ≤ 3 ∧ ∀ z ∈ t.2, z.length ≤ 1000) ∧
  ∀ (H' : Hp), Same H0 H' → BookAt K cM cR (join Hs (nw H0 H')) b rb (sortedTx m) → Q .non H'
/-- a method that hands back data and leaves all -/
def spAsk0 (K : PySem.W.Frag) (cM cR : Addr) (D : Rb → List Tx → PyData) : Sp := fun vs H Q _ => ∃ (b : Addr) (rb : Rb) (ts : List Tx), vs = [.ref b] ∧ BookAt K cM cR H b rb ts ∧ rb.Ok ∧ ∀ H' v, Same H H' → Dp K (nw H H') v (D rb ts) → Q v H'
def namesD (ts : List Tx) : PyData := .list (ts.map fun t => .str t.1)
def wordsL (rb : Rb) (ts : List Tx) : List Str := ssort ((standsOf rb ts).map (·.1))
def wordsD (rb : Rb) (ts : List Tx) : PyData := .list ((wordsL rb ts).map .str)
def totalI (ts : List Tx) : Int := (ts.map fun t => lenOf t.2).sum
def begunL (rb : Rb) (ts : List Tx) (start : Str) : List Str := (wordsL rb ts).filter fun z => Txt.startswith z start
def begunD (rb : Rb) (ts : List Tx) (start : Str) : PyData := .list ((begunL rb ts start).map .str)
section
variable {P : Program} {w : World} {K : PySem.W.Frag} {mg : Str → Option Value} {base : Heap} {cL cM cH cR cB : Addr}
theorem scMInit : FnScope ["self", "rulebook", "texts", "number"] ["self", "rulebook", "texts", "number"] (defScope sMInit) := ⟨rfl, rfl, rfl, by decide +kernel, rfl, by decide +kernel, by decide +kernel⟩
theorem ok_minit {f : Addr} {fd : FuncData} (F : Fun K "__init__" "Make.__init__" sMInit f fd) (T : Txt K mg cL cM cH cR)
    (cBI : ClsF P w K mg base cB 4 "Book" "__init__" ["self", "rulebook", "texts"] (spBInit K cM cR)) :
    FnOk P w K mg base CX0 5 f fd ["self", "rulebook", "texts", "number"] (spMInit K cM cR) := by
  refine F.ok scMInit (fun vs H Q E h => ?_) (fun cdv A outer s H vs Q E hr h => ?_)
  · obtain ⟨Hs, H0, b, dx, r, d, rb, m, kvt, n, rfl, _⟩ := h
    rfl
  · obtain ⟨Hs, H0, b, dx, r, d, rb, m, kvt, n, rfl, ss, s0, nb, hb, R, ok, hd, hk, hnd, hml, hsz, k⟩ := h
    have nd := scMInit.nd
    refine ⟨_, (pss_cons (ps_expr (pe_clsf cBI hr (pa_cons (pv 0) (pa_cons (pv 1) (pa_cons (pv 2) pa_nil)))))
      (pss_one (ps_fld (pv 0) (pv 3) rfl))), ?_⟩
    refine ⟨rfl, _, rfl, _, rfl, _, rfl, Hs, H0, b, dx, r, d, rb, m, kvt, rfl, ss, s0, nb, hb, R, ok, hd, hk, hnd, hml, hsz, fun H' fs d1 d2 d3 s1 hb1 hf hfl B => ?_⟩
    refine ⟨_, rfl, _, rfl, b, cM, dx, _, rfl, hb1, T.mC, T.m5, Nat.lt_of_le_of_lt hfl (by decide), ?_⟩
    have s2 : Same H0 (upd H' b (.ins cM dx (putF "came" (.int n) fs))) := same_wr s1 nb
    refine k _ s2 ⟨dx, putF "came" (.int n) fs, r, d1, d2, d3, ?_, ?_, B.mono ?_⟩
    · refine join_r (fun a o u e1 e2 => ?_) b _ ?_
      · rw [nw_at (ss _ _ e1)] at e2; cases e2
      · rw [nw_none nb]; exact upd_same
    · refine ⟨?_, ?_, ?_, ?_, fun x h1 h2 h3 h4 h5 => ?_⟩
      · rw [lookup_putF, if_neg (by decide +kernel)]; exact hf.f1
      · rw [lookup_putF, if_neg (by decide +kernel)]; exact hf.f2
      · rw [lookup_putF, if_neg (by decide +kernel)]; exact hf.f3
      · rw [lookup_putF, if_neg (by decide +kernel)]; exact hf.f4
      · rw [lookup_putF, if_neg h5]; exact hf.no x h1 h2 h3 h4 h5
    · intro a o e
      rcases join_some e with e | ⟨e0, e⟩
      · exact join_l _ _ e
      · obtain ⟨e1, e2⟩ := del_some e
        obtain ⟨e3, e4⟩ := nw_some e1
        refine join_r (fun a o u e1 e2 => ?_) a o ?_
        · rw [nw_at (ss _ _ e1)] at e2; cases e2
        · rw [nw_none e3, upd_ne e2]; exact e4
/-! the askings -/
theorem scBNames : FnScope ["self"] ["self"] (defScope sBNames) := ⟨rfl, rfl, rfl, by decide +kernel, rfl, by decide +kernel, by decide +kernel⟩
theorem ok_bnames {f : Addr} {fd : FuncData} (F : Fun K "names" "Book.names" sBNames f fd) (T : Txt K mg cL cM cH cR) :
    FnOk P w K mg base CX0 1 f fd ["self"] (spAsk0 K cM cR fun _ ts => namesD ts) := by
  refine F.ok scBNames (fun vs H Q E h => ?_) (fun cdv A outer s H vs Q E hr h => ?_)
  · obtain ⟨b, rb, ts, rfl, _⟩ := h
    rfl
  · obtain ⟨b, rb, ts, rfl, B, ok, k⟩ := h
    obtain ⟨dx, fs, r, d1, d2, d3, hb, hf, bb⟩ := B.ex
    obtain ⟨kv1, h1, h2⟩ := bb.tx_
    refine ⟨_, (pss_one (ps_ret (pe_callTy (cr_listK rfl) (by rfl) T.list (by decide +kernel) (pa_cons (pe_keys (pe_fld (pv 0) rfl)) pa_nil)))), ?_⟩
    refine ⟨_, rfl, b, cM, dx, _, _, rfl, hb, T.mC, T.m2, hf.f2, d1, kv1, rfl, .inl h1, fun v hv => ?_⟩
    have s1 := same_upd (o := keysO v d1) hv
    refine ⟨v, d1, kv1, rfl, upd_same, .inl (s1 _ _ h1), fun p hp => ?_⟩
    refine k _ _ (Same.trans s1 (same_upd hp)) ?_
    have e1 : (kv1.map fun kv => kV kv.1) = (ts.map (·.1)).map V.str := by
      have e2 := congrArg (List.map kV) h2.keys
      rw [List.map_map] at e2
      refine Eq.trans e2 ?_
      simp only [List.map_map]
      rfl
    rw [e1]
    have e3 : (ts.map fun t => PyData.str t.1) = (ts.map (·.1)).map PyData.str := by rw [List.map_map]; rfl
    show Dp K _ _ (.list (ts.map fun t => PyData.str t.1))
    rw [e3]
    refine .lst (SqL.of ?_) (DpAll.strs _)
    rw [nw_none (Same.free s1 hp)]
    exact upd_same
theorem scBWords : FnScope ["self"] ["self"] (defScope sBWords) := ⟨rfl, rfl, rfl, by decide +kernel, rfl, by decide +kernel, by decide +kernel⟩
theorem ok_bwords {f : Addr} {fd : FuncData} (F : Fun K "words" "Book.words" sBWords f fd) (T : Txt K mg cL cM cH cR) :
    FnOk P w K mg base CX0 1 f fd ["self"] (spAsk0 K cM cR wordsD) := by
  refine F.ok scBWords (fun vs H Q E h => ?_) (fun cdv A outer s H vs Q E hr h => ?_)
  · obtain ⟨b, rb, ts, rfl, _⟩ := h
    rfl
  · obtain ⟨b, rb, ts, rfl, B, ok, k⟩ := h
    obtain ⟨dx, fs, r, d1, d2, d3, hb, hf, bb⟩ := B.ex
    obtain ⟨kv3, h1, h2⟩ := bb.st_
    refine ⟨_, (pss_one (ps_ret (pe_callB (cr_sortKS rfl) (by rfl) T.sorted (by decide +kernel) (pa_cons (pe_keys (pe_fld (pv 0) rfl)) pa_nil)))), ?_⟩
    refine ⟨_, rfl, b, cM, dx, _, _, rfl, hb, T.mC, T.m4, hf.f4, d3, kv3, rfl, .inl h1, fun v hv => ?_⟩
    have s1 := same_upd (o := keysO v d3) hv
    refine ⟨v, d3, kv3, (standsOf rb ts).map (·.1), rfl, upd_same, .inl (s1 _ _ h1), ?_, fun p hp => ?_⟩
    · rw [h2.keys]
      unfold stM
      simp only [List.map_map]
      rfl
    · refine k _ _ (Same.trans s1 (same_upd hp)) ?_
      unfold wordsD
      refine .lst (SqL.of ?_) (DpAll.strs _)
      rw [nw_none (Same.free s1 hp)]
      exact upd_same
theorem scBTotal : FnScope ["self"] ["self"] (defScope sBTotal) := ⟨rfl, rfl, rfl, by decide +kernel, rfl, by decide +kernel, by decide +kernel⟩
theorem ok_btotal {f : Addr} {fd : FuncData} (F : Fun K "total" "Book.total" sBTotal f fd) (T : Txt K mg cL cM cH cR) :
    FnOk P w K mg base CX0 1 f fd ["self"] (spAsk0 K cM cR fun _ ts => .int (totalI ts)) := by
  refine F.ok scBTotal (fun vs H Q E h => ?_) (fun cdv A outer s H vs Q E hr h => ?_)
  · obtain ⟨b, rb, ts, rfl, _⟩ := h
    rfl
  · obtain ⟨b, rb, ts, rfl, B, ok, k⟩ := h
    obtain ⟨dx, fs, r, d1, d2, d3, hb, hf, bb⟩ := B.ex
    refine ⟨_, (pss_one (ps_ret (pe_callB (cr_sumV rfl) (by rfl) T.sum (by decide +kernel) (pa_cons (pe_vals (pe_fld (pv 0) rfl)) pa_nil)))), ?_⟩
    refine ⟨_, rfl, b, cM, dx, _, _, rfl, hb, T.mC, T.m3, hf.f3, d2, _, rfl, .inl bb.ln_, fun v hv => ?_⟩
    have s1 := same_upd (o := valsO v d2) hv
    refine ⟨v, d2, _, ts.map fun t => lenOf t.2, rfl, upd_same, .inl (s1 _ _ bb.ln_), ?_, k _ _ s1 (.int _)⟩
    unfold lnK
    simp only [List.map_map]
    rfl
theorem scBBegun : FnScope ["self", "start", "word"] ["self", "start"] (defScope sBBegun) := ⟨rfl, rfl, rfl, by decide +kernel, rfl, by decide +kernel, by decide +kernel⟩
def spBegun (K : PySem.W.Frag) (cM cR : Addr) : Sp := fun vs H Q _ => ∃ (b : Addr) (rb : Rb) (ts : List Tx) (start : Str), vs = [.ref b, .str start] ∧ BookAt K cM cR H b rb ts ∧ rb.Ok ∧ (standsOf rb ts).length ≤ 1000000 ∧ ∀ H' v, Same H H' → Dp K (nw H H') v (begunD rb ts start) → Q v H'
theorem ok_bbegun {f : Addr} {fd : FuncData} (F0 : Fun K "begun" "Book.begun" sBBegun f fd) (T : Txt K mg cL cM cH cR) (mWords : Mth P w K mg base cM 1 "words" ["self"] (spAsk0 K cM cR wordsD)) :
    FnOk P w K mg base CX0 2 f fd ["self", "start"] (spBegun K cM cR) := by
  refine F0.ok scBBegun (fun vs H Q E h => ?_) (fun cdv A outer s H vs Q E hr h => ?_)
  · obtain ⟨b, rb, ts, start, rfl, _⟩ := h
    rfl
  · obtain ⟨b, rb, ts, start, rfl, B, ok, hl, k⟩ := h
    have nd := scBBegun.nd
    obtain ⟨dx, fs, r, d1, d2, d3, hb, hf, bb⟩ := B.ex
    refine ⟨_, (pss_one (ps_ret (pe_lc (own := [("word", 2)]) (g := gName 2) (tt := _) rfl nd (pi_list (pe_mth0 (pv 0) T.mC mWords hr)) (blkOk_by (own := [("word", 2)]) (N := ["self", "start", "word"]) (sc := (defScope sBBegun)) (by decide +kernel)) (fun _ _ _ _ _ => (pg_name (i := 2) nd rfl (.inl rfl))) (fun _ _ _ _ _ => pts_one (pt_val (pe_m1 F.slot_str_startswith F.type_str_startswith mt_startswith (pv 2) (pv 1)))) (fun _ _ _ _ _ => (pv 2))))), ?_⟩
    refine ⟨_, rfl, b, dx, _, rfl, hb, hf.no _ (by decide +kernel) (by decide +kernel) (by decide +kernel) (by decide +kernel) (by decide +kernel), b, rb, ts, rfl, B, ok, fun H1 v s1 D1 => ?_⟩
    obtain ⟨a1, xs, rfl, q1, t1⟩ := dp_list D1
    have e1 := t1.strs_of
    subst e1
    refine ⟨a1, rfl, ⟨_, Same.seq nw_sub q1⟩, fun D hD => lc_list (K := K) (a := a1) (xs := (wordsL rb ts).map V.str) (fun i H' => Same H1 H' ∧ H' D = some (.lst ((((wordsL rb ts).take i).filter fun z => Txt.startswith z start).map V.str)))
      ⟨same_upd hD, upd_same⟩ (fun i H' _ q => Same.seq q.1 (Same.seq nw_sub q1)) ?_ ?_⟩
    · rintro i x H' hx ⟨s2, hDL⟩
      rw [List.getElem?_map] at hx
      obtain ⟨z, hz1, rfl⟩ : ∃ z, (wordsL rb ts)[i]? = some z ∧ x = V.str z := by
        cases e : (wordsL rb ts)[i]? with
        | none => rw [e] at hx; cases hx
        | some z => rw [e] at hx; exact ⟨z, rfl, (Option.some.inj hx).symm⟩
      have e1 : (wordsL rb ts).take (i + 1) = (wordsL rb ts).take i ++ [z] := by
        obtain ⟨hi, e⟩ := List.getElem?_eq_some_iff.mp hz1
        rw [List.take_succ_eq_append_getElem hi, e]
      have hlw : (wordsL rb ts).length ≤ 1000000 := by unfold wordsL; rw [(ssort_perm _).length_eq, List.length_map]; exact hl
      refine ⟨rfl, ?_⟩
      refine ⟨_, rfl, ⟨_, rfl⟩, _, rfl, z, start, rfl, rfl, _, rfl, ?_⟩
      by_cases hs : Txt.startswith z start = true
      · refine ifbT hs ?_
        refine ⟨_, rfl, _, hDL, ?_, same_wr s2 hD, ?_⟩
        · rw [List.length_map]
          have h1 := List.length_filter_le (fun z => Txt.startswith z start) ((wordsL rb ts).take i)
          rw [List.length_take] at h1
          exact small_sz (by omega)
        · rw [upd_same, e1, List.filter_append, List.map_append]
          simp [hs]
      · refine ifbF (by simpa using hs) ⟨s2, ?_⟩
        rw [hDL, e1, List.filter_append]
        simp [hs]
    · rintro H2 ⟨s2, hDL⟩
      rw [show ((wordsL rb ts).map V.str).length = (wordsL rb ts).length by simp, List.take_length] at hDL
      refine k _ _ (Same.trans s1 s2) (.lst (SqL.of ?_) (DpAll.strs _))
      rw [nw_none (Same.free s1 hD)]
      exact hDL
end
end KR
set_option maxHeartbeats 4000000
namespace KR
open PySem PySem.Spec PyProof.Rows L2
def spWant (K : PySem.W.Frag) (cM cR : Addr) : Sp := fun vs H Q _ => ∃ (b : Addr) (rb : Rb) (ts : List Tx) (t : Tx), vs = [.ref b, .str t.1] ∧ BookAt K cM cR H b rb ts ∧ t ∈ ts ∧ Q .non H
/-- a method of a name -/
def spAsk1 (K : PySem.W.Frag) (cM cR : Addr) (D : Rb → Tx → PyData) : Sp := fun vs H Q _ => ∃ (G : Hp) (b : Addr) (rb : Rb) (ts : List Tx) (t : Tx), vs = [.ref b, .str t.1] ∧ Same G H ∧ BookAt K cM cR G b rb ts ∧ rb.Ok ∧ t ∈ ts ∧ (ts.map (·.1)).Nodup ∧ 
  ∀ v, Dp K G v (D rb t) → Q v H
theorem nat_ints {K : PySem.W.Frag} {H : Hp} : ∀ ns : List Nat, DpAll K H (ns.map fun n : Nat => V.int (n : Int)) (ns.map fun n : Nat => PyData.int (n : Int))
  | [] => .nil
  | n :: ns => .cons (.int _) (nat_ints ns)
theorem dp_nats {K : PySem.W.Frag} {H : Hp} : ∀ {ns : List Nat} {vs : List V}, DpAll K H vs (ns.map fun n : Nat => PyData.int (n : Int)) → vs = ns.map fun n : Nat => V.int (n : Int)
  | [], _, .nil => rfl
  | _ :: _, _, .cons (.int _) t => by rw [dp_nats t]; rfl
theorem dp_row {K : PySem.W.Frag} {H : Hp} {v : V} {r : Row} (h : Dp K H v (rowD r)) : ∃ a l, v = .ref a ∧ SqT K H a [.str r.1, .int r.2.1, .ref l] ∧ SqL K H l (r.2.2.map fun n : Nat => V.int (n : Int)) := by
  obtain ⟨a, xs, e, q, t⟩ := dp_tup h
  cases t with
  | cons t1 t =>
    cases t with
    | cons t2 t =>
      cases t with
      | cons t3 t =>
        cases t
        cases t1
        cases t2
        obtain ⟨l, ys, rfl, h1, h2⟩ := dp_list t3
        rw [dp_nats h2] at h1
        exact ⟨a, l, e, q, h1⟩
theorem aget_at {α : Type} {m : List (Str × α)} (h : (m.map (·.1)).Nodup) {t : Str × α} (ht : t ∈ m) : aget m t.1 = some t.2 := by
  induction m with
  | nil => cases ht
  | cons p m ih =>
    rw [List.map_cons] at h
    obtain ⟨h1, h2⟩ := List.nodup_cons.mp h
    rcases List.mem_cons.mp ht with e | ht
    · subst e; simp [aget, List.find?_cons]
    · have ne : ¬ p.1 = t.1 := fun q => h1 (q ▸ List.mem_map.mpr ⟨t, ht, rfl⟩)
      have e2 : aget (p :: m) t.1 = aget m t.1 := by simp [aget, List.find?_cons, ne]
      rw [e2]; exact ih h2 ht
section
variable {P : Program} {w : World} {K : PySem.W.Frag} {mg : Str → Option Value} {base : Heap} {cL cM cH cR cB : Addr}
theorem scBWant : FnScope ["self", "name"] ["self", "name"] (defScope sBWant) := ⟨rfl, rfl, rfl, by decide +kernel, rfl, by decide +kernel, by decide +kernel⟩
theorem ok_want {f : Addr} {fd : FuncData} (F : Fun K "want_text" "Book.want_text" sBWant f fd) (T : Txt K mg cL cM cH cR) :
    FnOk P w K mg base CX0 1 f fd ["self", "name"] (spWant K cM cR) := by
  refine F.ok scBWant (fun vs H Q E h => ?_) (fun cdv A outer s H vs Q E hr h => ?_)
  · obtain ⟨b, rb, ts, t, rfl, _⟩ := h
    rfl
  · obtain ⟨b, rb, ts, t, rfl, B, ht, k⟩ := h
    have hu := hu_of hr
    obtain ⟨dx, fs, r, d1, d2, d3, hb, hf, bb⟩ := B.ex
    obtain ⟨kv1, h1, h2⟩ := bb.tx_
    refine ⟨_, (pss_one (ps_if (PW.pt (pw_or (pt_not (pt_val (pe_callB RZ.call_isTy (by rfl) T.isinstance (by decide +kernel) (pa_cons (pv 1) (pa_cons (pe_bltn (v := .ty "str") (by rfl) T.str (by decide +kernel) rfl) pa_nil))))) (pw_or1 (pt_cmp (pc_dnotin hu (pv 1) (pe_fld (pv 0) rfl)))))) (pss_one ps_never) pss_nil)), ?_⟩
    refine ⟨_, rfl, _, "str", rfl, .str _, _, rfl, ?_⟩
    refine iteF ?_
    refine ⟨_, rfl, _, rfl, b, cM, dx, _, _, rfl, hb, T.mC, T.m2, hf.f2, d1, _, rfl, DGet.k (k := Sum.inr t.1) h1, _, rfl, ?_⟩
    rcases h2.val t.1 with ⟨_, g2⟩ | ⟨v1, dt, g1, g2, g3⟩
    · rw [aget_map] at g2
      obtain ⟨y, y1, _⟩ := aget_some (List.mem_map.mpr ⟨t, ht, rfl⟩ : t.1 ∈ ts.map (·.1))
      rw [y1] at g2; cases g2
    · refine ifbF (by rw [g1]; rfl) k
theorem scBLength : FnScope ["self", "name"] ["self", "name"] (defScope sBLength) := ⟨rfl, rfl, rfl, by decide +kernel, rfl, by decide +kernel, by decide +kernel⟩
theorem ok_blength {f : Addr} {fd : FuncData} (F : Fun K "length" "Book.length" sBLength f fd) (T : Txt K mg cL cM cH cR) (mWant : Mth P w K mg base cM 1 "want_text" ["self", "name"] (spWant K cM cR)) :
    FnOk P w K mg base CX0 2 f fd ["self", "name"] (spAsk1 K cM cR fun _ t => .int (lenOf t.2)) := by
  refine F.ok scBLength (fun vs H Q E h => ?_) (fun cdv A outer s H vs Q E hr h => ?_)
  · obtain ⟨G, b, rb, ts, t, rfl, _⟩ := h
    rfl
  · obtain ⟨G, b, rb, ts, t, rfl, sg, B, ok, ht, hnd, k⟩ := h
    have hu := hu_of hr
    obtain ⟨dx, fs, r, d1, d2, d3, hb, hf, bb⟩ := (B.mono sg).ex
    have no : fs.lookup ("want_text" : Str) = none := hf.no _ (by decide +kernel) (by decide +kernel) (by decide +kernel) (by decide +kernel) (by decide +kernel)
    refine ⟨_, (pss_cons (ps_expr (pe_mth (pv 0) T.mC mWant hr (pa_cons (pv 1) pa_nil)))
      (pss_one (ps_ret (pe_dget hu (pe_fld (pv 0) rfl) (pv 1) (fun _ _ => rfl))))), ?_⟩
    refine ⟨_, rfl, b, dx, _, rfl, hb, no, _, rfl, b, rb, ts, t, rfl, B.mono sg, ht, ?_⟩
    refine ⟨_, rfl, b, cM, dx, _, _, rfl, hb, T.mC, T.m3, hf.f3, _, rfl, d2, .int (lenOf t.2), rfl, ?_, k _ (.int _)⟩
    have e1 : valV (lnK (ts.map fun t => (t.1, lenOf t.2))) (.inr t.1) = some (.int (lenOf t.2)) := by
      have D : DkAll K H (lnK (ts.map fun t => (t.1, lenOf t.2))) ((ts.map fun t => (t.1, lenOf t.2)).map fun p => (p.1, .int p.2)) := by
        generalize (ts.map fun t => (t.1, lenOf t.2)) = l
        unfold DkAll lnK
        induction l with
        | nil => exact .nil
        | cons x l ih => exact .cons ⟨rfl, .int _⟩ ih
      have e2 : aget ((ts.map fun t => (t.1, lenOf t.2)).map fun p => (p.1, PyData.int p.2)) t.1 = some (.int (lenOf t.2)) := by
        rw [aget_map PyData.int, aget_map lenOf, aget_at hnd ht]; rfl
      rcases D.val t.1 with ⟨_, g2⟩ | ⟨v1, dt, g1, g2, g3⟩
      · rw [e2] at g2; cases g2
      · rw [e2] at g2
        cases g2
        cases g3
        exact g1
    have := DGet.k (k := Sum.inr t.1) bb.ln_
    rw [e1] at this
    exact this
theorem scBParts : FnScope ["self", "name"] ["self", "name"] (defScope sBParts) := ⟨rfl, rfl, rfl, by decide +kernel, rfl, by decide +kernel, by decide +kernel⟩
theorem ok_bparts {f : Addr} {fd : FuncData} (F : Fun K "parts" "Book.parts" sBParts f fd) (T : Txt K mg cL cM cH cR) (mWant : Mth P w K mg base cM 1 "want_text" ["self", "name"] (spWant K cM cR)) :
    FnOk P w K mg base CX0 2 f fd ["self", "name"] (spAsk1 K cM cR fun _ t => partsD t.2) := by
  refine F.ok scBParts (fun vs H Q E h => ?_) (fun cdv A outer s H vs Q E hr h => ?_)
  · obtain ⟨G, b, rb, ts, t, rfl, _⟩ := h
    rfl
  · obtain ⟨G, b, rb, ts, t, rfl, sg, B, ok, ht, hnd, k⟩ := h
    have hu := hu_of hr
    obtain ⟨dx, fs, r, d1, d2, d3, hb, hf, bb⟩ := B.ex
    obtain ⟨kv1, h1, h2⟩ := bb.tx_
    have no : fs.lookup ("want_text" : Str) = none := hf.no _ (by decide +kernel) (by decide +kernel) (by decide +kernel) (by decide +kernel) (by decide +kernel)
    refine ⟨_, (pss_cons (ps_expr (pe_mth (pv 0) T.mC mWant hr (pa_cons (pv 1) pa_nil)))
      (pss_one (ps_ret (pe_dget hu (pe_fld (pv 0) rfl) (pv 1) (fun _ _ => rfl))))), ?_⟩
    rcases h2.val t.1 with ⟨_, g2⟩ | ⟨v1, dt, g1, g2, g3⟩
    · rw [aget_map, aget_at hnd ht] at g2; cases g2
    · rw [aget_map, aget_at hnd ht] at g2
      have e3 := Option.some.inj g2
      subst e3
      refine ⟨_, rfl, b, dx, _, rfl, sg _ _ hb, no, _, rfl, b, rb, ts, t, rfl, B.mono sg, ht, ?_⟩
      refine ⟨_, rfl, b, cM, dx, _, _, rfl, sg _ _ hb, T.mC, T.m2, hf.f2, _, rfl, d1, v1, rfl, ?_, k _ g3⟩
      have := DGet.k (k := Sum.inr t.1) (sg _ _ h1)
      rw [g1] at this
      exact this
/-- words_in -/
def spWin (K : PySem.W.Frag) (cM cR : Addr) : Sp := fun vs H Q _ => ∃ (b : Addr) (rb : Rb) (ts : List Tx) (t : Tx) (i : Nat) (z : Str), vs = [.ref b, .str t.1, .int (i : Nat)] ∧ BookAt K cM cR H b rb ts ∧ rb.Ok ∧ t ∈ ts ∧ (ts.map (·.1)).Nodup ∧ t.2[i]? = some z ∧ z.length ≤ 1000 ∧
  ∀ H' v, Same H H' → Dp K (nw H H') v (wordsData rb z) → Q v H'
theorem scBWin : FnScope ["self", "name", "part"] ["self", "name", "part"] (defScope sBWin) := ⟨rfl, rfl, rfl, by decide +kernel, rfl, by decide +kernel, by decide +kernel⟩
theorem ok_bwin {f : Addr} {fd : FuncData} (F : Fun K "words_in" "Book.words_in" sBWin f fd) (T : Txt K mg cL cM cH cR) (mWant : Mth P w K mg base cM 1 "want_text" ["self", "name"] (spWant K cM cR))
    (cWords : Cal P w K mg base 2 "words_of" ["rulebook", "text"] (spWords K cR)) :
    FnOk P w K mg base CX0 3 f fd ["self", "name", "part"] (spWin K cM cR) := by
  refine F.ok scBWin (fun vs H Q E h => ?_) (fun cdv A outer s H vs Q E hr h => ?_)
  · obtain ⟨b, rb, ts, t, i, z, rfl, _⟩ := h
    rfl
  · obtain ⟨b, rb, ts, t, i, z, rfl, B, ok, ht, hnd, hz, hzl, k⟩ := h
    have hu := hu_of hr
    obtain ⟨dx, fs, r, d1, d2, d3, hb, hf, bb⟩ := B.ex
    obtain ⟨kv1, h1, h2⟩ := bb.tx_
    have no : fs.lookup ("want_text" : Str) = none := hf.no _ (by decide +kernel) (by decide +kernel) (by decide +kernel) (by decide +kernel) (by decide +kernel)
    refine ⟨_, (pss_cons (ps_expr (pe_mth (pv 0) T.mC mWant (hr.mono (by decide)) (pa_cons (pv 1) pa_nil)))
      (pss_one (ps_ret (pe_cal cWords hr (pa_cons (pe_fld (pv 0) rfl) (pa_cons (pe_ix ix_tup (pe_dget hu (pe_fld (pv 0) rfl) (pv 1) (fun _ _ => rfl)) (pv 2) (fun _ _ => rfl)) pa_nil)))))), ?_⟩
    rcases h2.val t.1 with ⟨_, g2⟩ | ⟨v1, dt, g1, g2, g3⟩
    · rw [aget_map, aget_at hnd ht] at g2; cases g2
    · rw [aget_map, aget_at hnd ht] at g2
      have e3 := Option.some.inj g2
      subst e3
      obtain ⟨ta, ys, rfl, gq, gt⟩ := dp_tup g3
      have e4 := gt.strs_of
      subst e4
      refine ⟨_, rfl, b, dx, _, rfl, hb, no, _, rfl, b, rb, ts, t, rfl, B, ht, ?_⟩
      refine ⟨_, rfl, b, cM, dx, _, _, rfl, hb, T.mC, T.m1, hf.f1, ?_⟩
      refine ⟨_, rfl, b, cM, dx, _, _, rfl, hb, T.mC, T.m2, hf.f2, _, rfl, d1, .ref ta, rfl, ?_, ?_⟩
      · have := DGet.k (k := Sum.inr t.1) h1
        rw [g1] at this
        exact this
      · refine ⟨_, rfl, ta, _, _, _, rfl, rfl, gq, atI_nat (by rw [List.getElem?_map, hz]; rfl), r, rb, z, rfl, bb.rbk, ok, hzl, k⟩
theorem scBWhere : FnScope ["self", "word", "name", "part", "places"] ["self", "word"] (defScope sBWhere) := ⟨rfl, rfl, rfl, by decide +kernel, rfl, by decide +kernel, by decide +kernel⟩
def whereL (rb : Rb) (ts : List Tx) (z : Str) : List Row := (aget (standsOf rb ts) z).getD []
def whereD (rb : Rb) (ts : List Tx) (z : Str) : PyData := .list ((whereL rb ts z).map rowD)
def spWhere (K : PySem.W.Frag) (cM cR : Addr) : Sp := fun vs H Q _ => ∃ (b : Addr) (rb : Rb) (ts : List Tx) (z : Str), vs = [.ref b, .str z] ∧ BookAt K cM cR H b rb ts ∧ (whereL rb ts z).length ≤ 1000000 ∧ ∀ H' v, Same H H' → Dp K (nw H H') v (whereD rb ts z) → Q v H'
theorem call_listK {X : Cx} (K : PySem.W.Frag) (h : X.K = K := by rfl) : CallR X (.type "list") (fun xs H Q => ∃ (p : Addr) (ys : List V), xs = [.ref p] ∧ SqL K H p ys ∧ ∀ l, H l = none → Q (.ref l) (upd H l (.lst ys))) := by
  subst h
  intro pins s σ H xs us Q I r q
  obtain ⟨p, ys, ex, hq, k⟩ := q
  exact call_list_of pins s σ H xs us Q I r ⟨p, ys, ex, .inl hq, k⟩
theorem ok_bwhere {f : Addr} {fd : FuncData} (F : Fun K "where" "Book.where" sBWhere f fd) (T : Txt K mg cL cM cH cR) :
    FnOk P w K mg base CX0 1 f fd ["self", "word"] (spWhere K cM cR) := by
  refine F.ok scBWhere (fun vs H Q E h => ?_) (fun cdv A outer s H vs Q E hr h => ?_)
  · obtain ⟨b, rb, ts, z, rfl, _⟩ := h
    rfl
  · obtain ⟨b, rb, ts, z, rfl, B, hl, k⟩ := h
    have hu := hu_of hr
    have nd := scBWhere.nd
    obtain ⟨dx, fs, r, d1, d2, d3, hb, hf, bb⟩ := B.ex
    obtain ⟨kv3, h1, h2⟩ := bb.st_
    refine ⟨_, (pss_one (ps_ret (pe_lc (own := [("name", 2), ("part", 3), ("places", 4)]) (g := gTup K 3 (gCons (gName 2) (gCons (gName 3) (gCons (gName 4) gNil)))) (tt := tYes) rfl nd (pi_list (pe_dget2 hu (pe_fld (pv 0) rfl) (pv 1) (pe_lst pa_nil) ⟨rfl, rfl, rfl, rfl⟩)) (blkOk_by (own := [("name", 2), ("part", 3), ("places", 4)]) (N := ["self", "word", "name", "part", "places"]) (sc := (defScope sBWhere)) (by decide +kernel)) (fun _ _ _ _ _ => (pg_tupK K 3 (pgs_cons (pg_name (i := 2) nd rfl (.inl rfl)) (pgs_cons (pg_name (i := 3) nd rfl (.inl rfl)) (pgs_cons (pg_name (i := 4) nd rfl (.inl rfl)) pgs_nil))))) (fun _ _ _ _ _ => pts_nil) (fun _ _ _ _ _ => (pe_tup (pa_cons (pv 2) (pa_cons (pv 3) (pa_cons (pe_callTy (call_listK K) (by rfl) T.list (by decide +kernel) (pa_cons (pv 4) pa_nil)) pa_nil)))))))), ?_⟩
    refine ⟨_, rfl, b, cM, dx, _, _, rfl, hb, T.mC, T.m4, hf.f4, d3, rfl, .inl ⟨_, .inl h1⟩, _, rfl, Nat.zero_le _, fun q hq => ?_⟩
    have s1 := same_upd (o := .lst []) hq
    obtain ⟨o, ho, a, xs, ea, qa, da⟩ : ∃ o, DGet (upd H q (.lst [])) d3 (.str z) o ∧ ∃ a xs, o.getD (.ref q) = .ref a ∧ SqL K (upd H q (.lst [])) a xs ∧ DpAll K (upd H q (.lst [])) xs ((whereL rb ts z).map rowD) := by
      have g := DGet.k (k := Sum.inr z) (s1 _ _ h1)
      refine ⟨_, g, ?_⟩
      have e0 : aget ((stM (standsOf rb ts)).map fun p => (p.1, PyData.list p.2)) z = (aget (standsOf rb ts) z).map fun l => .list (l.map rowD) := by
        have e1 : ((stM (standsOf rb ts)).map fun p => (p.1, PyData.list p.2)) = (standsOf rb ts).map fun p => (p.1, (fun l : List Row => PyData.list (l.map rowD)) p.2) := by
          unfold stM; rw [List.map_map]; rfl
        rw [e1]
        exact aget_map (fun l : List Row => PyData.list (l.map rowD)) _ _
      rcases h2.val z with ⟨g1, g2⟩ | ⟨v, d, g1, g2, g3⟩
      · rw [g1]
        refine ⟨q, [], rfl, SqL.of upd_same, ?_⟩
        rw [e0] at g2
        unfold whereL
        cases e2 : aget (standsOf rb ts) z with
        | some l => rw [e2] at g2; cases g2
        | none => exact .nil
      · rw [g1]
        rw [e0] at g2
        cases e2 : aget (standsOf rb ts) z with
        | none => rw [e2] at g2; cases g2
        | some l =>
          rw [e2] at g2
          cases g2
          obtain ⟨a, xs, rfl, h3, h4⟩ := dp_list g3
          refine ⟨a, xs, rfl, Same.seq s1 h3, ?_⟩
          unfold whereL
          rw [e2]
          exact DpAll.mono s1 h4
    refine ⟨o, ho, ?_⟩
    rw [ea]
    refine ⟨a, rfl, ⟨_, qa⟩, fun D hD => lc_list (K := K) (a := a) (xs := xs) (fun i H' => Same (upd H q (.lst [])) H' ∧ Acc K H H' D (((whereL rb ts z).take i).map rowD))
      ⟨same_upd hD, Acc.start' s1 hD⟩ (fun i H' _ q => Same.seq q.1 qa) ?_ ?_⟩
    · rintro i x H' hx ⟨s2, A⟩
      obtain ⟨rw1, er, dr⟩ := dpall_map da hx
      obtain ⟨ar, lr, rfl, hq1, hq2⟩ := dp_row dr
      refine ⟨ar, _, rfl, Same.tup s2 hq1, rfl, _, _, rfl, _, _, rfl, _, _, rfl, rfl, rfl, ?_⟩
      refine ⟨_, rfl, _, rfl, _, rfl, lr, _, rfl, Same.seq s2 hq2, fun l hl => ?_⟩
      have A1 := A.grow (same_upd (o := .lst (rw1.2.2.map fun n : Nat => V.int (n : Int))) hl)
      obtain ⟨acc, hacc, hdat⟩ := A.ex
      refine ⟨by show 3 ≤ sizeLine; decide, fun p hp => ?_⟩
      have hacc1 := same_upd (o := .lst (rw1.2.2.map fun n : Nat => V.int (n : Int))) hl _ _ hacc
      have A2 := A1.grow (same_upd (o := .tup [.str rw1.1, .int rw1.2.1, .ref l]) hp)
      have hacc2 := same_upd (o := .tup [.str rw1.1, .int rw1.2.1, .ref l]) hp _ _ hacc1
      have hlen := A2.len hacc2
      rw [List.length_map, List.length_take] at hlen
      refine ⟨acc, hacc2, small_sz (by omega), ?_, ?_⟩
      · refine same_wr (Same.trans s2 (Same.trans (same_upd hl) (same_upd hp))) ?_
        exact hD
      · have e1 : (whereL rb ts z).take (i + 1) = (whereL rb ts z).take i ++ [rw1] := by
          obtain ⟨hi, e⟩ := List.getElem?_eq_some_iff.mp er
          rw [List.take_succ_eq_append_getElem hi, e]
        rw [e1, List.map_append]
        refine A2.push hacc2 (Dp.newTupD A1.same hp hacc1 (.cons (.str _) (.cons (.int _) (.cons ?_ .nil))))
        have := Dp.newLstD (K := K) (ds := rw1.2.2.map fun n : Nat => PyData.int (n : Int)) A.same hl hacc (vs := rw1.2.2.map fun n : Nat => V.int (n : Int)) (nat_ints _)
        exact this
    · rintro H2 ⟨s2, A⟩
      have e1 : xs.length = (whereL rb ts z).length := by rw [da.length, List.length_map]
      rw [e1, List.take_length] at A
      exact k _ _ A.same A.done
end
end KR
set_option maxHeartbeats 4000000
namespace KR
open PySem PySem.Spec PyProof.Rows L2
/-! ## association lists with one value a key -/
section
variable {α β : Type}
def putA (m : List (Str × α)) (k : Str) (x : α) : List (Str × α) := if (m.any fun p => decide (p.1 = k)) = true then m.map (fun p => if p.1 = k then (p.1, x) else p) else m ++ [(k, x)]
def dropA (m : List (Str × α)) (k : Str) : List (Str × α) := m.filter fun p => decide (p.1 ≠ k)
theorem any_aget (m : List (Str × α)) (k : Str) : (m.any fun p => decide (p.1 = k)) = (aget m k).isSome := by
  induction m with
  | nil => rfl
  | cons p m ih =>
    by_cases e : p.1 = k
    · simp [aget, List.find?_cons, e]
    · have e2 : aget (p :: m) k = aget m k := by simp [aget, List.find?_cons, e]
      rw [e2, ← ih]; simp [e]
theorem aget_cons (p : Str × α) (m : List (Str × α)) (k : Str) : aget (p :: m) k = if p.1 = k then some p.2 else aget m k := by
  by_cases e : p.1 = k
  · simp [aget, List.find?_cons, e]
  · simp [aget, List.find?_cons, e]
theorem aget_putA (m : List (Str × α)) (k j : Str) (x : α) : aget (putA m k x) j = if j = k then some x else aget m j := by
  unfold putA
  rw [any_aget]
  by_cases h : (aget m k).isSome = true
  · rw [if_pos h]
    induction m with
    | nil => simp [aget] at h
    | cons p m ih =>
      rw [List.map_cons, aget_cons, aget_cons]
      rw [aget_cons] at h
      by_cases e : p.1 = k
      · rw [if_pos e]
        by_cases ej : j = k
        · rw [if_pos ej, if_pos (e.trans ej.symm)]
        · rw [if_neg ej, if_neg (fun q => ej (q.symm.trans e)), if_neg (fun q => ej (q.symm.trans e))]
          -- behind it
          have key : ∀ l : List (Str × α), aget (l.map fun p => if p.1 = k then (p.1, x) else p) j = aget l j := by
            intro l
            induction l with
            | nil => rfl
            | cons q l ih2 =>
              rw [List.map_cons, aget_cons, aget_cons, ih2]
              by_cases eq : q.1 = k
              · rw [if_pos eq]
                rw [if_neg (fun z : q.1 = j => ej (z.symm.trans eq)), if_neg (fun z : q.1 = j => ej (z.symm.trans eq))]
              · rw [if_neg eq]
          exact key m
      · rw [if_neg e] at h ⊢
        rw [ih h]
        by_cases ej : j = k
        · rw [if_pos ej, if_pos ej, if_neg (fun z : p.1 = j => e (z.trans ej))]
        · rw [if_neg ej, if_neg ej]
  · rw [if_neg h]
    have hn : aget m k = none := by simpa using h
    induction m with
    | nil => rw [List.nil_append, aget_cons]; by_cases ej : j = k
             · rw [if_pos ej.symm, if_pos ej]
             · rw [if_neg (fun z => ej z.symm), if_neg ej]
    | cons p m ih =>
      rw [aget_cons] at hn h
      by_cases e : p.1 = k
      · rw [if_pos e] at hn; cases hn
      · rw [if_neg e] at hn h
        rw [List.cons_append, aget_cons, aget_cons, ih h hn]
        by_cases ej : j = k
        · rw [if_pos ej, if_pos ej, if_neg (fun z : p.1 = j => e (z.trans ej))]
        · rw [if_neg ej, if_neg ej]
theorem aget_dropA (m : List (Str × α)) (k j : Str) : aget (dropA m k) j = if j = k then none else aget m j := by
  unfold dropA
  induction m with
  | nil => simp [aget]
  | cons p m ih =>
    rw [List.filter_cons]
    by_cases e : p.1 = k
    · rw [if_neg (by simp [e]), ih, aget_cons]
      by_cases ej : j = k
      · rw [if_pos ej, if_pos ej]
      · rw [if_neg ej, if_neg ej, if_neg (fun z : p.1 = j => ej (z.symm.trans e))]
    · rw [if_pos (by simp [e]), aget_cons, aget_cons, ih]
      by_cases ej : j = k
      · rw [if_pos ej, if_pos ej, if_neg (fun z : p.1 = j => e (z.trans ej))]
      · rw [if_neg ej, if_neg ej]
theorem putA_len (m : List (Str × α)) (k : Str) (x : α) : (putA m k x).length ≤ m.length + 1 := by
  unfold putA
  split
  · rw [List.length_map]; exact Nat.le_succ _
  · rw [List.length_append]; exact Nat.le_refl _
theorem dropA_len (m : List (Str × α)) (k : Str) : (dropA m k).length ≤ m.length := List.length_filter_le _ _
theorem putA_keys (m : List (Str × α)) (k : Str) (x : α) : (putA m k x).map (·.1) = if (aget m k).isSome = true then m.map (·.1) else m.map (·.1) ++ [k] := by
  unfold putA
  rw [any_aget]
  split
  · rw [List.map_map]
    refine List.map_congr_left fun p _ => ?_
    show (if p.1 = k then (p.1, x) else p).1 = p.1
    split <;> rfl
  · rw [List.map_append]; rfl
theorem aget_none_iff (m : List (Str × α)) (k : Str) : aget m k = none ↔ k ∉ m.map (·.1) := by
  refine ⟨fun h hm => ?_, fun h => aget_absent fun p hp q => h (List.mem_map.mpr ⟨p, hp, q⟩)⟩
  obtain ⟨x, h1, _⟩ := aget_some hm
  rw [h] at h1; cases h1
theorem putA_nd {m : List (Str × α)} {k : Str} {x : α} (h : (m.map (·.1)).Nodup) : ((putA m k x).map (·.1)).Nodup := by
  rw [putA_keys]
  split
  · exact h
  · rename_i q
    have hn : aget m k = none := by simpa using q
    refine List.nodup_append.mpr ⟨h, by simp, fun a ha b hb => ?_⟩
    have eb : b = k := by simpa using hb
    rw [eb]
    exact fun z => (aget_none_iff m k).mp hn (z ▸ ha)
theorem dropA_nd {m : List (Str × α)} {k : Str} (h : (m.map (·.1)).Nodup) : ((dropA m k).map (·.1)).Nodup := h.sublist ((List.filter_sublist).map _)
theorem putA_map (f : α → β) (m : List (Str × α)) (k : Str) (x : α) : putA (m.map fun t => (t.1, f t.2)) k (f x) = (putA m k x).map fun t => (t.1, f t.2) := by
  unfold putA
  rw [List.any_map]
  show (if (m.any fun p => decide (p.1 = k)) = true then _ else _) = _
  split
  · rw [List.map_map, List.map_map]
    refine List.map_congr_left fun p _ => ?_
    show (if p.1 = k then (p.1, f x) else (p.1, f p.2)) = _
    by_cases e : p.1 = k
    · simp [e]
    · simp [e]
  · rw [List.map_append]; rfl
theorem dropA_map (f : α → β) (m : List (Str × α)) (k : Str) : dropA (m.map fun t => (t.1, f t.2)) k = (dropA m k).map fun t => (t.1, f t.2) := by
  unfold dropA
  rw [List.filter_map]
  rfl
end
theorem valV_map_keys {kvs : List (Key × V)} {m : List (Str × PyData)} {K : PySem.W.Frag} {H : Hp} (h : DkAll K H kvs m) (k : Str) : (kvs.any fun kv => decide (kv.1 = (.inr k : Key))) = (m.any fun p => decide (p.1 = k)) := by
  unfold DkAll at h
  induction h with
  | nil => rfl
  | @cons kv p kvs m q _ ih =>
    rw [List.any_cons, List.any_cons, ih]
    congr 1
    rw [q.1]
    by_cases e : p.1 = k
    · simp [e]
    · simp [e]
theorem DkAll.put {K : PySem.W.Frag} {H : Hp} {kvs : List (Key × V)} {m : List (Str × PyData)} (h : DkAll K H kvs m) (k : Str) {v : V} {d : PyData} (q : Dp K H v d) : DkAll K H (putK kvs (.inr k) v) (putA m k d) := by
  unfold putK putA
  rw [valV_map_keys h k]
  by_cases e : (m.any fun p => decide (p.1 = k)) = true
  · rw [if_pos e, if_pos e]
    unfold DkAll at h ⊢
    clear e
    induction h with
    | nil => exact .nil
    | @cons kv p kvs m r _ ih =>
      rw [List.map_cons, List.map_cons]
      refine .cons ?_ ih
      by_cases ek : p.1 = k
      · rw [if_pos ek, if_pos (by rw [r.1, ek])]; exact ⟨r.1, q⟩
      · rw [if_neg ek, if_neg (by rw [r.1]; exact fun z => ek (Sum.inr.inj z))]; exact r
  · rw [if_neg e, if_neg e]
    exact h.snoc q
theorem DkAll.drop {K : PySem.W.Frag} {H : Hp} {kvs : List (Key × V)} {m : List (Str × PyData)} (h : DkAll K H kvs m) (k : Str) : DkAll K H (dropK kvs (.inr k)) (dropA m k) := by
  unfold dropK dropA
  unfold DkAll at h ⊢
  induction h with
  | nil => exact .nil
  | @cons kv p kvs m r _ ih =>
    rw [List.filter_cons, List.filter_cons]
    by_cases ek : p.1 = k
    · rw [if_neg (by simp [r.1, ek]), if_neg (by simp [ek])]; exact ih
    · rw [if_pos (by rw [r.1]; simp [ek]), if_pos (by simp [ek])]; exact .cons r ih
/-! ## layers: plain functions -/
abbrev Ly := List Tx × List Str
abbrev Mp := Str → Option (List Str)
def ap (m : Mp) (l : Ly) : Mp := fun k => match aget l.1 k with
  | some p => some p
  | none => if k ∈ l.2 then none else m k
def noMp : Mp := fun _ => none
def den (ls : List Ly) : Mp := ls.foldl ap noMp
def lySize (l : Ly) : Nat := l.1.length + l.2.length
def lySizes (ls : List Ly) : Nat := (ls.map lySize).sum
def addS (gs : List Str) (n : Str) : List Str := if n ∈ gs then gs else gs ++ [n]
def remS (gs : List Str) (n : Str) : List Str := gs.filter fun s => decide (s ≠ n)
def pourGone (lo up : Ly) : List Str := up.1.foldl (fun gs t => remS gs t.1) (up.2.foldl addS (lo.2.foldl addS []))
def pourTx (lo up : Ly) : List Tx := up.1.foldl (fun m t => putA m t.1 t.2) (up.2.foldl dropA lo.1)
def pour (lo up : Ly) : Ly := (pourTx lo up, ssort (pourGone lo up))
theorem addS_mem (gs : List Str) (n k : Str) : k ∈ addS gs n ↔ k ∈ gs ∨ k = n := by
  unfold addS
  split
  · rename_i h
    exact ⟨.inl, fun q => q.elim id fun e => e ▸ h⟩
  · simp
theorem addS_all (ns : List Str) : ∀ (gs : List Str) (k : Str), k ∈ ns.foldl addS gs ↔ k ∈ gs ∨ k ∈ ns := by
  induction ns with
  | nil => intro gs k; simp
  | cons n ns ih => intro gs k; rw [List.foldl_cons, ih, addS_mem, List.mem_cons, or_assoc]
theorem remS_mem (gs : List Str) (n k : Str) : k ∈ remS gs n ↔ k ∈ gs ∧ k ≠ n := by
  unfold remS; simp
theorem remS_all (ts : List Tx) : ∀ (gs : List Str) (k : Str), k ∈ ts.foldl (fun gs t => remS gs t.1) gs ↔ k ∈ gs ∧ k ∉ ts.map (·.1) := by
  induction ts with
  | nil => intro gs k; simp
  | cons t ts ih => intro gs k; rw [List.foldl_cons, ih, remS_mem, List.map_cons, List.mem_cons, not_or, and_assoc]
theorem drop_all (ns : List Str) : ∀ (m : List Tx) (k : Str), aget (ns.foldl dropA m) k = if k ∈ ns then none else aget m k := by
  induction ns with
  | nil => intro m k; simp
  | cons n ns ih =>
    intro m k
    rw [List.foldl_cons, ih, aget_dropA]
    by_cases h : k ∈ ns
    · rw [if_pos h, if_pos (List.mem_cons_of_mem _ h)]
    · rw [if_neg h]
      by_cases e : k = n
      · rw [if_pos e, if_pos (e ▸ List.mem_cons_self)]
      · rw [if_neg e, if_neg (fun q => (List.mem_cons.mp q).elim e h)]
theorem put_all (ts : List Tx) : ∀ (m : List Tx) (k : Str), (ts.map (·.1)).Nodup → aget (ts.foldl (fun m t => putA m t.1 t.2) m) k = match aget ts k with | some p => some p | none => aget m k := by
  induction ts with
  | nil => intro m k _; rfl
  | cons t ts ih =>
    intro m k hn
    rw [List.map_cons] at hn
    obtain ⟨h1, h2⟩ := List.nodup_cons.mp hn
    rw [List.foldl_cons, ih _ _ h2, aget_putA, aget_cons]
    by_cases e : t.1 = k
    · rw [if_pos e, if_pos e.symm]
      have : aget ts k = none := (aget_none_iff ts k).mpr (e ▸ h1)
      rw [this]
    · rw [if_neg e, if_neg (fun z => e z.symm)]
theorem put_all_nd (ts : List Tx) : ∀ (m : List Tx), (m.map (·.1)).Nodup → ((ts.foldl (fun m t => putA m t.1 t.2) m).map (·.1)).Nodup := by
  induction ts with
  | nil => intro m h; exact h
  | cons t ts ih => intro m h; exact ih _ (putA_nd h)
theorem drop_all_nd (ns : List Str) : ∀ (m : List Tx), (m.map (·.1)).Nodup → ((ns.foldl dropA m).map (·.1)).Nodup := by
  induction ns with
  | nil => intro m h; exact h
  | cons n ns ih => intro m h; exact ih _ (dropA_nd h)
theorem put_all_len (ts : List Tx) : ∀ (m : List Tx), (ts.foldl (fun m t => putA m t.1 t.2) m).length ≤ m.length + ts.length := by
  induction ts with
  | nil => intro m; exact Nat.le_refl _
  | cons t ts ih =>
    intro m
    have h1 := ih (putA m t.1 t.2)
    have h2 := putA_len m t.1 t.2
    rw [List.foldl_cons, List.length_cons]
    omega
theorem drop_all_len (ns : List Str) : ∀ (m : List Tx), (ns.foldl dropA m).length ≤ m.length := by
  induction ns with
  | nil => intro m; exact Nat.le_refl _
  | cons n ns ih => intro m; exact Nat.le_trans (ih _) (dropA_len m n)
theorem addS_len (ns : List Str) : ∀ gs : List Str, (ns.foldl addS gs).length ≤ gs.length + ns.length := by
  induction ns with
  | nil => intro gs; exact Nat.le_refl _
  | cons n ns ih =>
    intro gs
    have h1 := ih (addS gs n)
    have h2 : (addS gs n).length ≤ gs.length + 1 := by
      unfold addS; split
      · exact Nat.le_succ _
      · rw [List.length_append]; exact Nat.le_refl _
    rw [List.foldl_cons, List.length_cons]
    omega
theorem remS_len (ts : List Tx) : ∀ gs : List Str, (ts.foldl (fun gs t => remS gs t.1) gs).length ≤ gs.length := by
  induction ts with
  | nil => intro gs; exact Nat.le_refl _
  | cons t ts ih => intro gs; exact Nat.le_trans (ih _) (List.length_filter_le _ _)
theorem pour_ap (m : Mp) (lo up : Ly) (hn : (up.1.map (·.1)).Nodup) : ap m (pour lo up) = ap (ap m lo) up := by
  funext k
  unfold ap pour pourTx
  dsimp only
  rw [put_all _ _ _ hn, drop_all]
  have hg : k ∈ ssort (pourGone lo up) ↔ (k ∈ lo.2 ∨ k ∈ up.2) ∧ k ∉ up.1.map (·.1) := by
    rw [(ssort_perm _).mem_iff]
    unfold pourGone
    rw [remS_all, addS_all, addS_all]
    simp
  cases h1 : aget up.1 k with
  | some p => rfl
  | none =>
    have h1' := (aget_none_iff _ _).mp h1
    dsimp only
    by_cases h2 : k ∈ up.2
    · rw [if_pos h2, if_pos h2]
      dsimp only
      rw [if_pos (hg.mpr ⟨.inr h2, h1'⟩)]
    · rw [if_neg h2, if_neg h2]
      cases h3 : aget lo.1 k with
      | some p => rfl
      | none =>
        dsimp only
        by_cases h4 : k ∈ lo.2
        · rw [if_pos h4, if_pos (hg.mpr ⟨.inl h4, h1'⟩)]
        · rw [if_neg h4, if_neg (fun z => (hg.mp z).1.elim h4 h2)]
theorem lowest_ap (l : Ly) : ap noMp (l.1, []) = ap noMp l := by
  funext k
  unfold ap noMp
  dsimp only
  cases aget l.1 k with
  | some p => rfl
  | none => simp
theorem empty_ap (m : Mp) (l : Ly) (h : lySize l = 0) : ap m l = m := by
  obtain ⟨a, b⟩ := l
  unfold lySize at h
  have ha : a = [] := List.length_eq_zero_iff.mp (by dsimp only at h; omega)
  have hb : b = [] := List.length_eq_zero_iff.mp (by dsimp only at h; omega)
  subst ha hb
  funext k
  unfold ap
  simp [aget]
theorem pour_size (lo up : Ly) : lySize (pour lo up) ≤ lySize lo + lySize up := by
  unfold lySize pour pourTx pourGone
  dsimp only
  rw [(ssort_perm _).length_eq]
  have h1 := put_all_len up.1 (up.2.foldl dropA lo.1)
  have h2 := drop_all_len up.2 lo.1
  have h3 := remS_len up.1 (up.2.foldl addS (lo.2.foldl addS []))
  have h4 := addS_len up.2 (lo.2.foldl addS [])
  have h5 := addS_len lo.2 []
  simp only [List.length_nil, Nat.zero_add] at h5
  refine Nat.le_trans (Nat.add_le_add h1 h3) ?_
  omega
theorem pour_nd (lo up : Ly) (h : (lo.1.map (·.1)).Nodup) : ((pour lo up).1.map (·.1)).Nodup := put_all_nd _ _ (drop_all_nd _ _ h)
theorem den_snoc (ls : List Ly) (l : Ly) : den (ls ++ [l]) = ap (den ls) l := by unfold den; rw [List.foldl_append]; rfl
end KR
set_option maxHeartbeats 4000000
namespace KR
open PySem PySem.Spec PyProof.Rows L2
def layF (r d g : Addr) : List (Str × V) := putF "gone_names" (.ref g) (putF "standing" (.ref d) (putF "rules" (.ref r) []))
theorem layF_rules (r d g : Addr) : (layF r d g).lookup ("rules" : Str) = some (.ref r) := by
  unfold layF
  rw [lookup_putF, if_neg (by decide +kernel), lookup_putF, if_neg (by decide +kernel), lookup_putF, if_pos rfl]
theorem layF_standing (r d g : Addr) : (layF r d g).lookup ("standing" : Str) = some (.ref d) := by
  unfold layF
  rw [lookup_putF, if_neg (by decide +kernel), lookup_putF, if_pos rfl]
theorem layF_gone (r d g : Addr) : (layF r d g).lookup ("gone_names" : Str) = some (.ref g) := by
  unfold layF
  rw [lookup_putF, if_pos rfl]
theorem layF_no (r d g : Addr) {m : Str} (h1 : ¬ m = "rules") (h2 : ¬ m = "standing") (h3 : ¬ m = "gone_names") : (layF r d g).lookup m = none := by
  unfold layF
  rw [lookup_putF, if_neg h3, lookup_putF, if_neg h2, lookup_putF, if_neg h1]
  rfl
def txD (tx : List Tx) : List (Str × PyData) := tx.map fun t => (t.1, partsD t.2)
structure LayerAt (K : PySem.W.Frag) (cL : Addr) (H : Hp) (a r : Addr) (ly : Ly) : Prop where
  ex : ∃ dx d g kv, H a = some (.ins cL dx (layF r d g)) ∧ H d = some (.dK kv) ∧ DkAll K H kv (txD ly.1) ∧ H g = some (.lst (ly.2.map V.str))
  nd : (ly.1.map (·.1)).Nodup
theorem LayerAt.mono {K : PySem.W.Frag} {cL : Addr} {H H' : Hp} {a r : Addr} {ly : Ly} (s : Same H H') (L : LayerAt K cL H a r ly) : LayerAt K cL H' a r ly := by
  obtain ⟨dx, d, g, kv, h1, h2, h3, h4⟩ := L.ex
  exact ⟨⟨dx, d, g, kv, s _ _ h1, s _ _ h2, h3.mono s, s _ _ h4⟩, L.nd⟩
/-- in the new part or in Hs -/
theorem in_new {Hs H0 H : Hp} {a : Addr} {o : HO} (ss : Same Hs H0) (h : H0 a = none) (e : H a = some o) : join Hs (nw H0 H) a = some o := by
  refine join_r (fun a o u e1 e2 => ?_) a o (by rw [nw_none h]; exact e)
  rw [nw_at (ss _ _ e1)] at e2; cases e2
def spLInit (K : PySem.W.Frag) (cL : Addr) : Sp := fun vs H Q _ => ∃ (Hs H0 : Hp) (b dx r d g : Addr) (tx : List Tx) (gn : List Str) (kv : List (Key × V)),
  vs = [.ref b, .ref r, .ref d, .ref g] ∧ Same Hs H0 ∧ Same H0 H ∧ H0 b = none ∧ H b = some (.ins cL dx []) ∧ H d = some (.dK kv) ∧ d ≠ b ∧ DkAll K Hs kv (txD tx) ∧ SqL K H g (gn.map V.str) ∧ g ≠ b ∧ (tx.map (·.1)).Nodup ∧
  ∀ (H' : Hp), (∀ a o, H a = some o → a ≠ b → H' a = some o) → LayerAt K cL (join Hs (nw H0 H')) b r (tx, ssort gn) → Q .non H'
/-- the layer's entries, counted -/
def spLNames (K : PySem.W.Frag) (cL : Addr) : Sp := fun vs H Q _ => ∃ (b r : Addr) (ly : Ly), vs = [.ref b] ∧ LayerAt K cL H b r ly ∧ lySize ly ≤ 100000 ∧ ∀ (H' : Hp) (l : Addr) (xs : List V), Same H H' → H' l = some (.lst xs) → xs.length = lySize ly → Q (.ref l) H'
def spLGone (K : PySem.W.Frag) (cL : Addr) : Sp := fun vs H Q _ => ∃ (b r : Addr) (ly : Ly), vs = [.ref b] ∧ LayerAt K cL H b r ly ∧ ∀ (l : Addr), H l = none → Q (.ref l) (upd H l (.lst (ly.2.map V.str)))
def spLTexts (K : PySem.W.Frag) (cL : Addr) : Sp := fun vs H Q _ => ∃ (G : Hp) (b r : Addr) (ly : Ly), vs = [.ref b] ∧ Same G H ∧ LayerAt K cL G b r ly ∧ ∀ (l : Addr) (kv : List (Key × V)), H l = none → DkAll K G kv (txD ly.1) → Q (.ref l) (upd H l (.dK kv))
section
variable {P : Program} {w : World} {K : PySem.W.Frag} {mg : Str → Option Value} {base : Heap} {cL cM cH cR cB : Addr}
theorem scLInit : FnScope ["self", "rulebook", "texts", "gone"] ["self", "rulebook", "texts", "gone"] (defScope sLInit) := ⟨rfl, rfl, rfl, by decide +kernel, rfl, by decide +kernel, by decide +kernel⟩
theorem ok_linit {f : Addr} {fd : FuncData} (F : Fun K "__init__" "Layer.__init__" sLInit f fd) (T : Txt K mg cL cM cH cR) :
    FnOk P w K mg base CX0 1 f fd ["self", "rulebook", "texts", "gone"] (spLInit K cL) := by
  refine F.ok scLInit (fun vs H Q E h => ?_) (fun cdv A outer s H vs Q E hr h => ?_)
  · obtain ⟨Hs, H0, b, dx, r, d, g, tx, gn, kv, rfl, _⟩ := h
    rfl
  · obtain ⟨Hs, H0, b, dx, r, d, g, tx, gn, kv, rfl, ss, s0, nb, hb, hd, ndb, hk, hg, ngb, hnd, k⟩ := h
    refine ⟨_, (pss_cons (ps_fld (pv 0) (pv 1) rfl)
      (pss_cons (ps_fld (pv 0) (pe_callTy call_dictD (by rfl) T.dict (by decide +kernel) (pa_cons (pv 2) pa_nil)) rfl)
      (pss_one (ps_fld (pv 0) (pe_callB cr_sortS (by rfl) T.sorted (by decide +kernel) (pa_cons (pv 3) pa_nil)) rfl)))), ?_⟩
    refine ⟨_, rfl, _, rfl, b, cL, dx, _, rfl, hb, T.lC, T.l1, (by show 0 < 1000; decide), ?_⟩
    have b1 : (upd H b (.ins cL dx (putF "rules" (.ref r) []))) b = some (.ins cL dx (putF "rules" (.ref r) [])) := upd_same
    have k1 : ∀ a o, H a = some o → a ≠ b → (upd H b (.ins cL dx (putF "rules" (.ref r) []))) a = some o := fun a o e n => by rw [upd_ne n]; exact e
    have z1 : ∀ a, (upd H b (.ins cL dx (putF "rules" (.ref r) []))) a = none → H a = none := fun a e => by
      by_cases q : a = b
      · rw [q, upd_same] at e; cases e
      · rw [upd_ne q] at e; exact e
    generalize upd H b (.ins cL dx (putF "rules" (.ref r) [])) = H1 at b1 k1 z1 ⊢
    refine ⟨_, rfl, d, kv, rfl, .inl (k1 _ _ hd ndb), fun d1 hd1 => ?_⟩
    have n1 : d1 ≠ b := (ne_of_none b1 hd1).symm
    refine ⟨_, rfl, b, cL, dx, _, rfl, by rw [upd_ne n1.symm]; exact b1, T.lC, T.l2, Nat.lt_of_le_of_lt (putF_len _ _ _) (by decide), ?_⟩
    have b2 : (upd (upd H1 d1 (.dK kv)) b (.ins cL dx (putF "standing" (.ref d1) (putF "rules" (.ref r) [])))) b = some (.ins cL dx (putF "standing" (.ref d1) (putF "rules" (.ref r) []))) := upd_same
    have q2 : (upd (upd H1 d1 (.dK kv)) b (.ins cL dx (putF "standing" (.ref d1) (putF "rules" (.ref r) [])))) d1 = some (.dK kv) := by rw [upd_ne n1]; exact upd_same
    have k2 : ∀ a o, H a = some o → a ≠ b → (upd (upd H1 d1 (.dK kv)) b (.ins cL dx (putF "standing" (.ref d1) (putF "rules" (.ref r) [])))) a = some o := fun a o e n => by
      rw [upd_ne n, upd_ne (ne_of_none (k1 _ _ e n) hd1)]; exact k1 _ _ e n
    have z2 : ∀ a, (upd (upd H1 d1 (.dK kv)) b (.ins cL dx (putF "standing" (.ref d1) (putF "rules" (.ref r) [])))) a = none → H a = none := fun a e => by
      by_cases q : a = b
      · rw [q, upd_same] at e; cases e
      · rw [upd_ne q] at e
        by_cases q1 : a = d1
        · rw [q1, upd_same] at e; cases e
        · rw [upd_ne q1] at e; exact z1 _ e
    have zd1 : H0 d1 = none := Same.free s0 (z1 _ hd1)
    generalize upd (upd H1 d1 (.dK kv)) b (.ins cL dx (putF "standing" (.ref d1) (putF "rules" (.ref r) []))) = H2 at b2 q2 k2 z2 ⊢
    have hg2 : SqL K H2 g (gn.map V.str) := by
      rcases hg with (h | ⟨o, h⟩) | h
      · exact .inl (.inl (k2 _ _ h ngb))
      · exact .inl (.inr ⟨o, k2 _ _ h ngb⟩)
      · exact .inr h
    refine ⟨_, rfl, g, gn, rfl, hg2, fun g1 hg1 => ?_⟩
    have m1 : g1 ≠ b := (ne_of_none b2 hg1).symm
    have m2 : g1 ≠ d1 := (ne_of_none q2 hg1).symm
    have zg1 : H0 g1 = none := Same.free s0 (z2 _ hg1)
    refine ⟨_, rfl, b, cL, dx, _, rfl, by rw [upd_ne m1.symm]; exact b2, T.lC, T.l3, Nat.lt_of_le_of_lt (Nat.le_trans (putF_len _ _ _) (Nat.succ_le_succ (putF_len _ _ _))) (by decide), ?_⟩
    refine k _ (fun a o e n => ?_) ⟨⟨dx, d1, g1, kv, in_new ss nb ?_, in_new ss zd1 ?_, hk.mono join_l, in_new ss zg1 ?_⟩, hnd⟩
    · rw [upd_ne n, upd_ne (ne_of_none (k2 _ _ e n) hg1)]; exact k2 _ _ e n
    · exact upd_same
    · rw [upd_ne n1, upd_ne m2.symm]; exact q2
    · rw [upd_ne m1]; exact upd_same
theorem scLNames : FnScope ["self"] ["self"] (defScope sLNames) := ⟨rfl, rfl, rfl, by decide +kernel, rfl, by decide +kernel, by decide +kernel⟩
theorem ok_lnames {f : Addr} {fd : FuncData} (F : Fun K "names" "Layer.names" sLNames f fd) (T : Txt K mg cL cM cH cR) : FnOk P w K mg base CX0 1 f fd ["self"] (spLNames K cL) := by
  refine F.ok scLNames (fun vs H Q E h => ?_) (fun cdv A outer s H vs Q E hr h => ?_)
  · obtain ⟨b, r, ly, rfl, _⟩ := h
    rfl
  · obtain ⟨b, r, ly, rfl, L, hsz, k⟩ := h
    obtain ⟨dx, d, g, kv, h1, h2, h3, h4⟩ := L.ex
    have hl : kv.length = ly.1.length := by rw [h3.len]; unfold txD; rw [List.length_map]
    have ek : (kv.map fun kv => kV kv.1) = (ly.1.map (·.1)).map V.str := by
      have e2 := congrArg (List.map kV) h3.keys
      rw [List.map_map] at e2
      refine Eq.trans e2 ?_
      unfold txD
      simp only [List.map_map]
      rfl
    unfold lySize at hsz k
    refine ⟨_, (pss_one (ps_ret (pe_callB cr_sortS (by rfl) T.sorted (by decide +kernel) (pa_cons (pe_op op_cat (pe_callTy (call_list_dK rfl) (by rfl) T.list (by decide +kernel) (pa_cons (pe_fld (pv 0) rfl) pa_nil)) (pe_fld (pv 0) rfl)) pa_nil)))), ?_⟩
    refine ⟨_, rfl, b, cL, dx, _, _, rfl, h1, T.lC, T.l2, layF_standing _ _ _, d, kv, rfl, h2, fun q hq => ?_⟩
    have s1 := same_upd (o := .lst (kv.map fun kv => kV kv.1)) hq
    refine ⟨_, rfl, b, cL, dx, _, _, rfl, s1 _ _ h1, T.lC, T.l3, layF_gone _ _ _, q, g, _, _, rfl, rfl, upd_same, s1 _ _ h4, ?_, fun p hp => ?_⟩
    · rw [List.length_map, List.length_map, hl]; exact small_sz' (by omega)
    · have s2 := Same.trans s1 (same_upd (o := .lst ((kv.map fun kv => kV kv.1) ++ ly.2.map V.str)) hp)
      refine ⟨p, ly.1.map (·.1) ++ ly.2, rfl, SqL.of ?_, fun q2 hq2 => ?_⟩
      · rw [upd_same, ek, List.map_append]
      · refine k _ q2 _ (Same.trans s2 (same_upd hq2)) upd_same ?_
        rw [List.length_map, (ssort_perm _).length_eq, List.length_append, List.length_map]
theorem scLGone : FnScope ["self"] ["self"] (defScope sLGone) := ⟨rfl, rfl, rfl, by decide +kernel, rfl, by decide +kernel, by decide +kernel⟩
theorem ok_lgone {f : Addr} {fd : FuncData} (F : Fun K "gone" "Layer.gone" sLGone f fd) (T : Txt K mg cL cM cH cR) : FnOk P w K mg base CX0 1 f fd ["self"] (spLGone K cL) := by
  refine F.ok scLGone (fun vs H Q E h => ?_) (fun cdv A outer s H vs Q E hr h => ?_)
  · obtain ⟨b, r, ly, rfl, _⟩ := h
    rfl
  · obtain ⟨b, r, ly, rfl, L, k⟩ := h
    obtain ⟨dx, d, g, kv, h1, h2, h3, h4⟩ := L.ex
    refine ⟨_, (pss_one (ps_ret (pe_callTy (call_listK K) (by rfl) T.list (by decide +kernel) (pa_cons (pe_fld (pv 0) rfl) pa_nil)))), ?_⟩
    exact ⟨_, rfl, b, cL, dx, _, _, rfl, h1, T.lC, T.l3, layF_gone _ _ _, g, _, rfl, SqL.of h4, fun l hl => k l hl⟩
theorem scLTexts : FnScope ["self"] ["self"] (defScope sLTexts) := ⟨rfl, rfl, rfl, by decide +kernel, rfl, by decide +kernel, by decide +kernel⟩
theorem ok_ltexts {f : Addr} {fd : FuncData} (F : Fun K "texts" "Layer.texts" sLTexts f fd) (T : Txt K mg cL cM cH cR) : FnOk P w K mg base CX0 1 f fd ["self"] (spLTexts K cL) := by
  refine F.ok scLTexts (fun vs H Q E h => ?_) (fun cdv A outer s H vs Q E hr h => ?_)
  · obtain ⟨G, b, r, ly, rfl, _⟩ := h
    rfl
  · obtain ⟨G, b, r, ly, rfl, sg, L, k⟩ := h
    obtain ⟨dx, d, g, kv, h1, h2, h3, h4⟩ := L.ex
    refine ⟨_, (pss_one (ps_ret (pe_callTy call_dictD (by rfl) T.dict (by decide +kernel) (pa_cons (pe_fld (pv 0) rfl) pa_nil)))), ?_⟩
    exact ⟨_, rfl, b, cL, dx, _, _, rfl, sg _ _ h1, T.lC, T.l2, layF_standing _ _ _, d, kv, rfl, .inl (sg _ _ h2), fun p hp => k p kv hp h3⟩
end
end KR
set_option maxHeartbeats 4000000
namespace KR
open PySem PySem.Spec PyProof.Rows L2
def goneK (gs : List Str) : List (Key × V) := gs.map fun s => (.inr s, .bl true)
theorem goneK_any (gs : List Str) (n : Str) : ((goneK gs).any fun kv => decide (kv.1 = (.inr n : Key))) = decide (n ∈ gs) := by
  unfold goneK
  induction gs with
  | nil => simp
  | cons x gs ih =>
    rw [List.map_cons, List.any_cons, ih]
    by_cases e : x = n
    · simp [e]
    · have e' : ¬ n = x := fun z => e z.symm
      simp [e, e']
theorem goneK_put (gs : List Str) (n : Str) : putK (goneK gs) (.inr n) (.bl true) = goneK (addS gs n) := by
  unfold putK addS
  rw [goneK_any]
  by_cases h : n ∈ gs
  · rw [if_pos (decide_eq_true h), if_pos h]
    unfold goneK
    rw [List.map_map]
    refine List.map_congr_left fun x _ => ?_
    show (if (Sum.inr x : Key) = Sum.inr n then ((Sum.inr x : Key), V.bl true) else (Sum.inr x, V.bl true)) = _
    split <;> rfl
  · rw [if_neg (by simpa using h), if_neg h]
    unfold goneK
    rw [List.map_append]; rfl
theorem goneK_drop (gs : List Str) (n : Str) : dropK (goneK gs) (.inr n) = goneK (remS gs n) := by
  unfold dropK remS goneK
  rw [List.filter_map]
  congr 1
  refine List.filter_congr fun x _ => ?_
  show decide ((Sum.inr x : Key) ≠ Sum.inr n) = decide (x ≠ n)
  by_cases e : x = n
  · simp [e]
  · simp [e]
theorem dropK_none {kvs : List (Key × V)} {k : Key} (h : valV kvs k = none) : dropK kvs k = kvs := by
  unfold dropK
  refine List.filter_eq_self.mpr fun p hp => ?_
  have q : (kvs.any fun kv => decide (kv.1 = k)) = false := by rw [valV_any, h]; rfl
  have := List.any_eq_false.mp q p hp
  simpa using this
theorem join_mono {G N N' : Hp} (s : Same N N') : Same (join G N) (join G N') := fun a o e => by
  rcases join_some e with e | ⟨e0, e⟩
  · exact join_l _ _ e
  · unfold join; rw [e0]; exact s _ _ e
def d2 (p q : Addr) (H : Hp) : Hp := del (del H p) q
theorem d2_at1 {p q : Addr} {H : Hp} : d2 p q H p = none := by
  unfold d2
  by_cases e : p = q
  · rw [← e]; exact del_same
  · rw [del_ne e]; exact del_same
theorem d2_at2 {p q : Addr} {H : Hp} : d2 p q H q = none := del_same
theorem d2_in {p q : Addr} {G H : Hp} (s : Same G H) (h1 : G p = none) (h2 : G q = none) : Same G (d2 p q H) := same_del_of (same_del_of s h1) h2
theorem d2_sub {p q : Addr} {H : Hp} : Same (d2 p q H) H := Same.trans same_del same_del
def spPour (K : PySem.W.Frag) (cL : Addr) : Sp := fun vs H Q _ => ∃ (Hs : Hp) (lo up r r2 : Addr) (lyl lyu : Ly), vs = [.ref lo, .ref up] ∧ Same Hs H ∧ LayerAt K cL Hs lo r lyl ∧ LayerAt K cL Hs up r2 lyu ∧ lySize lyl ≤ 10000 ∧ lySize lyu ≤ 10000 ∧
  ∀ (H' : Hp) (v : Addr), Same H H' → LayerAt K cL (join Hs (nw H H')) v r (pour lyl lyu) → Q (.ref v) H'
section
variable {P : Program} {w : World} {K : PySem.W.Frag} {mg : Str → Option Value} {base : Heap} {cL cM cH cR cB : Addr}
theorem scPoured : FnScope ["lower", "upper", "texts", "gone", "name", "parts"] ["lower", "upper"] (defScope sPoured) := ⟨rfl, rfl, rfl, by decide +kernel, rfl, by decide +kernel, by decide +kernel⟩
theorem ok_poured {f : Addr} {fd : FuncData} (F : Fun K "poured" "poured" sPoured f fd) (T : Txt K mg cL cM cH cR) 
    (cLayer : Mkc P w K mg base cL 1 "Layer" ["self", "rulebook", "texts", "gone"] (spLInit K cL)) (mTexts : Mth P w K mg base cL 1 "texts" ["self"] (spLTexts K cL)) (mGone : Mth P w K mg base cL 1 "gone" ["self"] (spLGone K cL)) :
    FnOk P w K mg base CX0 3 f fd ["lower", "upper"] (spPour K cL) := by
  refine F.ok scPoured (fun vs H Q E h => ?_) (fun cdv A outer s H vs Q E hr h => ?_)
  · obtain ⟨Hs, lo, up, r, r2, lyl, lyu, rfl, _⟩ := h
    rfl
  · obtain ⟨Hs, lo, up, r, r2, lyl, lyu, rfl, ss, Ll, Lu, hsl, hsu, k⟩ := h
    have hu := hu_of hr
    have nd := scPoured.nd
    unfold lySize at hsl hsu
    refine ⟨_, (pss_cons (ps_set (i := 2) nd rfl (.inl rfl) (pe_mth0 (pv 0) T.lC mTexts (hr.mono (by decide))))
      (pss_cons (ps_set (i := 3) nd rfl (.inl rfl) pe_dnewK)
      (pss_cons (ps_for PassesOwn.never rfl (pi_list (pe_mth0 (pv 0) T.lC mGone (hr.mono (by decide)))) (pg_name (i := 4) nd rfl (.inl rfl))
          (pss_one (ps_dput hu (pv 3) (pv 4) pe_bl rfl)))
      (pss_cons (ps_for PassesOwn.never rfl (pi_list (pe_mth0 (pv 1) T.lC mGone (hr.mono (by decide)))) (pg_name (i := 4) nd rfl (.inl rfl))
          (pss_cons (ps_expr (pe_dpop2 (pv 2) (pv 4) pe_non ⟨rfl, rfl, rfl, rfl⟩))
          (pss_one (ps_dput hu (pv 3) (pv 4) pe_bl rfl))))
      (pss_cons (ps_for PassesOwn.never rfl (pi_items (pe_frz (pe_mth0 (pv 1) T.lC mTexts (hr.mono (by decide))))) (pg_tup rfl (pgs_cons (pg_name (i := 4) nd rfl (.inl rfl)) (pgs_cons (pg_name (i := 5) nd rfl (.inl rfl)) pgs_nil)))
          (pss_cons (ps_expr (pe_dpop2 (pv 3) (pv 4) pe_non ⟨rfl, rfl, rfl, rfl⟩))
          (pss_one (ps_dput hu (pv 2) (pv 4) (pv 5) rfl))))
      (pss_one (ps_ret (pe_mkc cLayer hr (pa_cons (pe_fld (pv 0) rfl) (pa_cons (pv 2) (pa_cons (pe_callTy (call_list_dK rfl) (by rfl) T.list (by decide +kernel) (pa_cons (pv 3) pa_nil)) pa_nil))))))))))), ?_⟩
    obtain ⟨dxl, dl, gl, kvl, l1, l2, l3, l4⟩ := Ll.ex
    obtain ⟨dxu, du, gu, kvu, u1, u2, u3, u4⟩ := Lu.ex
    have nl : ∀ {m : Str}, ¬ m = "rules" → ¬ m = "standing" → ¬ m = "gone_names" → (layF r dl gl).lookup m = none := layF_no r dl gl
    have nu : ∀ {m : Str}, ¬ m = "rules" → ¬ m = "standing" → ¬ m = "gone_names" → (layF r2 du gu).lookup m = none := layF_no r2 du gu
    -- texts = lower.texts(); gone = {}
    refine ⟨_, rfl, lo, dxl, _, rfl, ss _ _ l1, nl (by decide +kernel) (by decide +kernel) (by decide +kernel), Hs, lo, r, lyl, rfl, ss, Ll, fun t kvt ht hkt => ?_⟩
    have s1 : Same H (upd H t (.dK kvt)) := same_upd ht
    have t1 : (upd H t (.dK kvt)) t = some (.dK kvt) := upd_same
    generalize upd H t (.dK kvt) = H1 at s1 t1 ⊢
    intro g hg
    have ntg : t ≠ g := ne_of_none t1 hg
    have hgH : H g = none := Same.free s1 hg
    have s2 : Same H (upd H1 g (.dK [])) := Same.trans s1 (same_upd hg)
    have t2 : (upd H1 g (.dK [])) t = some (.dK kvt) := by rw [upd_ne ntg]; exact t1
    have g2 : (upd H1 g (.dK [])) g = some (.dK (goneK [])) := upd_same
    generalize upd H1 g (.dK []) = H2 at s2 t2 g2 ⊢
    have sd : ∀ {Hx Hy : Hp}, Same H Hx → Same (d2 t g Hx) Hy → Same H Hy := fun a b => Same.trans (d2_in a ht hgH) b
    -- for name in lower.gone()
    refine ⟨_, rfl, lo, dxl, _, rfl, s2 _ _ (ss _ _ l1), nl (by decide +kernel) (by decide +kernel) (by decide +kernel), lo, r, lyl, rfl, Ll.mono (Same.trans ss s2), fun l hl => ?_⟩
    have s3 := same_upd (o := .lst (lyl.2.map V.str)) hl
    have nlt : l ≠ t := (ne_of_none t2 hl).symm
    have nlg : l ≠ g := (ne_of_none g2 hl).symm
    have l3' : (upd H2 l (.lst (lyl.2.map V.str))) l = some (.lst (lyl.2.map V.str)) := upd_same
    have t3 := s3 _ _ t2
    have g3 := s3 _ _ g2
    have s03 := Same.trans s2 s3
    generalize upd H2 l (.lst (lyl.2.map V.str)) = H3 at s3 l3' t3 g3 s03 ⊢
    have hl0 : (d2 t g H3) l = some (.lst (lyl.2.map V.str)) := by unfold d2; rw [del_ne nlg, del_ne nlt]; exact l3'
    refine ⟨l, rfl, ⟨_, SqL.of l3'⟩, ?_⟩
    refine for_it (walk_list (xs := lyl.2.map V.str)) (fun i σ H' => ∃ (x4 x5 : Option V), σ = [some (.ref lo), some (.ref up), some (.ref t), some (.ref g), x4, x5] ∧ Same (d2 t g H3) H' ∧ H' t = some (.dK kvt) ∧ H' g = some (.dK (goneK ((lyl.2.take i).foldl addS []))))
      ⟨none, none, rfl, d2_sub, t3, g3⟩ (fun i σ H' _ ⟨_, _, _, q, _⟩ => SqL.of (q _ _ hl0)) ?_ ?_
    · rintro i x σ H' H'' hi ⟨x4, x5, rfl, sH, tH, gH⟩ ⟨eH, ex⟩
      subst eH
      rw [List.getElem?_map] at ex
      obtain ⟨z, hz1, rfl⟩ : ∃ z, lyl.2[i]? = some z ∧ x = V.str z := by
        cases e : lyl.2[i]? with
        | none => rw [e] at ex; cases ex
        | some z => rw [e] at ex; exact ⟨z, rfl, (Option.some.inj ex).symm⟩
      have hsz := addS_len (lyl.2.take i) []
      rw [List.length_take] at hsz
      refine ⟨_, rfl, _, rfl, g, _, rfl, DPut.k (k := Sum.inr z) gH (by unfold goneK; rw [List.length_map]; exact small_sz (by simp only [List.length_nil] at hsz; omega)), ?_⟩
      refine ⟨_, _, rfl, same_wr sH d2_at2, by rw [upd_ne ntg]; exact tH, ?_⟩
      rw [upd_same, goneK_put, foldl_take_succ hz1]
    · rintro σ H4 ⟨x4, x5, rfl, sH, t4, g4⟩
      rw [show (lyl.2.map V.str).length = lyl.2.length by simp, List.take_length] at g4
      have s04 := sd s03 sH
      -- for name in upper.gone()
      refine ⟨_, rfl, up, dxu, _, rfl, s04 _ _ (ss _ _ u1), nu (by decide +kernel) (by decide +kernel) (by decide +kernel), up, r2, lyu, rfl, Lu.mono (Same.trans ss s04), fun l2 hl2 => ?_⟩
      have s5 := same_upd (o := .lst (lyu.2.map V.str)) hl2
      have nlt2 : l2 ≠ t := (ne_of_none t4 hl2).symm
      have nlg2 : l2 ≠ g := (ne_of_none g4 hl2).symm
      have l5' : (upd H4 l2 (.lst (lyu.2.map V.str))) l2 = some (.lst (lyu.2.map V.str)) := upd_same
      have t5 := s5 _ _ t4
      have g5 := s5 _ _ g4
      have s05 := Same.trans s04 s5
      generalize upd H4 l2 (.lst (lyu.2.map V.str)) = H5 at s5 l5' t5 g5 s05 ⊢
      have hl50 : (d2 t g H5) l2 = some (.lst (lyu.2.map V.str)) := by unfold d2; rw [del_ne nlg2, del_ne nlt2]; exact l5'
      refine ⟨l2, rfl, ⟨_, SqL.of l5'⟩, ?_⟩
      refine for_it (walk_list (xs := lyu.2.map V.str)) (fun i σ H' => ∃ (x4 x5 : Option V) (kv : List (Key × V)), σ = [some (.ref lo), some (.ref up), some (.ref t), some (.ref g), x4, x5] ∧ Same (d2 t g H5) H' ∧ H' t = some (.dK kv) ∧ DkAll K Hs kv (txD ((lyu.2.take i).foldl dropA lyl.1)) ∧ H' g = some (.dK (goneK ((lyu.2.take i).foldl addS (lyl.2.foldl addS [])))))
        ⟨x4, x5, kvt, rfl, d2_sub, t5, hkt, g5⟩ (fun i σ H' _ ⟨_, _, _, _, q, _⟩ => SqL.of (q _ _ hl50)) ?_ ?_
      · rintro i x σ H' H'' hi ⟨x4, x5, kv, rfl, sH, tH, dH, gH⟩ ⟨eH, ex⟩
        subst eH
        rw [List.getElem?_map] at ex
        obtain ⟨z, hz1, rfl⟩ : ∃ z, lyu.2[i]? = some z ∧ x = V.str z := by
          cases e : lyu.2[i]? with
          | none => rw [e] at ex; cases ex
          | some z => rw [e] at ex; exact ⟨z, rfl, (Option.some.inj ex).symm⟩
        have hs1 := addS_len (lyu.2.take i) (lyl.2.foldl addS [])
        have hs2 := addS_len lyl.2 []
        rw [List.length_take] at hs1
        simp only [List.length_nil] at hs2
        have dH2 : DkAll K Hs (dropK kv (.inr z)) (txD ((lyu.2.take (i + 1)).foldl dropA lyl.1)) := by
          rw [foldl_take_succ hz1]
          unfold txD
          rw [← dropA_map partsD]
          exact dH.drop z
        have rest : ∀ Hx : Hp, Same (d2 t g H5) Hx → Hx t = some (.dK (dropK kv (.inr z))) → Hx g = some (.dK (goneK ((lyu.2.take i).foldl addS (lyl.2.foldl addS [])))) → 
            Same (d2 t g H5) (upd Hx g (.dK (putK (goneK ((lyu.2.take i).foldl addS (lyl.2.foldl addS []))) (.inr z) (.bl true)))) ∧ (upd Hx g (.dK (putK (goneK ((lyu.2.take i).foldl addS (lyl.2.foldl addS []))) (.inr z) (.bl true)))) t = some (.dK (dropK kv (.inr z))) ∧
            (upd Hx g (.dK (putK (goneK ((lyu.2.take i).foldl addS (lyl.2.foldl addS []))) (.inr z) (.bl true)))) g = some (.dK (goneK ((lyu.2.take (i + 1)).foldl addS (lyl.2.foldl addS [])))) := fun Hx a b c =>
          ⟨same_wr a d2_at2, by rw [upd_ne ntg]; exact b, by rw [upd_same, goneK_put, foldl_take_succ hz1]⟩
        have hsz : (goneK ((lyu.2.take i).foldl addS (lyl.2.foldl addS []))).length < sizeLine := by unfold goneK; rw [List.length_map]; exact small_sz (by omega)
        refine ⟨_, rfl, t, rfl, .inl ⟨_, .inl tH⟩, _, rfl, kv, .inr z, tH, rfl, fun v hv => ?_, fun hv => ?_⟩
        · have gH2 : (upd H'' t (.dK (dropK kv (.inr z)))) g = some (.dK (goneK ((lyu.2.take i).foldl addS (lyl.2.foldl addS [])))) := by rw [upd_ne ntg.symm]; exact gH
          refine ⟨_, rfl, _, rfl, g, _, rfl, DPut.k (k := Sum.inr z) gH2 hsz, ?_⟩
          obtain ⟨r1, r2, r3⟩ := rest _ (same_wr sH d2_at1) upd_same gH2
          exact ⟨_, _, _, rfl, r1, r2, dH2, r3⟩
        · refine ⟨_, rfl, _, rfl, g, _, rfl, DPut.k (k := Sum.inr z) gH hsz, ?_⟩
          obtain ⟨r1, r2, r3⟩ := rest _ sH (by rw [dropK_none hv]; exact tH) gH
          exact ⟨_, _, _, rfl, r1, r2, dH2, r3⟩
      · rintro σ H6 ⟨x4, x5, kv6, rfl, sH, t6, d6, g6⟩
        rw [show (lyu.2.map V.str).length = lyu.2.length by simp, List.take_length] at g6 d6
        have s06 := sd s05 sH
        -- for name, parts in upper.texts().items()
        refine ⟨_, rfl, up, dxu, _, rfl, s06 _ _ (ss _ _ u1), nu (by decide +kernel) (by decide +kernel) (by decide +kernel), Hs, up, r2, lyu, rfl, Same.trans ss s06, Lu, fun u kvq hu1 hku => ?_⟩
        refine ⟨u, .dK kvq, rfl, upd_same, trivial, fun od => ?_⟩
        rw [upd_upd]
        have s7 := same_upd (o := .frz od (.dK kvq)) hu1
        have nut : u ≠ t := (ne_of_none t6 hu1).symm
        have nug : u ≠ g := (ne_of_none g6 hu1).symm
        have u7 : (upd H6 u (.frz od (.dK kvq))) u = some (.frz od (.dK kvq)) := upd_same
        have t7 := s7 _ _ t6
        have g7 := s7 _ _ g6
        have s07 := Same.trans s06 s7
        generalize upd H6 u (.frz od (.dK kvq)) = H7 at s7 u7 t7 g7 s07 ⊢
        have hu70 : (d2 t g H7) u = some (.frz od (.dK kvq)) := by unfold d2; rw [del_ne nug, del_ne nut]; exact u7
        have hlq : kvq.length = lyu.1.length := by rw [hku.len]; unfold txD; rw [List.length_map]
        refine ⟨u, od, kvq, rfl, u7, ?_⟩
        refine for_it (walk_items (kvs := kvq)) (fun i σ H' => ∃ (x4 x5 : Option V) (kv : List (Key × V)), σ = [some (.ref lo), some (.ref up), some (.ref t), some (.ref g), x4, x5] ∧ Same (d2 t g H7) H' ∧ H' t = some (.dK kv) ∧ DkAll K Hs kv (txD ((lyu.1.take i).foldl (fun m t => putA m t.1 t.2) (lyu.2.foldl dropA lyl.1))) ∧ H' g = some (.dK (goneK ((lyu.1.take i).foldl (fun gs t => remS gs t.1) (lyu.2.foldl addS (lyl.2.foldl addS []))))))
          ⟨x4, x5, kv6, rfl, d2_sub, t7, d6, g7⟩ (fun i σ H' _ ⟨_, _, _, _, q, _⟩ => q _ _ hu70) ?_ ?_
        · rintro i x σ H' H'' hi ⟨x4, x5, kv, rfl, sH, tH, dH, gH⟩ ⟨T1, kx, vx, rfl, hT1, rfl, ek, ev⟩
          have hi2 : i < kvq.length := hi
          obtain ⟨tt, htt, hkx, hvx⟩ : ∃ tt, lyu.1[i]? = some tt ∧ kx = .str tt.1 ∧ Dp K Hs vx (partsD tt.2) := by
            have h1 : i < lyu.1.length := by omega
            have e1 : kvq[i]? = some kvq[i] := by simp [hi2]
            have key : ∀ (l : List (Key × V)) (m : List (Str × PyData)) (i : Nat) (kv : Key × V), DkAll K Hs l m → l[i]? = some kv → ∃ p, m[i]? = some p ∧ kv.1 = .inr p.1 ∧ Dp K Hs kv.2 p.2 := by
              intro l m i kv h e
              obtain ⟨p, h1, h2⟩ := paired_get h e
              exact ⟨p, h1, h2⟩
            obtain ⟨p, p1, p2, p3⟩ := key _ _ _ _ hku e1
            unfold txD at p1
            rw [List.getElem?_map] at p1
            have e2 : lyu.1[i]? = some lyu.1[i] := by simp [h1]
            rw [e2] at p1
            cases p1
            dsimp only at ek ev
            rw [e1] at ek ev
            have ek' := Option.some.inj ek
            have ev' := Option.some.inj ev
            refine ⟨_, e2, ?_, ?_⟩
            · rw [← ek']; show kV kvq[i].1 = _; rw [p2]; rfl
            · rw [← ev']; exact p3
          subst hkx
          have sT := same_upd (o := .tup [.str tt.1, vx]) hT1
          have tH1 := sT _ _ tH
          have gH1 := sT _ _ gH
          have sH1 := Same.trans sH sT
          refine ⟨T1, _, rfl, SqT.of upd_same, rfl, _, _, rfl, _, _, rfl, rfl, ?_⟩
          generalize upd H' T1 (.tup [.str tt.1, vx]) = Hx at tH1 gH1 sH1 ⊢
          have dH2 : DkAll K Hs (putK kv (.inr tt.1) vx) (txD ((lyu.1.take (i + 1)).foldl (fun m t => putA m t.1 t.2) (lyu.2.foldl dropA lyl.1))) := by
            rw [foldl_take_succ htt]
            unfold txD
            rw [← putA_map partsD]
            exact dH.put tt.1 hvx
          have hlkv : kv.length < sizeLine := by
            rw [dH.len]
            unfold txD
            rw [List.length_map]
            have h1 := put_all_len (lyu.1.take i) (lyu.2.foldl dropA lyl.1)
            have h2 := drop_all_len lyu.2 lyl.1
            rw [List.length_take] at h1
            exact small_sz (Nat.lt_of_le_of_lt h1 (by omega))
          have fin : ∀ Hy : Hp, Same (d2 t g H7) Hy → Hy t = some (.dK kv) → Hy g = some (.dK (goneK (remS ((lyu.1.take i).foldl (fun gs t => remS gs t.1) (lyu.2.foldl addS (lyl.2.foldl addS []))) tt.1))) →
              Same (d2 t g H7) (upd Hy t (.dK (putK kv (.inr tt.1) vx))) ∧ (upd Hy t (.dK (putK kv (.inr tt.1) vx))) t = some (.dK (putK kv (.inr tt.1) vx)) ∧
              (upd Hy t (.dK (putK kv (.inr tt.1) vx))) g = some (.dK (goneK ((lyu.1.take (i + 1)).foldl (fun gs t => remS gs t.1) (lyu.2.foldl addS (lyl.2.foldl addS []))))) := fun Hy a b c =>
            ⟨same_wr a d2_at1, upd_same, by rw [upd_ne ntg.symm, foldl_take_succ htt]; exact c⟩
          refine ⟨_, rfl, g, rfl, .inl ⟨_, .inl gH1⟩, _, rfl, _, .inr tt.1, gH1, rfl, fun v hv => ?_, fun hv => ?_⟩
          · have tH2 : (upd Hx g (.dK (dropK (goneK ((lyu.1.take i).foldl (fun gs t => remS gs t.1) (lyu.2.foldl addS (lyl.2.foldl addS [])))) (.inr tt.1)))) t = some (.dK kv) := by rw [upd_ne ntg]; exact tH1
            refine ⟨_, rfl, _, rfl, _, rfl, t, _, rfl, DPut.k (k := Sum.inr tt.1) tH2 hlkv, ?_⟩
            obtain ⟨r1, r2, r3⟩ := fin _ (same_wr sH1 d2_at2) tH2 (by rw [upd_same, goneK_drop])
            exact ⟨_, _, _, rfl, r1, r2, dH2, r3⟩
          · refine ⟨_, rfl, _, rfl, _, rfl, t, _, rfl, DPut.k (k := Sum.inr tt.1) tH1 hlkv, ?_⟩
            obtain ⟨r1, r2, r3⟩ := fin _ sH1 tH1 (by rw [← goneK_drop, dropK_none hv]; exact gH1)
            exact ⟨_, _, _, rfl, r1, r2, dH2, r3⟩
        · rintro σ H8 ⟨x4, x5, kv8, rfl, sH, t8, d8, g8⟩
          rw [hlq, List.take_length] at g8 d8
          have s08 := sd s07 sH
          -- return Layer(lower.rules, texts, list(gone))
          refine ⟨_, rfl, lo, cL, dxl, _, _, rfl, s08 _ _ (ss _ _ l1), T.lC, T.l1, layF_rules _ _ _, _, rfl, _, rfl, g, _, rfl, g8, fun q hq => ?_⟩
          have s9 := same_upd (o := .lst ((goneK (lyu.1.foldl (fun gs t => remS gs t.1) (lyu.2.foldl addS (lyl.2.foldl addS [])))).map fun kv => kV kv.1)) hq
          have q9 : (upd H8 q (.lst ((goneK (lyu.1.foldl (fun gs t => remS gs t.1) (lyu.2.foldl addS (lyl.2.foldl addS [])))).map fun kv => kV kv.1))) q = some (.lst ((pourGone lyl lyu).map V.str)) := by
            rw [upd_same]
            unfold goneK pourGone
            rw [List.map_map]
            rfl
          have t9 := s9 _ _ t8
          have s09 := Same.trans s08 s9
          generalize upd H8 q (.lst ((goneK (lyu.1.foldl (fun gs t => remS gs t.1) (lyu.2.foldl addS (lyl.2.foldl addS [])))).map fun kv => kV kv.1)) = H9 at s9 q9 t9 s09 ⊢
          intro x dx nx ndx nex
          have sm : Same H9 (upd (upd H9 dx (.own x)) x (.ins cL dx [])) := fun b o e => by
            rw [upd_ne (ne_of_none e nx), upd_ne (ne_of_none e ndx)]
            exact e
          refine ⟨Hs, H9, x, dx, r, t, q, pourTx lyl lyu, pourGone lyl lyu, kv8, rfl, Same.trans ss s09, sm, nx, upd_same, sm _ _ t9, ne_of_none t9 nx, d8, SqL.of (sm _ _ q9), ne_of_none q9 nx, put_all_nd _ _ (drop_all_nd _ _ Ll.nd), fun H' kp L => ⟨rfl, ?_⟩⟩
          have sf : Same H9 H' := fun a o e => kp a o (sm _ _ e) (ne_of_none e nx)
          exact k H' x (Same.trans s09 sf) (L.mono (join_mono (nw_less s09)))
end
end KR
set_option maxHeartbeats 4000000
namespace KR
open PySem PySem.Spec PyProof.Rows L2
def HLET : Str := "abcdefghijklmnopqrstuvwxyz"
def HSIG : Str := " !\"#$&'()*+,-./0123456789:;<=>?@ABCDEFGHIJKLMNOPQRSTUVWXYZ[\\]^_`abcdefghijklmnopqrstuvwxyz{|}~"
structure NameOk (z : Str) : Prop where
  pos : 1 ≤ z.length
  few : z.length ≤ 8
  sgn : ∀ c ∈ z.cps.toList, c ∈ HLET.cps.toList
structure PartOk (z : Str) : Prop where
  few : z.length ≤ 1000
  sgn : ∀ c ∈ z.cps.toList, c ∈ HSIG.cps.toList
structure PartsOk (ps : List Str) : Prop where
  three : ps.length = 3
  each : ∀ z ∈ ps, PartOk z
theorem NameOk.ne {z : Str} (h : NameOk z) : ¬ z = "" := fun e => by
  have := h.pos
  rw [e] at this
  exact absurd this (by decide +kernel)
def call_isTup_r (K : PySem.W.Frag) : List V → Hp → VK → Prop := fun xs H Q => ∃ (a : Addr) (ys : List V), xs = [.ref a, .ty "tuple"] ∧ SqT K H a ys ∧ Q (.bl true) H
theorem call_isTup {X : Cx} : CallR X (.builtin "isinstance") (call_isTup_r X.K) := by
  intro pins s σ H xs us Q I r h
  obtain ⟨a, ys, rfl, t, q⟩ := h
  cases r with
  | cons rx rr =>
    cases rr with
    | cons rt rr =>
      cases rr
      cases rt
      cases rx
      obtain ⟨its, rv, p, _⟩ := I.tuple t
      have e : PySem.W.kitOne X.K (.type "tuple") (.type "tuple") = some true := if_pos (beq_self_eq_true _)
      obtain ⟨o, h1, h2, _⟩ := p
      exact PySem.W.kia_one PySem.W.kitx_tuple I.kIn ⟨o, h1, h2⟩ e (fun z => nomatch z) fun tk => ⟨.bl true, H, I.kept (t' := tk) fun _ _ z => z, rfl, q⟩
def call_allK_r (K : PySem.W.Frag) : List V → Hp → VK → Prop := rAll K
theorem call_allK {X : Cx} (K : PySem.W.Frag) (hc : X.calm = true := by rfl) (h : X.K = K := by rfl) : CallR X (.builtin "all") (rAll K) := by subst h; exact cr_all hc
def spLow (K : PySem.W.Frag) (cL : Addr) : Sp := fun vs H Q _ => ∃ (Hs : Hp) (a r : Addr) (ly : Ly), vs = [.ref a] ∧ Same Hs H ∧ LayerAt K cL Hs a r ly ∧
  ∀ (H' : Hp) (v : Addr), Same H H' → LayerAt K cL (join Hs (nw H H')) v r (ly.1, []) → Q (.ref v) H'
def scpText : Scope := { kind := .function, names := [(".0", .local), ("text", .local), ("isinstance", .globalImplicit), ("str", .globalImplicit), ("all", .globalImplicit)], isGenerator := false, isCoroutine := false }
def spIsName : Sp := fun vs H Q _ => ∃ z, vs = [.str z] ∧ NameOk z ∧ ∀ H', Same H H' → Q (.bl true) H'
def spAreParts (K : PySem.W.Frag) : Sp := fun vs H Q _ => ∃ (G : Hp) (v : V) (ps : List Str), vs = [v] ∧ Same G H ∧ Dp K G v (partsD ps) ∧ PartsOk ps ∧ ∀ H', Same H H' → Q (.bl true) H'
theorem reps {xs : List V} {n : Nat} (h : xs.length = n) (e : ∀ x ∈ xs, x = V.bl true) : xs = (List.replicate n true).map V.bl := by
  rw [List.map_replicate, ← h]
  exact List.eq_replicate_of_mem e
theorem all_rep (n : Nat) : (List.replicate n true).all id = true := by
  induction n with
  | zero => rfl
  | succ n ih => rw [List.replicate_succ, List.all_cons, ih]; rfl
section
variable {P : Program} {w : World} {K : PySem.W.Frag} {mg : Str → Option Value} {base : Heap} {cL cM cH cR cB : Addr}
theorem scLow : FnScope ["layer"] ["layer"] (defScope sLowest) := ⟨rfl, rfl, rfl, by decide +kernel, rfl, by decide +kernel, by decide +kernel⟩
theorem ok_low {f : Addr} {fd : FuncData} (F : Fun K "lowest" "lowest" sLowest f fd) (T : Txt K mg cL cM cH cR) 
    (cLayer : Mkc P w K mg base cL 1 "Layer" ["self", "rulebook", "texts", "gone"] (spLInit K cL)) (mTexts : Mth P w K mg base cL 1 "texts" ["self"] (spLTexts K cL)) :
    FnOk P w K mg base CX0 3 f fd ["layer"] (spLow K cL) := by
  refine F.ok scLow (fun vs H Q E h => ?_) (fun cdv A outer s H vs Q E hr h => ?_)
  · obtain ⟨Hs, a, r, ly, rfl, _⟩ := h
    rfl
  · obtain ⟨Hs, a, r, ly, rfl, ss, L, k⟩ := h
    have hu := hu_of hr
    refine ⟨_, (pss_one (ps_ret (pe_mkc cLayer hr (pa_cons (pe_fld (pv 0) rfl) (pa_cons (pe_mth0 (pv 0) T.lC mTexts (hr.mono (by decide))) (pa_cons (pe_lst pa_nil) pa_nil)))))), ?_⟩
    obtain ⟨dx, d, g, kv, l1, l2, l3, l4⟩ := L.ex
    refine ⟨_, rfl, a, cL, dx, _, _, rfl, ss _ _ l1, T.lC, T.l1, layF_rules _ _ _, ?_⟩
    refine ⟨_, rfl, a, dx, _, rfl, ss _ _ l1, layF_no r d g (by decide +kernel) (by decide +kernel) (by decide +kernel), Hs, a, r, ly, rfl, ss, L, fun t kvt ht hkt => ?_⟩
    have s1 := same_upd (o := .dK kvt) ht
    have t1 : (upd H t (.dK kvt)) t = some (.dK kvt) := upd_same
    generalize upd H t (.dK kvt) = H1 at s1 t1 ⊢
    refine ⟨by show 0 ≤ sizeLine; decide, fun q hq => ?_⟩
    have s2 := same_upd (o := .lst []) hq
    have q2 : (upd H1 q (.lst [])) q = some (.lst []) := upd_same
    have t2 := s2 _ _ t1
    have s02 := Same.trans s1 s2
    generalize upd H1 q (.lst []) = H9 at s2 q2 t2 s02 ⊢
    intro x dx nx ndx nex
    have sm : Same H9 (upd (upd H9 dx (.own x)) x (.ins cL dx [])) := fun b o e => by
      rw [upd_ne (ne_of_none e nx), upd_ne (ne_of_none e ndx)]
      exact e
    refine ⟨Hs, H9, x, dx, r, t, q, ly.1, [], kvt, rfl, Same.trans ss s02, sm, nx, upd_same, sm _ _ t2, ne_of_none t2 nx, hkt, SqL.of (sm _ _ q2), ne_of_none q2 nx, L.nd, fun H' kp L => ⟨rfl, ?_⟩⟩
    have sf : Same H9 H' := fun a o e => kp a o (sm _ _ e) (ne_of_none e nx)
    have es : ssort [] = [] := by unfold ssort; simp
    rw [es] at L
    exact k H' x (Same.trans s02 sf) (L.mono (join_mono (nw_less s02)))
theorem scIsName : FnScope ["thing", "letter"] ["thing"] (defScope sIsName) := ⟨rfl, rfl, rfl, by decide +kernel, rfl, by decide +kernel, by decide +kernel⟩
theorem ok_isname {f : Addr} {fd : FuncData} (F : Fun K "is_house_name" "is_house_name" sIsName f fd) (T : Txt K mg cL cM cH cR) :
    FnOk P w K mg base CX0 1 f fd ["thing"] spIsName := by
  refine F.ok scIsName (fun vs H Q E h => ?_) (fun cdv A outer s H vs Q E hr h => ?_)
  · obtain ⟨z, rfl, _⟩ := h
    rfl
  · obtain ⟨z, rfl, ok, k⟩ := h
    have hu := hu_of hr
    have nd := scIsName.nd
    obtain ⟨tN, gHN⟩ := T.gHN
    obtain ⟨tL, gHL⟩ := T.gHL
    refine ⟨_, (pss_cons (ps_if (PW.pt (pw_or (pt_not (pt_val (pe_callB RZ.call_isTy (by rfl) T.isinstance (by decide +kernel) (pa_cons (pv 0) (pa_cons (pe_bltn (v := .ty "str") (by rfl) T.str (by decide +kernel) rfl) pa_nil))))) (pw_or (pt_cmpR op_eq (pv 0) pe_str (nomark _)) (pw_or1 (pt_cmpR op_gt (pe_callB call_len_str (by rfl) T.len PySem.boot_len (pa_cons (pv 0) pa_nil)) (pe_gint gHN) (nomark _)))))) (pss_one (ps_ret pe_bl)) pss_nil)
      (pss_one (ps_ret (pe_callB (call_allK K) (by rfl) T.all (by decide +kernel) (pa_cons (pe_lc (own := [("letter", 1)]) (g := gName 1) (tt := tYes) rfl nd (pi_str (pv 0)) (blkOk_by (own := [("letter", 1)]) (N := ["thing", "letter"]) (sc := (defScope sIsName)) (by decide +kernel)) (fun _ _ _ _ _ => (pg_name (i := 1) nd rfl (.inl rfl))) (fun _ _ _ _ _ => pts_nil) (fun _ _ _ _ _ => (pe_cmpR op_in_sign (pv 1) (pe_gstr gHL) rfl))) pa_nil))))), ?_⟩
    have hf := ok.few
    refine ⟨_, rfl, _, "str", rfl, .str _, _, rfl, ?_⟩
    refine iteF ?_
    refine ⟨_, rfl, rfl, _, rfl, ?_⟩
    refine ifdF (fun e => ok.ne (by injection e)) ?_
    refine ⟨_, rfl, _, rfl, small_sz' (by omega), _, _, rfl, rfl, _, rfl, ?_⟩
    refine ifdF (by omega) ?_
    refine ⟨_, rfl, z, rfl, fun D hD => lc_it walk_str (fun i H' => Same H H' ∧ ∃ xs, H' D = some (.lst xs) ∧ xs.length = i ∧ ∀ x ∈ xs, x = V.bl true)
      ⟨same_upd hD, [], upd_same, rfl, by simp⟩ (fun _ _ _ _ => trivial) ?_ ?_⟩
    · rintro i x H1 H2 hi ⟨s1, xs, hx, hl, ha⟩ ⟨eH, c, hc, rfl⟩
      subst eH
      refine ⟨rfl, ?_⟩
      have hm : c ∈ z.cps.toList := by
        obtain ⟨h1, h2⟩ := Array.getElem?_eq_some_iff.mp hc
        rw [← h2]; exact Array.mem_toList_iff.mpr (Array.getElem_mem h1)
      refine ⟨_, rfl, c, _, rfl, rfl, ?_⟩
      refine ⟨xs, hx, small_sz (by have : z.cps.size = z.length := rfl; omega), same_wr s1 hD, xs ++ [_], upd_same, by rw [List.length_append, hl]; rfl, fun y hy => ?_⟩
      rcases List.mem_append.mp hy with h | h
      · exact ha y h
      · rw [List.mem_singleton.mp h]
        exact congrArg V.bl (decide_eq_true (ok.sgn c hm))
    · rintro H1 ⟨s1, xs, hx, hl, ha⟩
      refine ⟨D, List.replicate z.cps.size true, rfl, ?_, ?_⟩
      · rw [← reps hl ha]; exact SqL.of hx
      · rw [all_rep]; exact k H1 s1
theorem scAreParts : FnScope ["thing", "text", "sign"] ["thing"] (defScope sAreParts) := ⟨rfl, rfl, rfl, by decide +kernel, rfl, by decide +kernel, by decide +kernel⟩
theorem ok_areparts {f : Addr} {fd : FuncData} (F : Fun K "are_house_parts" "are_house_parts" sAreParts f fd) (T : Txt K mg cL cM cH cR) :
    FnOk P w K mg base CX0 1 f fd ["thing"] (spAreParts K) := by
  refine F.ok scAreParts (fun vs H Q E h => ?_) (fun cdv A outer s H vs Q E hr h => ?_)
  · obtain ⟨G, v, ps, rfl, _⟩ := h
    rfl
  · obtain ⟨G, v, ps, rfl, sg, hd, ok, k⟩ := h
    have hu := hu_of hr
    have nd := scAreParts.nd
    obtain ⟨tN, gHP⟩ := T.gHP
    obtain ⟨tL, gHS⟩ := T.gHS
    obtain ⟨a, xs, rfl, hq, hda⟩ := dp_tup hd
    have ex : xs = ps.map V.str := DpAll.strs_of hda
    subst ex
    have hq0 := Same.tup sg hq
    have h3 := ok.three
    refine ⟨_, (pss_cons (ps_if (PW.pt (pw_or (pt_not (pt_val (pe_callB call_isTup (by rfl) T.isinstance (by decide +kernel) (pa_cons (pv 0) (pa_cons (pe_bltn (v := .ty "tuple") (by rfl) T.tuple (by decide +kernel) rfl) pa_nil))))) (pw_or1 (pt_cmpR op_ne (pe_callB (call_lenK K) (by rfl) T.len PySem.boot_len (pa_cons (pv 0) pa_nil)) (pe_gint gHP) (nomark _))))) (pss_one (ps_ret pe_bl)) pss_nil)
      (pss_one (ps_ret (pe_callB (call_allK K) (by rfl) T.all (by decide +kernel) (pa_cons (pe_lc (own := [("text", 1)]) (g := gName 1) (tt := tYes) rfl nd (pi_tup (pv 0)) (blkOk_by (own := [("text", 1)]) (N := ["thing", "text", "sign"]) (sc := (defScope sAreParts)) (by decide +kernel)) (fun _ _ _ _ _ => (pg_name (i := 1) nd rfl (.inl rfl))) (fun _ _ _ _ _ => pts_nil) (fun _ _ _ _ _ => (pe_and (pe_callB RZ.call_isTy (by rfl) T.isinstance (by decide +kernel) (pa_cons (pv 1) (pa_cons (pe_bltn (v := .ty "str") (by rfl) T.str (by decide +kernel) rfl) pa_nil))) (pe_one (pe_callB (call_allK K) (by rfl) T.all (by decide +kernel) (pa_cons (pe_lc (own := [("sign", 2)]) (g := gName 2) (tt := tYes) rfl nd (pi_str (pv 1)) (blkOk_by (own := [("sign", 2)]) (N := ["thing", "text", "sign"]) (sc := scpText) (by decide +kernel)) (fun _ _ _ _ _ => (pg_name (i := 2) nd rfl (.inl rfl))) (fun _ _ _ _ _ => pts_nil) (fun _ _ _ _ _ => (pe_cmpR op_in_sign (pv 2) (pe_gstr gHS) rfl))) pa_nil)))))) pa_nil))))), ?_⟩
    refine ⟨_, rfl, a, _, rfl, hq0, _, rfl, ?_⟩
    refine iteF ?_
    refine ⟨_, rfl, ?_⟩
    refine ⟨a, _, rfl, .inr hq0, ?_⟩
    refine ⟨rfl, ?_⟩
    refine ⟨_, rfl, ?_⟩
    refine ifnF (congrArg V.int (by rw [List.length_map, h3]; rfl)) ?_
    refine ⟨_, rfl, a, rfl, ⟨_, hq0⟩, fun D hD => lc_tup (K := K) (a := a) (xs := ps.map V.str) (fun i H' => Same H H' ∧ ∃ xs, H' D = some (.lst xs) ∧ xs.length = i ∧ ∀ x ∈ xs, x = V.bl true)
      ⟨same_upd hD, [], upd_same, rfl, by simp⟩ (fun _ _ _ q => Same.tup q.1 hq0) ?_ ?_⟩
    · rintro i x H1 hx ⟨s1, xs, hxs, hl, ha⟩
      rw [List.getElem?_map] at hx
      obtain ⟨z, hz, rfl⟩ : ∃ z, ps[i]? = some z ∧ x = V.str z := by
        cases e : ps[i]? with
        | none => rw [e] at hx; cases hx
        | some z => rw [e] at hx; exact ⟨z, rfl, (Option.some.inj hx).symm⟩
      have okz := ok.each z (List.mem_of_getElem? hz)
      have hzf := okz.few
      have hi : i < ps.length := (List.getElem?_eq_some_iff.mp hz).1
      refine ⟨rfl, ?_⟩
      refine ⟨_, rfl, _, "str", rfl, .str _, _, rfl, ?_⟩
      refine iteT ?_
      refine ⟨_, rfl, z, rfl, fun D2 hD2 => lc_it walk_str (fun j H' => Same H1 H' ∧ ∃ xs, H' D2 = some (.lst xs) ∧ xs.length = j ∧ ∀ x ∈ xs, x = V.bl true)
        ⟨same_upd hD2, [], upd_same, rfl, by simp⟩ (fun _ _ _ _ => trivial) ?_ ?_⟩
      · rintro j x H2 H3 hj ⟨s2, ys, hys, hyl, hya⟩ ⟨eH, c, hc, rfl⟩
        subst eH
        have hm : c ∈ z.cps.toList := by
          obtain ⟨h1, h2⟩ := Array.getElem?_eq_some_iff.mp hc
          rw [← h2]; exact Array.mem_toList_iff.mpr (Array.getElem_mem h1)
        refine ⟨rfl, ?_⟩
        refine ⟨_, rfl, c, _, rfl, rfl, ?_⟩
        refine ⟨ys, hys, small_sz (by have : z.cps.size = z.length := rfl; omega), same_wr s2 hD2, ys ++ [_], upd_same, by rw [List.length_append, hyl]; rfl, fun y hy => ?_⟩
        rcases List.mem_append.mp hy with h | h
        · exact hya y h
        · rw [List.mem_singleton.mp h]
          exact congrArg V.bl (decide_eq_true (okz.sgn c hm))
      · rintro H2 ⟨s2, ys, hys, hyl, hya⟩
        refine ⟨D2, List.replicate z.cps.size true, rfl, ?_, ?_⟩
        · rw [← reps hyl hya]; exact SqL.of hys
        · rw [all_rep]
          have hx2 := s2 _ _ hxs
          refine ⟨xs, hx2, small_sz (by omega), same_wr (Same.trans s1 s2) hD, xs ++ [_], upd_same, by rw [List.length_append, hl]; rfl, fun y hy => ?_⟩
          rcases List.mem_append.mp hy with h | h
          · exact ha y h
          · exact List.mem_singleton.mp h
    · rintro H1 ⟨s1, xs, hx, hl, ha⟩
      refine ⟨D, List.replicate (ps.map V.str).length true, rfl, ?_, ?_⟩
      · rw [← reps hl ha]; exact SqL.of hx
      · rw [all_rep]; exact k H1 s1
end
end KR
set_option maxHeartbeats 4000000
namespace KR
open PySem PySem.Spec PyProof.Rows L2
theorem merge_all {K : PySem.W.Frag} {H : Hp} : ∀ {more : List (Key × V)} {tx : List Tx} {kvs : List (Key × V)} {m : List Tx}, DkAll K H kvs (txD m) → DkAll K H more (txD tx) → DkAll K H (mergeK kvs more) (txD (tx.foldl (fun m t => putA m t.1 t.2) m))
  | [], [], kvs, m, h, _ => h
  | kv :: more, t :: tx, kvs, m, h, q => by
    unfold DkAll txD at q
    cases q with
    | cons q1 q2 =>
      obtain ⟨e1, e2⟩ := q1
      obtain ⟨k, v⟩ := kv
      dsimp only at e1 e2
      subst e1
      have h2 : DkAll K H (putK kvs (.inr t.1) v) (txD (putA m t.1 t.2)) := by
        unfold txD
        rw [← putA_map partsD]
        exact h.put t.1 e2
      show DkAll K H (mergeK (putK kvs (.inr t.1) v) more) (txD (tx.foldl (fun m t => putA m t.1 t.2) (putA m t.1 t.2)))
      exact merge_all h2 q2
  | [], t :: tx, kvs, m, h, q => by unfold DkAll txD at q; cases q
  | kv :: more, [], kvs, m, h, q => by unfold DkAll txD at q; cases q
theorem at_last {α : Type} (gs : List α) (x : α) : atI (gs ++ [x]) (((gs ++ [x]).length : Int) - 1) = some x := by
  have e : (((gs ++ [x]).length : Int) - 1) = (gs.length : Nat) := by rw [List.length_append]; simp
  rw [e]
  exact atI_nat (by simp)
theorem at_neg {α : Type} (xs : List α) (k : Nat) (x : α) (h0 : 0 < k) (hk : k ≤ xs.length) (h : xs[xs.length - k]? = some x) : atI xs (-(k : Int)) = some x := by
  unfold atI ixN
  rw [if_neg (by omega), if_pos (by omega)]
  have e : (-(k : Int) + (xs.length : Int)).toNat = xs.length - k := by omega
  show xs[(-(k : Int) + (xs.length : Int)).toNat]? = some x
  rw [e]; exact h
theorem at_neg1 {α : Type} (gs : List α) (x : α) : atI (gs ++ [x]) (-1) = some x := at_neg _ 1 x (by decide) (by simp) (by simp)
def LyAll (K : PySem.W.Frag) (cL : Addr) (H : Hp) (r : Addr) (vs : List V) (lys : List Ly) : Prop := Paired (fun v ly => ∃ a, v = .ref a ∧ LayerAt K cL H a r ly) vs lys
theorem LyAll.mono {K : PySem.W.Frag} {cL : Addr} {H H' : Hp} {r : Addr} (s : Same H H') : ∀ {vs : List V} {lys : List Ly}, LyAll K cL H r vs lys → LyAll K cL H' r vs lys
  | _, _, .nil => .nil
  | _, _, .cons ⟨a, e, L⟩ t => .cons ⟨a, e, L.mono s⟩ (LyAll.mono s t)
theorem LyAll.length {K : PySem.W.Frag} {cL : Addr} {H : Hp} {r : Addr} : ∀ {vs : List V} {lys : List Ly}, LyAll K cL H r vs lys → vs.length = lys.length
  | _, _, .nil => rfl
  | _, _, .cons _ t => congrArg (· + 1) (LyAll.length t)
theorem LyAll.at {K : PySem.W.Frag} {cL : Addr} {H : Hp} {r : Addr} : ∀ {vs : List V} {lys : List Ly} {i : Nat} {v : V}, LyAll K cL H r vs lys → vs[i]? = some v → ∃ a ly, lys[i]? = some ly ∧ v = .ref a ∧ LayerAt K cL H a r ly
  | _, _, _, _, .nil, h => by simp at h
  | _, _, 0, _, .cons ⟨a, e, L⟩ _, h => by simp at h; subst h; exact ⟨a, _, rfl, e, L⟩
  | _, _, i + 1, v, .cons _ t, h => by
    obtain ⟨a, ly, h1, h2, h3⟩ := LyAll.at (i := i) (v := v) t (by simpa using h)
    exact ⟨a, ly, by simpa using h1, h2, h3⟩
theorem LyAll.snoc {K : PySem.W.Frag} {cL : Addr} {H : Hp} {r : Addr} {a : Addr} {ly : Ly} : ∀ {vs : List V} {lys : List Ly}, LyAll K cL H r vs lys → LayerAt K cL H a r ly → LyAll K cL H r (vs ++ [.ref a]) (lys ++ [ly])
  | _, _, .nil, h => .cons ⟨a, rfl, h⟩ .nil
  | _, _, .cons x t, h => .cons x (LyAll.snoc t h)
theorem LyAll.dropLast {K : PySem.W.Frag} {cL : Addr} {H : Hp} {r : Addr} : ∀ {vs : List V} {lys : List Ly}, LyAll K cL H r vs lys → LyAll K cL H r vs.dropLast lys.dropLast
  | _, _, .nil => .nil
  | _, _, .cons _ .nil => .nil
  | _, _, .cons x (.cons y t) => .cons x (LyAll.dropLast (.cons y t))
theorem lySizes_snoc (ls : List Ly) (l : Ly) : lySizes (ls ++ [l]) = lySizes ls + lySize l := by unfold lySizes; rw [List.map_append, List.sum_append]; simp
theorem lySizes_le {ls : List Ly} {l : Ly} (h : l ∈ ls) : lySize l ≤ lySizes ls := by
  unfold lySizes
  induction ls with
  | nil => cases h
  | cons x ls ih =>
    rw [List.map_cons, List.sum_cons]
    rcases List.mem_cons.mp h with e | e
    · subst e; omega
    · have := ih e; omega
theorem lySizes_take (ls : List Ly) (i : Nat) : lySizes (ls.take i) ≤ lySizes ls := by
  have e := List.take_append_drop i ls
  have : lySizes ls = lySizes (ls.take i) + lySizes (ls.drop i) := by
    conv => lhs; rw [← e]
    unfold lySizes
    rw [List.map_append, List.sum_append]
  omega
def spHTexts (K : PySem.W.Frag) (cL : Addr) : Sp := fun vs H Q _ => ∃ (Hs : Hp) (L r : Addr) (xs : List V) (lys : List Ly), vs = [.ref L] ∧ Same Hs H ∧ Hs L = some (.lst xs) ∧ LyAll K cL Hs r xs lys ∧ lySizes lys ≤ 10000 ∧
  ∀ (H' : Hp) (t : Addr) (kv : List (Key × V)) (m : List Tx), Same H H' → H t = none → H' t = some (.dK kv) → DkAll K Hs kv (txD m) → (m.map (·.1)).Nodup → (∀ k, aget m k = den lys k) → m.length ≤ lySizes lys → Q (.ref t) H'
def hF (r g : Addr) (e : Int) : List (Str × V) := [("rules", .ref r), ("grown", .ref g), ("entries", .int e)]
theorem hF_put (r g : Addr) (e e' : Int) : putF "entries" (.int e') (hF r g e) = hF r g e' := by
  unfold hF putF
  rw [if_neg (by decide +kernel)]
  unfold putF
  rw [if_neg (by decide +kernel)]
  unfold putF
  rw [if_pos (by decide +kernel)]
theorem hF_make (r g : Addr) (e : Int) : putF "entries" (.int e) (putF "grown" (.ref g) (putF "rules" (.ref r) [])) = hF r g e := by
  have e1 : putF "rules" (.ref r) [] = [(("rules" : Str), V.ref r)] := rfl
  have e2 : putF "grown" (.ref g) [(("rules" : Str), V.ref r)] = [(("rules" : Str), V.ref r), (("grown" : Str), .ref g)] := by
    unfold putF; rw [if_neg (by decide +kernel)]; rfl
  have e3 : putF "entries" (.int e) [(("rules" : Str), V.ref r), (("grown" : Str), V.ref g)] = hF r g e := by
    unfold putF; rw [if_neg (by decide +kernel)]
    unfold putF; rw [if_neg (by decide +kernel)]; rfl
  rw [e1, e2, e3]
theorem hF_at {r g : Addr} {e : Int} {m : Str} : (hF r g e).lookup m = if m = "rules" then some (.ref r) else if m = "grown" then some (.ref g) else if m = "entries" then some (.int e) else none := by
  unfold hF
  rw [List.lookup_cons, List.lookup_cons, List.lookup_cons]
  by_cases h1 : m = "rules"
  · simp [h1]
  · have b1 : (m == ("rules" : Str)) = false := by simpa using h1
    rw [if_neg h1, b1]
    by_cases h2 : m = "grown"
    · simp [h2]
    · have b2 : (m == ("grown" : Str)) = false := by simpa using h2
      rw [if_neg h2, b2]
      by_cases h3 : m = "entries"
      · simp [h3]
      · have b3 : (m == ("entries" : Str)) = false := by simpa using h3
        rw [if_neg h3, b3]
        rfl
theorem hF_rules (r g : Addr) (e : Int) : (hF r g e).lookup ("rules" : Str) = some (.ref r) := by rw [hF_at, if_pos rfl]
theorem hF_grown (r g : Addr) (e : Int) : (hF r g e).lookup ("grown" : Str) = some (.ref g) := by rw [hF_at, if_neg (by decide +kernel), if_pos rfl]
theorem hF_entries (r g : Addr) (e : Int) : (hF r g e).lookup ("entries" : Str) = some (.int e) := by rw [hF_at, if_neg (by decide +kernel), if_neg (by decide +kernel), if_pos rfl]
theorem hF_no (r g : Addr) (e : Int) {m : Str} (h1 : ¬ m = "rules") (h2 : ¬ m = "grown") (h3 : ¬ m = "entries") : (hF r g e).lookup m = none := by rw [hF_at, if_neg h1, if_neg h2, if_neg h3]
structure Hou (K : PySem.W.Frag) (cH cL : Addr) (H R : Hp) (p g r : Addr) (n : Nat) (mp : Mp) : Prop where
  ne : p ≠ g
  sub : Same R H
  rp : R p = none
  rg : R g = none
  ex : ∃ dx e gs L vs lys, H p = some (.ins cH dx (hF r g e)) ∧ H g = some (.lst (gs ++ [.ref L])) ∧ gs.length ≤ n ∧ R L = some (.lst vs) ∧ LyAll K cL R r vs lys ∧ den lys = mp ∧ lySizes lys ≤ n ∧ lys.length ≤ n
theorem d2_some {p q a : Addr} {H : Hp} {o : HO} (h : d2 p q H a = some o) : H a = some o ∧ a ≠ p ∧ a ≠ q := by
  unfold d2 at h
  obtain ⟨h1, h2⟩ := del_some h
  obtain ⟨h3, h4⟩ := del_some h1
  exact ⟨h3, h4, h2⟩
theorem d2_of {p q a : Addr} {H : Hp} {o : HO} (h : H a = some o) (h1 : a ≠ p) (h2 : a ≠ q) : d2 p q H a = some o := by
  unfold d2; rw [del_ne h2, del_ne h1]; exact h
theorem d2_mono {p q : Addr} {H H' : Hp} (s : Same H H') : Same (d2 p q H) (d2 p q H') := fun a o e => by
  obtain ⟨h1, h2, h3⟩ := d2_some e
  exact d2_of (s _ _ h1) h2 h3
theorem d2_up {p q : Addr} {H H' : Hp} (s : Same (d2 p q H) H') : Same (d2 p q H) (d2 p q H') := fun a o e => by
  obtain ⟨h1, h2, h3⟩ := d2_some e
  exact d2_of (s _ _ e) h2 h3
theorem Hou.mono {K : PySem.W.Frag} {cH cL : Addr} {H H' R : Hp} {p g r : Addr} {n : Nat} {mp : Mp} (s : Same H H') (h : Hou K cH cL H R p g r n mp) : Hou K cH cL H' R p g r n mp := by
  obtain ⟨dx, e, gs, L, vs, lys, h1, h2, h3⟩ := h.ex
  exact ⟨h.ne, Same.trans h.sub s, h.rp, h.rg, dx, e, gs, L, vs, lys, s _ _ h1, s _ _ h2, h3⟩
theorem Hou.ext {K : PySem.W.Frag} {cH cL : Addr} {H R R' : Hp} {p g r : Addr} {n : Nat} {mp : Mp} (s : Same R R') (sub : Same R' H) (rp : R' p = none) (rg : R' g = none) (h : Hou K cH cL H R p g r n mp) : Hou K cH cL H R' p g r n mp := by
  obtain ⟨dx, e, gs, L, vs, lys, h1, h2, h3, h4, h5, h6⟩ := h.ex
  exact ⟨h.ne, sub, rp, rg, dx, e, gs, L, vs, lys, h1, h2, h3, s _ _ h4, h5.mono s, h6⟩
/-- what another house does leaves this one -/
theorem Hou.other {K : PySem.W.Frag} {cH cL : Addr} {H H' R : Hp} {p g r a b : Addr} {n : Nat} {mp : Mp} (s : Same (d2 a b H) H') (npa : p ≠ a) (npb : p ≠ b) (nga : g ≠ a) (ngb : g ≠ b) (ra : R a = none) (rb : R b = none) (h : Hou K cH cL H R p g r n mp) : Hou K cH cL H' R p g r n mp := by
  obtain ⟨dx, e, gs, L, vs, lys, h1, h2, h3⟩ := h.ex
  exact ⟨h.ne, fun x o e => s _ _ (d2_of (h.sub _ _ e) (ne_of_none e ra) (ne_of_none e rb)), h.rp, h.rg, dx, e, gs, L, vs, lys, s _ _ (d2_of h1 npa npb), s _ _ (d2_of h2 nga ngb), h3⟩
theorem joinS {R N H : Hp} (a : Same R H) (b : Same N H) : Same (join R N) H := fun x o e => by
  rcases join_some e with e | ⟨_, e⟩
  · exact a _ _ e
  · exact b _ _ e
theorem join_no {R N : Hp} {a : Addr} (h1 : R a = none) (h2 : N a = none) : join R N a = none := by
  unfold join; rw [h1]; exact h2
/-- one more step of the house, the base as before -/
theorem Hou.base {K : PySem.W.Frag} {cH cL : Addr} {H0 H H' R : Hp} {p g r : Addr} {n : Nat} {mp : Mp} {u v u' v' : HO} (hp0 : H0 p = some u) (hg0 : H0 g = some v) (hp : H p = some u') (hg : H g = some v') (s0 : Same (d2 p g H0) H) (s : Same (d2 p g H) H') (sR : Same R H0) (rp : R p = none) (rg : R g = none)
    (h : Hou K cH cL H' (join (join R (nw H0 H)) (nw H H')) p g r n mp) : Hou K cH cL H' (join R (nw H0 H')) p g r n mp := by
  have s1 : Same (d2 p g H0) (d2 p g H) := d2_up s0
  have sR1 : Same R (d2 p g H0) := fun a o e => d2_of (sR _ _ e) (ne_of_none e rp) (ne_of_none e rg)
  have sR' : Same R H' := Same.trans sR1 (Same.trans s1 s)
  refine h.ext (fun a o e => ?_) (joinS sR' nw_sub) (join_no rp (nw_at hp0)) (join_no rg (nw_at hg0))
  rcases join_some e with e | ⟨e0, e⟩
  · rcases join_some e with e | ⟨e0, e⟩
    · exact join_l _ _ e
    · obtain ⟨e1, e2⟩ := nw_some e
      unfold join
      rw [e0]
      show nw H0 H' a = some o
      rw [nw_none e1]
      exact s _ _ (d2_of e2 (fun z => by rw [z, hp0] at e1; cases e1) (fun z => by rw [z, hg0] at e1; cases e1))
  · obtain ⟨e1, e2⟩ := nw_some e
    have z0 : H0 a = none := by
      cases q : H0 a with
      | none => rfl
      | some w =>
        by_cases ap : a = p
        · rw [ap, hp] at e1; cases e1
        · by_cases ag : a = g
          · rw [ag, hg] at e1; cases e1
          · have := s0 _ _ (d2_of q ap ag)
            rw [e1] at this; cases this
    have zR : R a = none := Same.free sR z0
    unfold join
    rw [zR]
    show nw H0 H' a = some o
    rw [nw_none z0]; exact e2
def spHInit (K : PySem.W.Frag) (cH cL : Addr) : Sp := fun vs H Q _ => ∃ (H0 : Hp) (p dx r : Addr), vs = [.ref p, .ref r] ∧ Same H0 H ∧ H0 p = none ∧ H p = some (.ins cH dx []) ∧
  ∀ (H' : Hp) (g : Addr), Same H0 (d2 p g H') → H0 g = none → (∀ n, Hou K cH cL H' (d2 p g (nw H0 H')) p g r n noMp) → Q .non H'
def spNewest (K : PySem.W.Frag) (cH : Addr) : Sp := fun vs H Q _ => ∃ (p dx r g : Addr) (e : Int) (xs : List V), vs = [.ref p] ∧ H p = some (.ins cH dx (hF r g e)) ∧ H g = some (.lst xs) ∧ Q (.int ((xs.length : Int) - 1)) H
def spLayersAt (K : PySem.W.Frag) (cH : Addr) : Sp := fun vs H Q _ => ∃ (p dx r g : Addr) (e : Int) (gs : List V) (x : V), vs = [.ref p, .int ((gs ++ [x]).length - 1 : Int)] ∧ H p = some (.ins cH dx (hF r g e)) ∧ H g = some (.lst (gs ++ [x])) ∧ gs.length ≤ 100000 ∧ Q x H
section
variable {P : Program} {w : World} {K : PySem.W.Frag} {mg : Str → Option Value} {base : Heap} {cL cM cH cR cB : Addr}
theorem scHTexts : FnScope ["layers", "texts", "layer", "name"] ["layers"] (defScope sHTexts) := ⟨rfl, rfl, rfl, by decide +kernel, rfl, by decide +kernel, by decide +kernel⟩
theorem ok_htexts {f : Addr} {fd : FuncData} (F : Fun K "house_texts" "house_texts" sHTexts f fd) (T : Txt K mg cL cM cH cR)
    (mTexts : Mth P w K mg base cL 1 "texts" ["self"] (spLTexts K cL)) (mGone : Mth P w K mg base cL 1 "gone" ["self"] (spLGone K cL)) :
    FnOk P w K mg base CX0 2 f fd ["layers"] (spHTexts K cL) := by
  refine F.ok scHTexts (fun vs H Q E h => ?_) (fun cdv A outer s H vs Q E hr h => ?_)
  · obtain ⟨Hs, L, r, xs, lys, rfl, _⟩ := h
    rfl
  · obtain ⟨Hs, L, r, xs, lys, rfl, ss, hL, hxs, hsz, k⟩ := h
    have hu := hu_of hr
    have nd := scHTexts.nd
    refine ⟨_, (pss_cons (ps_set (i := 1) nd rfl (.inl rfl) pe_dnewK)
      (pss_cons (ps_for PassesOwn.never rfl (pi_list (pv 0)) (pg_name (i := 2) nd rfl (.inl rfl))
          (pss_cons (ps_for PassesOwn.never rfl (pi_list (pe_mth0 (pv 2) T.lC mGone hr)) (pg_name (i := 3) nd rfl (.inl rfl))
              (pss_one (ps_expr (pe_dpop2 (pv 1) (pv 3) pe_non ⟨rfl, rfl, rfl, rfl⟩))))
          (pss_one (ps_expr (pe_bm PySem.F.plainAttrs_dict PySem.F.slot_dict_update PySem.F.type_dict_update mt_dupd (pv 1) (pa_cons (pe_mth0 (pv 2) T.lC mTexts hr) pa_nil))))))
      (pss_one (ps_ret (pv 1))))), ?_⟩
    intro t ht
    have s1 := same_upd (o := .dK []) ht
    have t1 : (upd H t (.dK [])) t = some (.dK []) := upd_same
    generalize upd H t (.dK []) = H1 at s1 t1 ⊢
    refine ⟨_, rfl, L, rfl, ⟨_, SqL.of (s1 _ _ (ss _ _ hL))⟩, ?_⟩
    refine for_it (walk_list (xs := xs)) (fun i σ H' => ∃ (x2 x3 : Option V) (kv : List (Key × V)) (m : List Tx), σ = [some (.ref L), some (.ref t), x2, x3] ∧ Same H H' ∧ H' t = some (.dK kv) ∧ DkAll K Hs kv (txD m) ∧ (m.map (·.1)).Nodup ∧ (∀ k, aget m k = den (lys.take i) k) ∧ m.length ≤ lySizes (lys.take i))
      ⟨none, none, [], [], rfl, s1, t1, .nil, by simp, fun _ => rfl, Nat.le_refl _⟩ (fun i σ H' _ ⟨_, _, _, _, _, q, _⟩ => SqL.of (q _ _ (ss _ _ hL))) ?_ ?_
    · rintro i x σ H' H2 hi ⟨x2, x3, kv, m, rfl, s2, t2, hk, hnd, hm, hml⟩ ⟨eH, ex⟩
      subst eH
      obtain ⟨a, ly, hly, rfl, La⟩ := hxs.at ex
      obtain ⟨dxl, d, gl, kvl, l1, l2, l3, l4⟩ := La.ex
      have nl : ∀ {m : Str}, ¬ m = "rules" → ¬ m = "standing" → ¬ m = "gone_names" → (layF r d gl).lookup m = none := layF_no r d gl
      have hls := lySizes_le (List.mem_of_getElem? hly)
      have htk := lySizes_take lys i
      have e1 : lys.take (i + 1) = lys.take i ++ [ly] := by
        obtain ⟨hi, e⟩ := List.getElem?_eq_some_iff.mp hly
        rw [List.take_succ_eq_append_getElem hi, e]
      unfold lySize at hls
      -- for name in layer.gone()
      refine ⟨_, rfl, a, dxl, _, rfl, s2 _ _ (ss _ _ l1), nl (by decide +kernel) (by decide +kernel) (by decide +kernel), a, r, ly, rfl, La.mono (Same.trans ss s2), fun l hl => ?_⟩
      have s3 := same_upd (o := .lst (ly.2.map V.str)) hl
      have nlt : l ≠ t := (ne_of_none t2 hl).symm
      have l3' : (upd H2 l (.lst (ly.2.map V.str))) l = some (.lst (ly.2.map V.str)) := upd_same
      have t3 := s3 _ _ t2
      have s03 := Same.trans s2 s3
      generalize upd H2 l (.lst (ly.2.map V.str)) = H3 at s3 l3' t3 s03 ⊢
      have hl0 : (del H3 t) l = some (.lst (ly.2.map V.str)) := by rw [del_ne nlt]; exact l3'
      have s0t : Same H (del H3 t) := same_del_of s03 ht
      refine ⟨l, rfl, ⟨_, SqL.of l3'⟩, ?_⟩
      refine for_it (walk_list (xs := ly.2.map V.str)) (fun j σ H' => ∃ (x3 : Option V) (kv : List (Key × V)), σ = [some (.ref L), some (.ref t), some (.ref a), x3] ∧ Same (del H3 t) H' ∧ H' t = some (.dK kv) ∧ DkAll K Hs kv (txD ((ly.2.take j).foldl dropA m)))
        ⟨x3, kv, rfl, same_del, t3, hk⟩ (fun i σ H' _ ⟨_, _, _, q, _⟩ => SqL.of (q _ _ hl0)) ?_ ?_
      · rintro j x σ H' H4 hj ⟨x3, kv, rfl, sH, tH, dH⟩ ⟨eH, ex⟩
        subst eH
        rw [List.getElem?_map] at ex
        obtain ⟨z, hz1, rfl⟩ : ∃ z, ly.2[j]? = some z ∧ x = V.str z := by
          cases e : ly.2[j]? with
          | none => rw [e] at ex; cases ex
          | some z => rw [e] at ex; exact ⟨z, rfl, (Option.some.inj ex).symm⟩
        have dH2 : DkAll K Hs (dropK kv (.inr z)) (txD ((ly.2.take (j + 1)).foldl dropA m)) := by
          rw [foldl_take_succ hz1]
          unfold txD
          rw [← dropA_map partsD]
          exact dH.drop z
        refine ⟨_, rfl, t, rfl, .inl ⟨_, .inl tH⟩, _, rfl, kv, .inr z, tH, rfl, fun v hv => ?_, fun hv => ?_⟩
        · exact ⟨_, _, rfl, same_wr sH del_same, upd_same, dH2⟩
        · exact ⟨_, _, rfl, sH, by rw [dropK_none hv]; exact tH, dH2⟩
      · rintro σ H4 ⟨x3, kv, rfl, sH, t4, d4⟩
        rw [show (ly.2.map V.str).length = ly.2.length by simp, List.take_length] at d4
        have s04 := Same.trans s0t sH
        -- texts.update(layer.texts())
        refine ⟨_, rfl, .inr (.inr (.inl ⟨rfl, .inl ⟨_, t4⟩⟩)), ?_⟩
        refine ⟨_, rfl, a, dxl, _, rfl, s04 _ _ (ss _ _ l1), nl (by decide +kernel) (by decide +kernel) (by decide +kernel), Hs, a, r, ly, rfl, Same.trans ss s04, La, fun u kvt hu1 hku => ?_⟩
        have nut : u ≠ t := (ne_of_none t4 hu1).symm
        have s5 := same_upd (o := .dK kvt) hu1
        have e2 : kv.length = ((ly.2.foldl dropA m)).length := by rw [d4.len]; unfold txD; rw [List.length_map]
        have e3 : kvt.length = ly.1.length := by rw [hku.len]; unfold txD; rw [List.length_map]
        have h1 := drop_all_len ly.2 m
        refine ⟨t, u, kv, kvt, rfl, rfl, nut.symm, s5 _ _ t4, .inl upd_same, small_sz' (by omega), ?_⟩
        refine ⟨_, _, _, ly.1.foldl (fun m t => putA m t.1 t.2) (ly.2.foldl dropA m), rfl, same_wr (Same.trans s04 s5) ht, upd_same, merge_all d4 hku, put_all_nd _ _ (drop_all_nd _ _ hnd), fun k => ?_, ?_⟩
        · rw [e1, den_snoc, put_all _ _ _ La.nd, drop_all, hm]
          unfold ap
          rfl
        · rw [e1, lySizes_snoc]
          unfold lySize
          have h2 := put_all_len ly.1 (ly.2.foldl dropA m)
          refine Nat.le_trans h2 ?_
          omega
    · rintro σ H' ⟨x2, x3, kv, m, rfl, s2, t2, hk, hnd, hm, hml⟩
      have el : xs.length = lys.length := hxs.length
      rw [el, List.take_length] at hm hml
      exact ⟨_, rfl, k H' t kv m s2 ht t2 hk hnd hm hml⟩
theorem scHInit : FnScope ["self", "rulebook"] ["self", "rulebook"] (defScope sHInit) := ⟨rfl, rfl, rfl, by decide +kernel, rfl, by decide +kernel, by decide +kernel⟩
theorem ok_hinit {f : Addr} {fd : FuncData} (F : Fun K "__init__" "House.__init__" sHInit f fd) (T : Txt K mg cL cM cH cR) :
    FnOk P w K mg base CX0 1 f fd ["self", "rulebook"] (spHInit K cH cL) := by
  refine F.ok scHInit (fun vs H Q E h => ?_) (fun cdv A outer s H vs Q E hr h => ?_)
  · obtain ⟨H0, p, dx, r, rfl, _⟩ := h
    rfl
  · obtain ⟨H0, p, dx, r, rfl, s0, np, hp, k⟩ := h
    refine ⟨_, (pss_cons (ps_fld (pv 0) (pv 1) rfl)
      (pss_cons (ps_fld (pv 0) (pe_lst (pa_cons (pe_lst pa_nil) pa_nil)) rfl)
      (pss_one (ps_fld (pv 0) pe_int rfl)))), ?_⟩
    refine ⟨_, rfl, _, rfl, p, cH, dx, _, rfl, hp, T.hC, T.h1, (by show 0 < 1000; decide), ?_⟩
    have p1 : (upd H p (.ins cH dx (putF "rules" (.ref r) []))) p = some (.ins cH dx (putF "rules" (.ref r) [])) := upd_same
    have s1 : Same H0 (upd H p (.ins cH dx (putF "rules" (.ref r) []))) := same_wr s0 np
    generalize upd H p (.ins cH dx (putF "rules" (.ref r) [])) = H1 at p1 s1 ⊢
    refine ⟨by show 0 ≤ sizeLine; decide, fun L hL => ?_⟩
    have nLp : L ≠ p := (ne_of_none p1 hL).symm
    have p2 := same_upd (o := .lst []) hL _ _ p1
    have L2 : (upd H1 L (.lst [])) L = some (.lst []) := upd_same
    have s2 := Same.trans s1 (same_upd (o := .lst []) hL)
    have zL : H0 L = none := Same.free s1 hL
    generalize upd H1 L (.lst []) = H2 at p2 L2 s2 ⊢
    refine ⟨by show 1 ≤ sizeLine; decide, fun g hg => ?_⟩
    have ngp : g ≠ p := (ne_of_none p2 hg).symm
    have nLg : L ≠ g := ne_of_none L2 hg
    have p3 := same_upd (o := .lst [.ref L]) hg _ _ p2
    have L3 := same_upd (o := .lst [.ref L]) hg _ _ L2
    have g3 : (upd H2 g (.lst [.ref L])) g = some (.lst [.ref L]) := upd_same
    have s3 := Same.trans s2 (same_upd (o := .lst [.ref L]) hg)
    have zg : H0 g = none := Same.free s2 hg
    generalize upd H2 g (.lst [.ref L]) = H3 at p3 L3 g3 s3 ⊢
    refine ⟨_, rfl, p, cH, dx, _, rfl, p3, T.hC, T.h2, Nat.lt_of_le_of_lt (putF_len _ _ _) (by decide), ?_⟩
    refine ⟨_, rfl, p, cH, dx, _, rfl, upd_same, T.hC, T.h3, Nat.lt_of_le_of_lt (Nat.le_trans (putF_len _ _ _) (Nat.succ_le_succ (putF_len _ _ _))) (by decide), ?_⟩
    rw [upd_upd, hF_make]
    have sf : Same H0 (upd H3 p (.ins cH dx (hF r g 0))) := same_wr s3 np
    refine k _ g (d2_in sf np zg) zg fun n => ⟨ngp.symm, Same.trans d2_sub nw_sub, d2_at1, d2_at2, dx, 0, [], L, [], [], upd_same, by rw [upd_ne ngp]; exact g3, Nat.zero_le _, d2_of (by rw [nw_none zL, upd_ne nLp]; exact L3) nLp nLg, .nil, rfl, Nat.zero_le _, Nat.zero_le _⟩
theorem scHNewest : FnScope ["self"] ["self"] (defScope sHNewest) := ⟨rfl, rfl, rfl, by decide +kernel, rfl, by decide +kernel, by decide +kernel⟩
theorem ok_hnewest {f : Addr} {fd : FuncData} (F : Fun K "newest" "House.newest" sHNewest f fd) (T : Txt K mg cL cM cH cR) :
    FnOk P w K mg base CX0 1 f fd ["self"] (spNewest K cH) := by
  refine F.ok scHNewest (fun vs H Q E h => ?_) (fun cdv A outer s H vs Q E hr h => ?_)
  · obtain ⟨p, dx, r, g, e, xs, rfl, _⟩ := h
    rfl
  · obtain ⟨p, dx, r, g, e, xs, rfl, hp, hg, k⟩ := h
    refine ⟨_, (pss_one (ps_ret (pe_op op_sub (pe_callB (call_lenK K) (by rfl) T.len PySem.boot_len (pa_cons (pe_fld (pv 0) rfl) pa_nil)) pe_int))), ?_⟩
    refine ⟨_, rfl, p, cH, dx, _, _, rfl, hp, T.hC, T.h2, hF_grown _ _ _, g, _, rfl, .inl (SqL.of hg), _, _, rfl, rfl, k⟩
theorem scHLayers : FnScope ["self", "number"] ["self", "number"] (defScope sHLayers) := ⟨rfl, rfl, rfl, by decide +kernel, rfl, by decide +kernel, by decide +kernel⟩
theorem ok_hlayers {f : Addr} {fd : FuncData} (F : Fun K "layers_at" "House.layers_at" sHLayers f fd) (T : Txt K mg cL cM cH cR) (mNewest : Mth P w K mg base cH 1 "newest" ["self"] (spNewest K cH)) :
    FnOk P w K mg base CX0 2 f fd ["self", "number"] (spLayersAt K cH) := by
  refine F.ok scHLayers (fun vs H Q E h => ?_) (fun cdv A outer s H vs Q E hr h => ?_)
  · obtain ⟨p, dx, r, g, e, gs, x, rfl, _⟩ := h
    rfl
  · obtain ⟨p, dx, r, g, e, gs, x, rfl, hp, hg, hl, k⟩ := h
    have hu := hu_of hr
    refine ⟨_, (pss_cons (ps_if (PW.pt (pw_or (pt_cmpR op_lt (pv 1) pe_int (nomark _)) (pw_or1 (pt_cmpR op_gt (pv 1) (pe_mth0 (pv 0) T.hC mNewest hr) (nomark _))))) (pss_one ps_never) pss_nil)
      (pss_one (ps_ret (pe_ix ix_list (pe_fld (pv 0) rfl) (pv 1) (fun _ _ => rfl))))), ?_⟩
    have hlen : (gs ++ [x]).length = gs.length + 1 := by simp
    refine ⟨_, rfl, _, _, rfl, rfl, _, rfl, ?_⟩
    refine ifdF (by rw [hlen]; omega) ?_
    refine ⟨_, rfl, _, rfl, p, dx, _, rfl, hp, hF_no _ _ _ (by decide +kernel) (by decide +kernel) (by decide +kernel), p, dx, r, g, e, gs ++ [x], rfl, hp, hg, ?_⟩
    refine ⟨_, _, rfl, rfl, _, rfl, ?_⟩
    refine ifdF (by omega) ?_
    refine ⟨_, rfl, p, cH, dx, _, _, rfl, hp, T.hC, T.h2, hF_grown _ _ _, _, rfl, g, gs ++ [x], _, x, rfl, rfl, SqL.of hg, ?_, k⟩
    exact at_last gs x
end
end KR
set_option maxHeartbeats 1000000
namespace KR
open PySem PySem.Spec PyProof.Rows L2
def d3 (p g l : Addr) (H : Hp) : Hp := del (d2 p g H) l
theorem d3_some {p q l a : Addr} {H : Hp} {o : HO} (h : d3 p q l H a = some o) : H a = some o ∧ a ≠ p ∧ a ≠ q ∧ a ≠ l := by
  obtain ⟨h1, h2⟩ := del_some h
  obtain ⟨h3, h4, h5⟩ := d2_some h1
  exact ⟨h3, h4, h5, h2⟩
theorem d3_of {p q l a : Addr} {H : Hp} {o : HO} (h : H a = some o) (h1 : a ≠ p) (h2 : a ≠ q) (h3 : a ≠ l) : d3 p q l H a = some o := by
  unfold d3; rw [del_ne h3]; exact d2_of h h1 h2
/-- a region with what is new behind H0, without l -/
def rl (R H0 : Hp) (l : Addr) (H : Hp) : Hp := join R (del (nw H0 H) l)
theorem rl_sub {R H0 H : Hp} {l : Addr} (h : Same R H) : Same (rl R H0 l H) H := joinS h (Same.trans same_del nw_sub)
theorem rl_mono {R H0 H H' : Hp} {l : Addr} (s : Same H H') : Same (rl R H0 l H) (rl R H0 l H') := join_mono (same_dels (nw_same s))
theorem rl_upl {R H0 H : Hp} {l : Addr} {o : HO} : Same (rl R H0 l H) (rl R H0 l (upd H l o)) := join_mono fun a u e => by
  obtain ⟨e1, e2⟩ := del_some e
  obtain ⟨e3, e4⟩ := nw_some e1
  rw [del_ne e2, nw_none e3, upd_ne e2]; exact e4
theorem rl_upo {R H0 H : Hp} {l b : Addr} {o w : HO} (hb : H0 b = some w) : Same (rl R H0 l H) (rl R H0 l (upd H b o)) := join_mono (same_dels fun a u e => by
  obtain ⟨e3, e4⟩ := nw_some e
  rw [nw_none e3, upd_ne (fun z => by rw [z, hb] at e3; cases e3)]; exact e4)
theorem join_rl {R H0 H H' : Hp} {l : Addr} {w : HO} (sR : Same R H) (dm : ∀ a o, H0 a = some o → ∃ u, H a = some u) (hl : H l = some w) (s : Same H H') : Same (join (rl R H0 l H) (nw H H')) (rl R H0 l H') := fun a o e => by
  rcases join_some e with e | ⟨_, e⟩
  · exact rl_mono s _ _ e
  · obtain ⟨e1, e2⟩ := nw_some e
    have z0 : H0 a = none := by
      cases q : H0 a with
      | none => rfl
      | some x =>
        obtain ⟨u, hu⟩ := dm _ _ q
        rw [e1] at hu; cases hu
    unfold rl join
    rw [Same.free sR e1]
    show del (nw H0 H') l a = some o
    rw [del_ne (fun z => by rw [z, hl] at e1; cases e1), nw_none z0]; exact e2
structure LI (K : PySem.W.Frag) (cH cL : Addr) (H0 R : Hp) (p g l r dx : Addr) (gs : List V) (n : Nat) (mp : Mp) (H : Hp) (e : Int) (vs : List V) (lys : List Ly) : Prop where
  old : Same (d2 p g H0) H
  dm : ∀ a o, H0 a = some o → ∃ u, H a = some u
  sR : Same R H
  hp : H p = some (.ins cH dx (hF r g e))
  hg : H g = some (.lst gs)
  hl : H l = some (.lst vs)
  la : LyAll K cL (rl R H0 l H) r vs lys
  de : den lys = mp
  sz : lySizes lys ≤ n
theorem LI.mono {K : PySem.W.Frag} {cH cL : Addr} {H0 R : Hp} {p g l r dx : Addr} {gs : List V} {n : Nat} {mp : Mp} {H H' : Hp} {e : Int} {vs : List V} {lys : List Ly} (h : LI K cH cL H0 R p g l r dx gs n mp H e vs lys) (s : Same H H') : LI K cH cL H0 R p g l r dx gs n mp H' e vs lys :=
  ⟨Same.trans h.old s, fun a o e => by obtain ⟨u, hu⟩ := h.dm a o e; exact ⟨u, s _ _ hu⟩, Same.trans h.sR s, s _ _ h.hp, s _ _ h.hg, s _ _ h.hl, h.la.mono (rl_mono s), h.de, h.sz⟩
theorem dm_upd {H0 H : Hp} {b : Addr} {o : HO} (h : ∀ a o, H0 a = some o → ∃ u, H a = some u) : ∀ a w, H0 a = some w → ∃ u, (upd H b o) a = some u := fun a w e => by
  by_cases q : a = b
  · exact ⟨_, by rw [q, upd_same]⟩
  · rw [upd_ne q]; exact h a w e
theorem LyAll.two {K : PySem.W.Frag} {cL : Addr} {H : Hp} {r : Addr} : ∀ {vs : List V} {lys : List Ly}, LyAll K cL H r vs lys → 2 ≤ lys.length → ∃ v0 l0 a b lo up, vs = v0 ++ [.ref a, .ref b] ∧ lys = l0 ++ [lo, up] ∧ LyAll K cL H r v0 l0 ∧ LayerAt K cL H a r lo ∧ LayerAt K cL H b r up
  | _, _, .cons ⟨a, e1, L1⟩ (.cons ⟨b, e2, L2⟩ .nil), _ => ⟨[], [], a, b, _, _, by rw [e1, e2]; rfl, rfl, .nil, L1, L2⟩
  | _, _, .cons x (.cons y (.cons z t)), _ => by
    obtain ⟨v0, l0, a, b, lo, up, h1, h2, h3, h4, h5⟩ := LyAll.two (.cons y (.cons z t)) (by simp)
    exact ⟨_ :: v0, _ :: l0, a, b, lo, up, by rw [h1]; rfl, by rw [h2]; rfl, .cons x h3, h4, h5⟩
  | _, _, .nil, h => absurd h (by simp)
  | _, _, .cons _ .nil, h => absurd h (by simp)
theorem lySizes_two (l0 : List Ly) (lo up : Ly) : lySizes (l0 ++ [lo, up]) = lySizes l0 + lySize lo + lySize up := by
  rw [show l0 ++ [lo, up] = (l0 ++ [lo]) ++ [up] by simp, lySizes_snoc, lySizes_snoc]
theorem den_two (l0 : List Ly) (lo up : Ly) : den (l0 ++ [lo, up]) = ap (ap (den l0) lo) up := by
  rw [show l0 ++ [lo, up] = (l0 ++ [lo]) ++ [up] by simp, den_snoc, den_snoc]
theorem at_m1 {α : Type} (v0 : List α) (x y : α) : atI (v0 ++ [x, y]) (-1) = some y := at_neg _ 1 y (by decide) (by simp) (by simp)
theorem at_m2 {α : Type} (v0 : List α) (x y : α) : atI (v0 ++ [x, y]) (-2) = some x := at_neg _ 2 x (by decide) (by simp) (by simp)
theorem drop_two {α : Type} (v0 : List α) (x y : α) : (v0 ++ [x, y]).dropLast = v0 ++ [x] := by
  rw [show v0 ++ [x, y] = (v0 ++ [x]) ++ [y] by simp, List.dropLast_concat]
theorem last_two {α : Type} (v0 : List α) (x y : α) : (v0 ++ [x, y])[(v0 ++ [x, y]).length - 1]? = some y := by simp
theorem last_one {α : Type} (v0 : List α) (x : α) : (v0 ++ [x])[(v0 ++ [x]).length - 1]? = some x := by simp
theorem lay_obj {K : PySem.W.Frag} {cL : Addr} {H : Hp} {a r : Addr} {ly : Ly} (L : LayerAt K cL H a r ly) {m : Str} (h1 : ¬ m = "rules") (h2 : ¬ m = "standing") (h3 : ¬ m = "gone_names") : ∃ dx fs, H a = some (.ins cL dx fs) ∧ fs.lookup m = none := by
  obtain ⟨dx, d, g, kv, h, _⟩ := L.ex
  exact ⟨dx, _, h, layF_no r d g h1 h2 h3⟩
def spChanged (K : PySem.W.Frag) (cH cL : Addr) : Sp := fun vs H Q _ => ∃ (R : Hp) (p g r t q : Addr) (n : Nat) (mp : Mp) (tx : List Tx) (gn : List Str) (kv : List (Key × V)), vs = [.ref p, .ref t, .ref q] ∧ Hou K cH cL H R p g r n mp ∧ H t = some (.dK kv) ∧ DkAll K R kv (txD tx) ∧ H q = some (.lst (gn.map V.str)) ∧
  (tx.map (·.1)).Nodup ∧ tx.length + gn.length = 1 ∧ n ≤ 2000 ∧ ∀ (H' : Hp) (i : Int), Same (d2 p g H) H' → Hou K cH cL H' (join R (nw H H')) p g r (n + 1) (ap mp (tx, ssort gn)) → Q (.int i) H'
section
variable {P : Program} {w : World} {K : PySem.W.Frag} {mg : Str → Option Value} {base : Heap} {cL cM cH cR cB : Addr}
theorem scChanged : FnScope ["self", "texts", "gone", "layers", "upper", "lower", "made"] ["self", "texts", "gone"] (defScope sHChanged) := ⟨rfl, rfl, rfl, by decide +kernel, rfl, by decide +kernel, by decide +kernel⟩
theorem ok_changed {f : Addr} {fd : FuncData} (F : Fun K "changed" "House.changed" sHChanged f fd) (T : Txt K mg cL cM cH cR)
    (cLayer : Mkc P w K mg base cL 1 "Layer" ["self", "rulebook", "texts", "gone"] (spLInit K cL)) (mNames : Mth P w K mg base cL 1 "names" ["self"] (spLNames K cL))
    (cPour : Cal P w K mg base 3 "poured" ["lower", "upper"] (spPour K cL)) (cLow : Cal P w K mg base 3 "lowest" ["layer"] (spLow K cL))
    (mNewest : Mth P w K mg base cH 1 "newest" ["self"] (spNewest K cH)) :
    FnOk P w K mg base CX0 4 f fd ["self", "texts", "gone"] (spChanged K cH cL) := by
  refine F.ok scChanged (fun vs H Q E h => ?_) (fun cdv A outer s H vs Q E hr h => ?_)
  · obtain ⟨R, p, g, r, t, q, n, mp, tx, gn, kv, rfl, _⟩ := h
    rfl
  · obtain ⟨R, p, g, r, t, q, n, mp, tx, gn, kv, rfl, Ho, ht, hkv, hq, hnd, h1, hn, k⟩ := h
    have hu := hu_of hr
    have hu2 := Nat.lt_of_succ_lt hu
    have nd := scChanged.nd
    obtain ⟨dx, e, gs, L, vs, lys, hp, hg, hgs, hL, hla, hde, hsz, hcnt⟩ := Ho.ex
    have npg := Ho.ne
    have hRH := Ho.sub
    have hRp := Ho.rp
    have hRg := Ho.rg
    have sRd : Same R (d2 p g H) := fun a o e => d2_of (hRH _ _ e) (ne_of_none e hRp) (ne_of_none e hRg)
    refine ⟨_, (pss_cons (ps_set (i := 3) nd rfl (.inl rfl) (pe_callTy (call_listK K) (by rfl) T.list (by decide +kernel) (pa_cons (pe_ix ix_list (pe_fld (pv 0) rfl) (pe_un un_neg pe_int) (fun _ _ => rfl)) pa_nil)))
      (pss_cons (ps_expr (pe_bm PySem.F.plainAttrs_list PySem.F.slot_list_append PySem.F.type_list_append mt_append (pv 3) (pa_cons (pe_mkc cLayer (hr.mono (by decide)) (pa_cons (pe_fld (pv 0) rfl) (pa_cons (pv 1) (pa_cons (pv 2) pa_nil)))) pa_nil)))
      (pss_cons (ps_while PassesOwn.never (PW.pt (pw_and (pt_cmpR op_gt (pe_callB (call_lenK K) (by rfl) T.len PySem.boot_len (pa_cons (pv 3) pa_nil)) pe_int (nomark _)) (pw_and1 (pt_cmpR op_gt (pe_op op_mul pe_int (pe_callB (call_lenK K) (by rfl) T.len PySem.boot_len (pa_cons (pe_mth0 (pe_ix ix_list (pv 3) (pe_un un_neg pe_int) (fun _ _ => rfl)) T.lC mNames (hr.mono (by decide))) pa_nil))) (pe_callB (call_lenK K) (by rfl) T.len PySem.boot_len (pa_cons (pe_mth0 (pe_ix ix_list (pv 3) (pe_un un_neg pe_int) (fun _ _ => rfl)) T.lC mNames (hr.mono (by decide))) pa_nil)) (nomark _))))) (pss_cons (ps_set (i := 4) nd rfl (.inl rfl) (pe_bm0 PySem.F.plainAttrs_list PySem.F.slot_list_pop PySem.F.type_list_pop mt_pop (pv 3)))
          (pss_cons (ps_set (i := 5) nd rfl (.inl rfl) (pe_bm0 PySem.F.plainAttrs_list PySem.F.slot_list_pop PySem.F.type_list_pop mt_pop (pv 3)))
          (pss_cons (ps_fldaug (pv 0) (pe_op op_add (pe_callB (call_lenK K) (by rfl) T.len PySem.boot_len (pa_cons (pe_mth0 (pv 4) T.lC mNames (hr.mono (by decide))) pa_nil)) (pe_callB (call_lenK K) (by rfl) T.len PySem.boot_len (pa_cons (pe_mth0 (pv 5) T.lC mNames (hr.mono (by decide))) pa_nil))) in_add)
          (pss_cons (ps_set (i := 6) nd rfl (.inl rfl) (pe_cal cPour hr (pa_cons (pv 5) (pa_cons (pv 4) pa_nil))))
          (pss_cons (ps_if (pt_cmpR (op_eqE hu2) (pv 3) (pe_lst pa_nil) (nomark _)) (pss_one (ps_set (i := 6) nd rfl (.inl rfl) (pe_cal cLow hr (pa_cons (pv 6) pa_nil)))) pss_nil)
          (pss_one (ps_if (pt_cmpR (op_neE hu2) (pe_mth0 (pv 6) T.lC mNames (hr.mono (by decide))) (pe_lst pa_nil) (nomark _)) (pss_one (ps_expr (pe_bm PySem.F.plainAttrs_list PySem.F.slot_list_append PySem.F.type_list_append mt_append (pv 3) (pa_cons (pv 6) pa_nil)))) pss_nil))))))))
      (pss_cons (ps_expr (pe_bm PySem.F.plainAttrs_list PySem.F.slot_list_append PySem.F.type_list_append mt_append (pe_fld (pv 0) rfl) (pa_cons (pv 3) pa_nil)))
      (pss_one (ps_ret (pe_mth0 (pv 0) T.hC mNewest (hr.mono (by decide))))))))), ?_⟩
    -- layers = list(self.grown[-1])
    refine ⟨_, rfl, p, cH, dx, _, _, rfl, hp, T.hC, T.h2, hF_grown _ _ _, ?_⟩
    refine ⟨1, rfl, ?_⟩
    refine ⟨g, gs ++ [.ref L], -1, .ref L, rfl, rfl, SqL.of hg, at_neg1 _ _, ?_⟩
    refine ⟨L, vs, rfl, SqL.of (hRH _ _ hL), fun l hl => ?_⟩
    have nlp : p ≠ l := ne_of_none hp hl
    have nlg : g ≠ l := ne_of_none hg hl
    have s1 := same_upd (o := .lst vs) hl
    have l1 : (upd H l (.lst vs)) l = some (.lst vs) := upd_same
    generalize upd H l (.lst vs) = H1 at s1 l1 ⊢
    -- layers.append(Layer(...))
    refine ⟨_, rfl, .inl ⟨rfl, _, SqL.of l1⟩, ?_⟩
    refine ⟨_, rfl, p, cH, dx, _, _, rfl, s1 _ _ hp, T.hC, T.h1, hF_rules _ _ _, _, rfl, _, rfl, ?_⟩
    intro x dx2 nx ndx nex
    have sm : Same H1 (upd (upd H1 dx2 (.own x)) x (.ins cL dx2 [])) := fun b o e => by
      rw [upd_ne (ne_of_none e nx), upd_ne (ne_of_none e ndx)]
      exact e
    refine ⟨R, H1, x, dx2, r, t, q, tx, gn, kv, rfl, Same.trans hRH s1, sm, nx, upd_same, sm _ _ (s1 _ _ ht), ne_of_none (s1 _ _ ht) nx, hkv, SqL.of (sm _ _ (s1 _ _ hq)), ne_of_none (s1 _ _ hq) nx, hnd, fun H2 kp Lx => ⟨rfl, ?_⟩⟩
    have s2 : Same H1 H2 := fun a o e => kp a o (sm _ _ e) (ne_of_none e nx)
    have s02 := Same.trans s1 s2
    have l2 := s2 _ _ l1
    have Lx2 : LayerAt K cL (rl R H l H2) x r (tx, ssort gn) := Lx.mono (join_mono (nw_in s1 l1))
    have hvl : vs.length = lys.length := hla.length
    refine ⟨l, vs, _, rfl, rfl, l2, small_sz (by omega), ?_⟩
    have I3 : LI K cH cL H R p g l r dx (gs ++ [.ref L]) (n + 1) (ap mp (tx, ssort gn)) (upd H2 l (.lst (vs ++ [.ref x]))) e (vs ++ [.ref x]) (lys ++ [(tx, ssort gn)]) := by
      refine ⟨fun a o h => ?_, dm_upd fun a o e => ⟨o, s02 _ _ e⟩, fun a o e => ?_, by rw [upd_ne nlp]; exact s02 _ _ hp, by rw [upd_ne nlg]; exact s02 _ _ hg, upd_same, ?_, by rw [den_snoc, hde], ?_⟩
      · obtain ⟨h1, h2, h3⟩ := d2_some h
        rw [upd_ne (ne_of_none h1 hl)]; exact s02 _ _ h1
      · rw [upd_ne (ne_of_none (hRH _ _ e) hl)]; exact s02 _ _ (hRH _ _ e)
      · exact LyAll.snoc (hla.mono fun a o h => join_l _ _ h) (Lx2.mono rl_upl)
      · rw [lySizes_snoc]
        unfold lySize
        dsimp only
        rw [(ssort_perm gn).length_eq]
        omega
    have hcnt3 : (lys ++ [(tx, ssort gn)]).length ≤ n + 1 := by rw [List.length_append]; simpa using hcnt
    generalize upd H2 l (.lst (vs ++ [.ref x])) = H3 at I3 ⊢
    generalize vs ++ [.ref x] = vs3 at I3
    generalize lys ++ [(tx, ssort gn)] = lys3 at I3 hcnt3
    clear Lx2 Lx kp sm nx ndx nex
    -- the end
    have fin : ∀ (H4 : Hp) (e4 : Int) (vs4 : List V) (lys4 : List Ly), LI K cH cL H R p g l r dx (gs ++ [.ref L]) (n + 1) (ap mp (tx, ssort gn)) H4 e4 vs4 lys4 → lys4.length ≤ n + 1 → ∀ i, Q (.int i) (upd H4 g (.lst (gs ++ [.ref L] ++ [.ref l]))) := by
      intro H4 e4 vs4 lys4 I hc i
      have sRl : Same R (upd H4 g (.lst (gs ++ [.ref L] ++ [.ref l]))) := fun a o e => by rw [upd_ne (ne_of_none e hRg)]; exact I.sR _ _ e
      have lN : (join R (nw H (upd H4 g (.lst (gs ++ [.ref L] ++ [.ref l]))))) l = some (.lst vs4) := in_new hRH hl (by rw [upd_ne nlg.symm]; exact I.hl)
      refine k _ i (fun a o h => ?_) ⟨npg, joinS sRl nw_sub, join_no hRp (nw_at hp), join_no hRg (nw_at hg), dx, e4, gs ++ [.ref L], l, vs4, lys4, by rw [upd_ne npg]; exact I.hp, upd_same, by rw [List.length_append]; exact Nat.succ_le_succ hgs, lN, I.la.mono (join_mono fun a o h => ?_), I.de, I.sz, hc⟩
      · obtain ⟨h1, h2, h3⟩ := d2_some h
        rw [upd_ne h3]; exact I.old _ _ h
      · obtain ⟨h1, h2⟩ := del_some h
        obtain ⟨h3, h4⟩ := nw_some h1
        rw [nw_none h3, upd_ne (fun z => by rw [z, hg] at h3; cases h3)]; exact h4
    -- while
    refine ⟨fun m σ H' => ∃ (x4 x5 x6 : Option V) (e' : Int) (vs' : List V) (lys' : List Ly), σ = [some (.ref p), some (.ref t), some (.ref q), some (.ref l), x4, x5, x6] ∧ LI K cH cL H R p g l r dx (gs ++ [.ref L]) (n + 1) (ap mp (tx, ssort gn)) H' e' vs' lys' ∧ lys'.length ≤ n + 1 ∧ m = lys'.length,
      ⟨_, none, none, none, e, vs3, lys3, rfl, I3, hcnt3, rfl⟩, ?_⟩
    clear I3 hcnt3
    rintro m σ H4 ⟨x4, x5, x6, e4, vs4, lys4, rfl, I, hc, rfl⟩
    have hlen := I.la.length
    -- what follows the loop
    refine ⟨_, rfl, l, vs4, rfl, .inl (SqL.of I.hl), _, _, rfl, rfl, _, rfl, ?_⟩
    by_cases h2l : 2 ≤ lys4.length
    · obtain ⟨v0, l0, a, b, lo, up, ev, el, La0, Llo, Lup⟩ := I.la.two h2l
      have hll := La0.length
      have hnu := Lup.nd
      have hds := I.de
      have hss := I.sz
      rw [el, den_two] at hds
      rw [el, lySizes_two] at hss
      have hl2 : lys4.length = l0.length + 2 := by rw [el]; simp
      refine ifdT (by omega) ?_
      subst ev
      obtain ⟨dxb, fsb, ob, nob⟩ := lay_obj Lup (m := "names") (by decide +kernel) (by decide +kernel) (by decide +kernel)
      obtain ⟨dxa, fsa, oa, noa⟩ := lay_obj Llo (m := "names") (by decide +kernel) (by decide +kernel) (by decide +kernel)
      refine ⟨_, rfl, 1, rfl, ?_⟩
      refine ⟨l, _, -1, .ref b, rfl, rfl, SqL.of I.hl, at_m1 _ _ _, ?_⟩
      refine ⟨b, dxb, fsb, rfl, (rl_sub I.sR) _ _ ob, nob, b, r, up, rfl, Lup.mono (rl_sub I.sR), by omega, fun H5 q5 xs5 s5 q5' e5 => ?_⟩
      refine ⟨q5, xs5, rfl, .inl (SqL.of q5'), ?_⟩
      refine ⟨2, _, rfl, rfl, .inl ⟨by decide, by decide⟩, ?_⟩
      have I5 := I.mono s5
      refine ⟨_, rfl, 2, rfl, ?_⟩
      refine ⟨l, _, -2, .ref a, rfl, rfl, SqL.of I5.hl, at_m2 _ _ _, ?_⟩
      refine ⟨a, dxa, fsa, rfl, s5 _ _ ((rl_sub I.sR) _ _ oa), noa, a, r, lo, rfl, Llo.mono (Same.trans (rl_sub I.sR) s5), by omega, fun H6 q6 xs6 s6 q6' e6 => ?_⟩
      refine ⟨q6, xs6, rfl, .inl (SqL.of q6'), ?_⟩
      refine ⟨_, _, rfl, rfl, _, rfl, ?_⟩
      have I6 := I5.mono s6
      clear I5 I
      have s46 := Same.trans s5 s6
      have Llo6 := Llo.mono (rl_mono (R := R) (H0 := H) (l := l) s46)
      have Lup6 := Lup.mono (rl_mono (R := R) (H0 := H) (l := l) s46)
      have La6 := La0.mono (rl_mono (R := R) (H0 := H) (l := l) s46)
      clear Llo Lup La0
      by_cases hbig : (xs6.length : Int) < 2 * (xs5.length : Nat)
      · refine ifdT hbig ?_
        -- the body
        refine ⟨fun σ H' => ∃ (x4 x5 x6 : Option V) (e' : Int) (vs' : List V) (lys' : List Ly), σ = [some (.ref p), some (.ref t), some (.ref q), some (.ref l), x4, x5, x6] ∧ LI K cH cL H R p g l r dx (gs ++ [.ref L]) (n + 1) (ap mp (tx, ssort gn)) H' e' vs' lys' ∧ lys'.length ≤ n + 1 ∧ lys'.length < lys4.length, ?_, ?_⟩
        · rintro σ' H' ⟨x4, x5, x6, e', vs', lys', rfl, I', hc', hlt⟩
          exact ⟨lys'.length, hlt, x4, x5, x6, e', vs', lys', rfl, I', hc', rfl⟩
        -- upper = layers.pop()
        refine ⟨_, rfl, .inl ⟨rfl, _, SqL.of I6.hl⟩, ?_⟩
        refine ⟨l, _, .ref b, rfl, rfl, I6.hl, last_two _ _ _, ?_⟩
        rw [drop_two]
        -- lower = layers.pop()
        refine ⟨_, rfl, .inl ⟨rfl, _, SqL.of upd_same⟩, ?_⟩
        refine ⟨l, _, .ref a, rfl, rfl, upd_same, last_one _ _, ?_⟩
        rw [List.dropLast_concat, upd_upd]
        have J7 : LI K cH cL H R p g l r dx (gs ++ [.ref L]) (n + 1) (den l0) (upd H6 l (.lst v0)) e4 v0 l0 :=
          ⟨fun a o h => by rw [upd_ne (ne_of_none (d2_some h).1 hl)]; exact I6.old _ _ h, dm_upd I6.dm, fun a o e => by rw [upd_ne (ne_of_none (hRH _ _ e) hl)]; exact I6.sR _ _ e, by rw [upd_ne nlp]; exact I6.hp, by rw [upd_ne nlg]; exact I6.hg, upd_same, La6.mono rl_upl, rfl, by omega⟩
        have Llo7 : LayerAt K cL (rl R H l (upd H6 l (.lst v0))) a r lo := Llo6.mono rl_upl
        have Lup7 : LayerAt K cL (rl R H l (upd H6 l (.lst v0))) b r up := Lup6.mono rl_upl
        have oa7 : (rl R H l (upd H6 l (.lst v0))) a = some (.ins cL dxa fsa) := rl_upl _ _ (rl_mono s46 _ _ oa)
        have ob7 : (rl R H l (upd H6 l (.lst v0))) b = some (.ins cL dxb fsb) := rl_upl _ _ (rl_mono s46 _ _ ob)
        clear I6 Llo6 Lup6 La6
        generalize upd H6 l (.lst v0) = H7 at J7 Llo7 Lup7 oa7 ob7 ⊢
        -- self.entries += ...
        refine ⟨_, rfl, p, cH, dx, _, _, rfl, J7.hp, T.hC, T.h3, hF_entries _ _ _, ?_⟩
        refine ⟨_, rfl, b, dxb, fsb, rfl, (rl_sub J7.sR) _ _ ob7, nob, b, r, up, rfl, Lup7.mono (rl_sub J7.sR), by omega, fun H8 q7 xs7 s7 q7' e7 => ?_⟩
        refine ⟨q7, xs7, rfl, .inl (SqL.of q7'), ?_⟩
        refine ⟨_, rfl, a, dxa, fsa, rfl, s7 _ _ ((rl_sub J7.sR) _ _ oa7), noa, a, r, lo, rfl, Llo7.mono (Same.trans (rl_sub J7.sR) s7), by omega, fun H9 q8 xs8 s8 q8' e8 => ?_⟩
        refine ⟨q8, xs8, rfl, .inl (SqL.of q8'), ?_⟩
        refine ⟨_, _, rfl, rfl, ?_⟩
        have s79 := Same.trans s7 s8
        have J9 := J7.mono s79
        have Llo9 := Llo7.mono (rl_mono (R := R) (H0 := H) (l := l) s79)
        have Lup9 := Lup7.mono (rl_mono (R := R) (H0 := H) (l := l) s79)
        clear J7 Llo7 Lup7 oa7 ob7
        refine ⟨_, _, rfl, rfl, dx, _, J9.hp, (by show 3 < 1000; decide), ?_⟩
        rw [hF_put]
        generalize e4 + ((xs7.length : Nat) + (xs8.length : Nat) : Int) = e9
        have J10 : LI K cH cL H R p g l r dx (gs ++ [.ref L]) (n + 1) (den l0) (upd H9 p (.ins cH dx (hF r g e9))) e9 v0 l0 :=
          ⟨fun a o h => by rw [upd_ne (d2_some h).2.1]; exact J9.old _ _ h, dm_upd J9.dm, fun a o e => by rw [upd_ne (ne_of_none e hRp)]; exact J9.sR _ _ e, upd_same, by rw [upd_ne npg.symm]; exact J9.hg, by rw [upd_ne nlp.symm]; exact J9.hl, J9.la.mono (rl_upo hp), rfl, J9.sz⟩
        have Llo10 : LayerAt K cL (rl R H l (upd H9 p (.ins cH dx (hF r g e9)))) a r lo := Llo9.mono (rl_upo hp)
        have Lup10 : LayerAt K cL (rl R H l (upd H9 p (.ins cH dx (hF r g e9)))) b r up := Lup9.mono (rl_upo hp)
        clear J9 Llo9 Lup9
        generalize upd H9 p (.ins cH dx (hF r g e9)) = H10 at J10 Llo10 Lup10 ⊢
        -- made = poured(lower, upper)
        refine ⟨_, rfl, _, rfl, rl R H l H10, a, b, r, r, lo, up, rfl, rl_sub J10.sR, Llo10, Lup10, by omega, by omega, fun H11 v11 s11 L11' => ?_⟩
        have L11 := L11'.mono (join_rl J10.sR J10.dm J10.hl s11)
        have J11 := J10.mono s11
        clear L11' J10 Llo10 Lup10
        have hps := pour_size lo up
        have hpd : den (l0 ++ [pour lo up]) = ap mp (tx, ssort gn) := by rw [den_snoc, pour_ap _ _ _ hnu]; exact hds
        -- if layers == []
        refine ⟨_, rfl, ?_⟩
        refine ⟨Nat.zero_le _, fun z4 hz4 => ?_⟩
        have sz4 := same_upd (o := .lst []) hz4
        have J12 := J11.mono sz4
        have L12 := L11.mono (rl_mono (R := R) (H0 := H) (l := l) sz4)
        have z12 : (upd H11 z4 (.lst [])) z4 = some (.lst []) := upd_same
        generalize upd H11 z4 (.lst []) = H12 at J12 L12 z12 ⊢
        refine ⟨l, z4, v0, rfl, rfl, SqL.of J12.hl, SqL.of z12, _, rfl, ?_⟩
        by_cases hv0 : v0 = []
        · subst hv0
          refine iteT ?_
          have hl0 : l0 = [] := List.length_eq_zero_iff.mp (by rw [← hll]; rfl)
          subst hl0
          refine ⟨_, rfl, rl R H l H12, v11, r, pour lo up, rfl, rl_sub J12.sR, L12, fun H13 v13 s13 L13' => ?_⟩
          have L13 := L13'.mono (join_rl J12.sR J12.dm J12.hl s13)
          have J13 := J12.mono s13
          clear L13' J12 L12
          have hden : den ([] ++ [((pour lo up).1, [])]) = ap mp (tx, ssort gn) := by
            rw [← hpd]
            exact lowest_ap (pour lo up)
          have hls : lySize ((pour lo up).1, []) ≤ lySize (pour lo up) := by unfold lySize; exact Nat.add_le_add_left (Nat.zero_le _) _
          have hs0 : lySizes [] = 0 := rfl
          -- made.names()
          obtain ⟨dxm, fsm, om, nom⟩ := lay_obj L13 (m := "names") (by decide +kernel) (by decide +kernel) (by decide +kernel)
          refine ⟨_, rfl, v13, dxm, fsm, rfl, (rl_sub J13.sR) _ _ om, nom, v13, r, ((pour lo up).1, []), rfl, L13.mono (rl_sub J13.sR), by omega, fun Hn q5 xs5 sn q5' e5 => ?_⟩
          have J5 := J13.mono sn
          have Ln := L13.mono (rl_mono sn)
          refine ⟨Nat.zero_le _, fun z5 hz5 => ?_⟩
          have sz5 := same_upd (o := .lst []) hz5
          have J6 := J5.mono sz5
          have Lz := Ln.mono (rl_mono (R := R) (H0 := H) (l := l) sz5)
          have q6 := sz5 _ _ q5'
          have z6 : (upd Hn z5 (.lst [])) z5 = some (.lst []) := upd_same
          generalize upd Hn z5 (.lst []) = H9 at J6 Lz q6 z6 ⊢
          refine ⟨q5, z5, xs5, rfl, rfl, SqL.of q6, SqL.of z6, _, rfl, ?_⟩
          have lj := J6.la.length
          by_cases h0 : lySize ((pour lo up).1, []) = 0
          · have e0 : xs5 = [] := List.length_eq_zero_iff.mp (by omega)
            subst e0
            refine iteF ?_
            refine ⟨_, _, _, _, _, ([] : List Ly), rfl, ⟨J6.old, J6.dm, J6.sR, J6.hp, J6.hg, J6.hl, J6.la, ?_, by omega⟩, by omega, by omega⟩
            have := hden
            rw [den_snoc, empty_ap _ _ h0] at this
            exact this
          · refine ifbT (by cases xs5 with | nil => exact absurd e5.symm h0 | cons _ _ => rfl) ?_
            refine ⟨_, rfl, .inl ⟨rfl, _, SqL.of J6.hl⟩, ?_⟩
            refine ⟨_, rfl, l, ([] : List V), _, rfl, rfl, J6.hl, small_sz (by omega), ?_⟩
            refine ⟨_, _, _, _, _, ([] : List Ly) ++ [((pour lo up).1, [])], rfl, ⟨fun a o h => ?_, dm_upd J6.dm, fun a o e => by rw [upd_ne (ne_of_none (hRH _ _ e) hl)]; exact J6.sR _ _ e, by rw [upd_ne nlp]; exact J6.hp, by rw [upd_ne nlg]; exact J6.hg, upd_same, ?_, hden, by rw [lySizes_snoc]; omega⟩, by rw [List.length_append]; show ([] : List Ly).length + 1 ≤ _; omega, by rw [List.length_append]; show ([] : List Ly).length + 1 < _; omega⟩
            · obtain ⟨h1, h2, h3⟩ := d2_some h
              rw [upd_ne (ne_of_none h1 hl)]; exact J6.old _ _ h
            · exact LyAll.snoc (J6.la.mono rl_upl) (Lz.mono rl_upl)
        · refine ifbF (by cases v0 with | nil => exact absurd rfl hv0 | cons _ _ => rfl) ?_
          have hden := hpd
          -- made.names()
          obtain ⟨dxm, fsm, om, nom⟩ := lay_obj L12 (m := "names") (by decide +kernel) (by decide +kernel) (by decide +kernel)
          refine ⟨_, rfl, v11, dxm, fsm, rfl, (rl_sub J12.sR) _ _ om, nom, v11, r, (pour lo up), rfl, L12.mono (rl_sub J12.sR), by omega, fun Hn q5 xs5 sn q5' e5 => ?_⟩
          have J5 := J12.mono sn
          have Ln := L12.mono (rl_mono sn)
          refine ⟨Nat.zero_le _, fun z5 hz5 => ?_⟩
          have sz5 := same_upd (o := .lst []) hz5
          have J6 := J5.mono sz5
          have Lz := Ln.mono (rl_mono (R := R) (H0 := H) (l := l) sz5)
          have q6 := sz5 _ _ q5'
          have z6 : (upd Hn z5 (.lst [])) z5 = some (.lst []) := upd_same
          generalize upd Hn z5 (.lst []) = H9 at J6 Lz q6 z6 ⊢
          refine ⟨q5, z5, xs5, rfl, rfl, SqL.of q6, SqL.of z6, _, rfl, ?_⟩
          have lj := J6.la.length
          by_cases h0 : lySize (pour lo up) = 0
          · have e0 : xs5 = [] := List.length_eq_zero_iff.mp (by omega)
            subst e0
            refine iteF ?_
            refine ⟨_, _, _, _, _, l0, rfl, ⟨J6.old, J6.dm, J6.sR, J6.hp, J6.hg, J6.hl, J6.la, ?_, by omega⟩, by omega, by omega⟩
            have := hden
            rw [den_snoc, empty_ap _ _ h0] at this
            exact this
          · refine ifbT (by cases xs5 with | nil => exact absurd e5.symm h0 | cons _ _ => rfl) ?_
            refine ⟨_, rfl, .inl ⟨rfl, _, SqL.of J6.hl⟩, ?_⟩
            refine ⟨_, rfl, l, v0, _, rfl, rfl, J6.hl, small_sz (by omega), ?_⟩
            refine ⟨_, _, _, _, _, l0 ++ [(pour lo up)], rfl, ⟨fun a o h => ?_, dm_upd J6.dm, fun a o e => by rw [upd_ne (ne_of_none (hRH _ _ e) hl)]; exact J6.sR _ _ e, by rw [upd_ne nlp]; exact J6.hp, by rw [upd_ne nlg]; exact J6.hg, upd_same, ?_, hden, by rw [lySizes_snoc]; omega⟩, by rw [List.length_append]; show l0.length + 1 ≤ _; omega, by rw [List.length_append]; show l0.length + 1 < _; omega⟩
            · obtain ⟨h1, h2, h3⟩ := d2_some h
              rw [upd_ne (ne_of_none h1 hl)]; exact J6.old _ _ h
            · exact LyAll.snoc (J6.la.mono rl_upl) (Lz.mono rl_upl)
      · refine ifdF hbig ?_
        have I := I6
        refine ⟨_, rfl, p, cH, dx, _, _, rfl, I.hp, T.hC, T.h2, hF_grown _ _ _, .inl ⟨rfl, _, SqL.of I.hg⟩, ?_⟩
        refine ⟨_, rfl, g, _, _, rfl, rfl, I.hg, small_sz (by rw [List.length_append]; show gs.length + 1 < 16777216; omega), ?_⟩
        have hp9 : (upd H6 g (.lst (gs ++ [.ref L] ++ [.ref l]))) p = some (.ins cH dx (hF r g e4)) := by rw [upd_ne npg]; exact I.hp
        exact ⟨_, rfl, p, dx, _, rfl, hp9, hF_no _ _ _ (by decide +kernel) (by decide +kernel) (by decide +kernel), p, dx, r, g, e4, _, rfl, hp9, upd_same, fin _ _ _ _ I hc _⟩
    · refine ifdF (by omega) ?_
      refine iteF ?_
      refine ⟨_, rfl, p, cH, dx, _, _, rfl, I.hp, T.hC, T.h2, hF_grown _ _ _, .inl ⟨rfl, _, SqL.of I.hg⟩, ?_⟩
      refine ⟨_, rfl, g, _, _, rfl, rfl, I.hg, small_sz (by rw [List.length_append]; show gs.length + 1 < 16777216; omega), ?_⟩
      have hp9 : (upd H4 g (.lst (gs ++ [.ref L] ++ [.ref l]))) p = some (.ins cH dx (hF r g e4)) := by rw [upd_ne npg]; exact I.hp
      exact ⟨_, rfl, p, dx, _, rfl, hp9, hF_no _ _ _ (by decide +kernel) (by decide +kernel) (by decide +kernel), p, dx, r, g, e4, _, rfl, hp9, upd_same, fin _ _ _ _ I hc _⟩
end
end KR
set_option maxHeartbeats 1000000
namespace KR
open PySem PySem.Spec PyProof.Rows L2
def upM (mp : Mp) (z : Str) (o : Option (List Str)) : Mp := fun k => if k = z then o else mp k
theorem ap_put (mp : Mp) (z : Str) (ps : List Str) : ap mp ([(z, ps)], ssort []) = upM mp z (some ps) := by
  funext k
  unfold ap upM
  have es : ssort [] = [] := by unfold ssort; simp
  rw [es]
  dsimp only
  rw [aget_cons]
  by_cases e : k = z
  · rw [if_pos e, if_pos e.symm]
  · rw [if_neg e, if_neg (fun q => e q.symm)]
    simp [aget]
theorem ap_take (mp : Mp) (z : Str) : ap mp ([], ssort [z]) = upM mp z none := by
  funext k
  unfold ap upM
  have es : ssort [z] = [z] := by unfold ssort; simp
  rw [es]
  dsimp only
  by_cases e : k = z
  · simp [aget, e]
  · simp [aget, e]
theorem nodup_perm {α : Type} [DecidableEq α] : ∀ {xs ys : List α}, xs.Nodup → ys.Nodup → (∀ a, a ∈ xs ↔ a ∈ ys) → xs.Perm ys
  | [], ys, _, _, h => by
    have : ys = [] := List.eq_nil_iff_forall_not_mem.mpr fun a ha => by simpa using (h a).mpr ha
    rw [this]
  | x :: xs, ys, hx, hy, h => by
    have hm : x ∈ ys := (h x).mp List.mem_cons_self
    have p1 : ys.Perm (x :: ys.erase x) := List.perm_cons_erase hm
    obtain ⟨n1, n2⟩ := List.nodup_cons.mp hx
    have p2 : xs.Perm (ys.erase x) := nodup_perm n2 (hy.sublist (List.erase_sublist)) fun a => by
      constructor
      · intro ha
        have hne : a ≠ x := fun e => n1 (e ▸ ha)
        exact (List.mem_erase_of_ne hne).mpr ((h a).mp (List.mem_cons_of_mem _ ha))
      · intro ha
        have h1 : a ∈ ys := List.mem_of_mem_erase ha
        have hne : a ≠ x := fun e => by
          subst e
          exact ((List.nodup_cons.mp (p1.nodup_iff.mp hy)).1) ha
        exact (List.mem_cons.mp ((h a).mpr h1)).resolve_left hne
    exact (p2.cons x).trans p1.symm
theorem keys_perm {m tx : List Tx} (h1 : (m.map (·.1)).Nodup) (h2 : (tx.map (·.1)).Nodup) (h : ∀ k, aget m k = aget tx k) : (m.map (·.1)).Perm (tx.map (·.1)) := by
  refine nodup_perm h1 h2 fun k => ?_
  have e1 := aget_none_iff m k
  have e2 := aget_none_iff tx k
  rw [h k] at e1
  constructor
  · intro q
    by_cases z : k ∈ tx.map (·.1)
    · exact z
    · exact absurd q (e1.mp (e2.mpr z))
  · intro q
    by_cases z : k ∈ m.map (·.1)
    · exact z
    · exact absurd q (e2.mp (e1.mpr z))
theorem sortedTx_congr {m tx : List Tx} (h1 : (m.map (·.1)).Nodup) (h2 : (tx.map (·.1)).Nodup) (h : ∀ k, aget m k = aget tx k) : sortedTx m = sortedTx tx := by
  unfold sortedTx
  rw [ssort_congr (keys_perm h1 h2 h)]
  refine List.map_congr_left fun k _ => ?_
  rw [h k]
theorem same_mem {m tx : List Tx} (h1 : (m.map (·.1)).Nodup) (h : ∀ k, aget m k = aget tx k) {t : Tx} (ht : t ∈ m) : t ∈ tx := by
  have e := aget_at h1 ht
  rw [h] at e
  have hk : t.1 ∈ tx.map (·.1) := by
    by_cases z : t.1 ∈ tx.map (·.1)
    · exact z
    · rw [(aget_none_iff tx t.1).mpr z] at e; cases e
  obtain ⟨x, q1, q2⟩ := aget_some hk
  rw [q1] at e
  cases e
  exact q2
theorem Hou.shrink {K : PySem.W.Frag} {cH cL : Addr} {H H1 H' R : Hp} {p g r : Addr} {n : Nat} {mp : Mp} (h : Hou K cH cL H' (join R (nw H1 H')) p g r n mp) (s : Same H H1) (sk : Same (d2 p g H1) H') (sR : Same R H) (rp : R p = none) (rg : R g = none) (hp : ∃ u, H p = some u) (hg : ∃ u, H g = some u) : Hou K cH cL H' (join R (nw H H')) p g r n mp := by
  obtain ⟨u, hp⟩ := hp
  obtain ⟨v, hg⟩ := hg
  exact h.ext (join_mono (nw_less s)) (joinS (fun a o e => sk _ _ (d2_of (s _ _ (sR _ _ e)) (ne_of_none e rp) (ne_of_none e rg))) nw_sub) (join_no rp (nw_at hp)) (join_no rg (nw_at hg))
structure TxOk (tx : List Tx) : Prop where
  nd : (tx.map (·.1)).Nodup
  few : tx.length ≤ 100
  ok : ∀ t ∈ tx, PartsOk t.2
def spPut (K : PySem.W.Frag) (cH cL : Addr) : Sp := fun vs H Q _ => ∃ (R : Hp) (p g r : Addr) (n : Nat) (mp : Mp) (z : Str) (v : V) (ps : List Str), vs = [.ref p, .str z, v] ∧ Hou K cH cL H R p g r n mp ∧ NameOk z ∧ Dp K R v (partsD ps) ∧ PartsOk ps ∧ n ≤ 2000 ∧
  ∀ (H' : Hp) (i : Int), Same (d2 p g H) H' → Hou K cH cL H' (join R (nw H H')) p g r (n + 1) (upM mp z (some ps)) → Q (.int i) H'
def spTake (K : PySem.W.Frag) (cH cL : Addr) : Sp := fun vs H Q _ => ∃ (R : Hp) (p g r : Addr) (n : Nat) (mp : Mp) (z : Str), vs = [.ref p, .str z] ∧ Hou K cH cL H R p g r n mp ∧ (mp z).isSome = true ∧ n ≤ 2000 ∧
  ∀ (H' : Hp) (i : Int), Same (d2 p g H) H' → Hou K cH cL H' (join R (nw H H')) p g r (n + 1) (upM mp z none) → Q (.int i) H'
def spMake (K : PySem.W.Frag) (cH cL cM cR : Addr) : Sp := fun vs H Q _ => ∃ (R : Hp) (p g r : Addr) (n : Nat) (rb : Rb) (tx : List Tx) (xs : List V), vs = [.ref p, .int ((xs.length : Int) - 1)] ∧ Hou K cH cL H R p g r n (aget tx) ∧ H g = some (.lst xs) ∧ RbAt cR R r rb ∧ rb.Ok ∧ TxOk tx ∧ n ≤ 2000 ∧
  ∀ (H' : Hp) (b : Addr), Same H H' → BookAt K cM cR (join R (nw H H')) b rb (sortedTx tx) → Q (.ref b) H'
section
variable {P : Program} {w : World} {K : PySem.W.Frag} {mg : Str → Option Value} {base : Heap} {cL cM cH cR cB : Addr}
theorem scPut : FnScope ["self", "name", "parts"] ["self", "name", "parts"] (defScope sHPut) := ⟨rfl, rfl, rfl, by decide +kernel, rfl, by decide +kernel, by decide +kernel⟩
theorem ok_put {f : Addr} {fd : FuncData} (F : Fun K "put" "House.put" sHPut f fd) (T : Txt K mg cL cM cH cR)
    (cIsName : Cal P w K mg base 1 "is_house_name" ["thing"] spIsName) (cAreParts : Cal P w K mg base 1 "are_house_parts" ["thing"] (spAreParts K))
    (mChanged : Mth P w K mg base cH 4 "changed" ["self", "texts", "gone"] (spChanged K cH cL)) :
    FnOk P w K mg base CX0 5 f fd ["self", "name", "parts"] (spPut K cH cL) := by
  refine F.ok scPut (fun vs H Q E h => ?_) (fun cdv A outer s H vs Q E hr h => ?_)
  · obtain ⟨R, p, g, r, n, mp, z, v, ps, rfl, _⟩ := h
    rfl
  · obtain ⟨R, p, g, r, n, mp, z, v, ps, rfl, Ho, okz, hd, okp, hn, k⟩ := h
    have hu := hu_of hr
    refine ⟨_, (pss_cons (ps_if (pt_not (pt_val (pe_cal cIsName (hr.mono (by decide)) (pa_cons (pv 1) pa_nil)))) (pss_one ps_never) pss_nil)
      (pss_cons (ps_if (pt_not (pt_val (pe_cal cAreParts (hr.mono (by decide)) (pa_cons (pv 2) pa_nil)))) (pss_one ps_never) pss_nil)
      (pss_one (ps_ret (pe_mth (pv 0) T.hC mChanged hr (pa_cons (pe_disp (pps_cons (pv 1) (pv 2) pps_nil) (by rfl) (by rfl) (fun z => by cases z) (by decide)) (pa_cons (pe_lst pa_nil) pa_nil))))))), ?_⟩
    refine ⟨_, rfl, z, rfl, okz, fun H1 s1 => ⟨_, rfl, ?_⟩⟩
    refine iteF ?_
    refine ⟨_, rfl, R, v, ps, rfl, Same.trans Ho.sub s1, hd, okp, fun H2 s2 => ⟨_, rfl, ?_⟩⟩
    refine iteF ?_
    have s02 := Same.trans s1 s2
    have Ho2 := Ho.mono s02
    obtain ⟨dx, e, gs, L, lv, lys, hp, hg, _⟩ := Ho2.ex
    refine ⟨_, rfl, p, dx, _, rfl, hp, hF_no _ _ _ (by decide +kernel) (by decide +kernel) (by decide +kernel), ?_⟩
    intro t ht
    refine ⟨_, rfl, _, rfl, upd_same, [(.inr z, v)], rfl, by show 1 ≤ 15; decide, ?_⟩
    rw [upd_upd]
    have s3 := same_upd (o := .dK (mergeK [] [(.inr z, v)])) ht
    have t3 : (upd H2 t (.dK (mergeK [] [(.inr z, v)]))) t = some (.dK [(.inr z, v)]) := upd_same
    have Ho3 := Ho2.mono s3
    have s03 := Same.trans s02 s3
    generalize upd H2 t (.dK (mergeK [] [(.inr z, v)])) = H3 at s3 t3 Ho3 s03 ⊢
    refine ⟨Nat.zero_le _, fun q hq => ?_⟩
    have s4 := same_upd (o := .lst []) hq
    have s04 := Same.trans s03 s4
    refine ⟨R, p, g, r, t, q, n, mp, [(z, ps)], [], [(.inr z, v)], rfl, Ho3.mono s4, s4 _ _ t3, ?_, upd_same, by simp, rfl, hn, fun H' i sk Ho' => ?_⟩
    · exact .cons ⟨rfl, hd⟩ .nil
    · rw [ap_put] at Ho'
      exact k H' i (Same.trans (d2_mono s04) sk) (Ho'.shrink s04 sk Ho.sub Ho.rp Ho.rg (by obtain ⟨_, _, _, _, _, _, h1, h2, _⟩ := Ho.ex; exact ⟨_, h1⟩) (by obtain ⟨_, _, _, _, _, _, h1, h2, _⟩ := Ho.ex; exact ⟨_, h2⟩))
theorem scTake : FnScope ["self", "name"] ["self", "name"] (defScope sHTake) := ⟨rfl, rfl, rfl, by decide +kernel, rfl, by decide +kernel, by decide +kernel⟩
theorem ok_take {f : Addr} {fd : FuncData} (F : Fun K "take" "House.take" sHTake f fd) (T : Txt K mg cL cM cH cR)
    (cHTexts : Cal P w K mg base 2 "house_texts" ["layers"] (spHTexts K cL))
    (mChanged : Mth P w K mg base cH 4 "changed" ["self", "texts", "gone"] (spChanged K cH cL)) :
    FnOk P w K mg base CX0 5 f fd ["self", "name"] (spTake K cH cL) := by
  refine F.ok scTake (fun vs H Q E h => ?_) (fun cdv A outer s H vs Q E hr h => ?_)
  · obtain ⟨R, p, g, r, n, mp, z, rfl, _⟩ := h
    rfl
  · obtain ⟨R, p, g, r, n, mp, z, rfl, Ho, hz, hn, k⟩ := h
    have hu := hu_of hr
    obtain ⟨dx, e, gs, L, lv, lys, hp, hg, hgs, hL, hla, hde, hsz, hcnt⟩ := Ho.ex
    refine ⟨_, (pss_cons (ps_if (PW.pt (pw_or (pt_not (pt_val (pe_callB RZ.call_isTy (by rfl) T.isinstance (by decide +kernel) (pa_cons (pv 1) (pa_cons (pe_bltn (v := .ty "str") (by rfl) T.str (by decide +kernel) rfl) pa_nil))))) (pw_or1 (pt_cmp (pc_dnotin hu (pv 1) (pe_cal cHTexts (hr.mono (by decide)) (pa_cons (pe_ix ix_list (pe_fld (pv 0) rfl) (pe_un un_neg pe_int) (fun _ _ => rfl)) pa_nil))))))) (pss_one ps_never) pss_nil)
      (pss_one (ps_ret (pe_mth (pv 0) T.hC mChanged hr (pa_cons pe_dnewK (pa_cons (pe_lst (pa_cons (pv 1) pa_nil)) pa_nil)))))), ?_⟩
    refine ⟨_, rfl, _, "str", rfl, .str _, _, rfl, ?_⟩
    refine iteF ?_
    refine ⟨_, rfl, _, rfl, p, cH, dx, _, _, rfl, hp, T.hC, T.h2, hF_grown _ _ _, ?_⟩
    refine ⟨1, rfl, ?_⟩
    refine ⟨g, gs ++ [.ref L], -1, .ref L, rfl, rfl, SqL.of hg, at_neg1 _ _, ?_⟩
    refine ⟨R, L, r, lv, lys, rfl, Ho.sub, hL, hla, by omega, fun H1 t kv m s1 _ ht hk hnd hm hml => ?_⟩
    refine ⟨t, _, rfl, DGet.k (k := Sum.inr z) ht, _, rfl, ?_⟩
    refine ifbF ?_ ?_
    · rcases hk.val z with ⟨_, g2⟩ | ⟨v1, dt, g1, g2, g3⟩
      · unfold txD at g2
        rw [aget_map, hm, hde] at g2
        cases e1 : mp z with
        | none => rw [e1] at hz; cases hz
        | some y => rw [e1] at g2; cases g2
      · rw [g1]; rfl
    have Ho1 := Ho.mono s1
    have hp1 := s1 _ _ hp
    refine ⟨_, rfl, p, dx, _, rfl, hp1, hF_no _ _ _ (by decide +kernel) (by decide +kernel) (by decide +kernel), ?_⟩
    intro t2 ht2
    have s2 := same_upd (o := .dK []) ht2
    have t22 : (upd H1 t2 (.dK [])) t2 = some (.dK []) := upd_same
    have Ho2 := Ho1.mono s2
    have s02 := Same.trans s1 s2
    generalize upd H1 t2 (.dK []) = H2 at s2 t22 Ho2 s02 ⊢
    refine ⟨_, rfl, by show 1 ≤ sizeLine; decide, fun q hq => ?_⟩
    have s3 := same_upd (o := .lst [.str z]) hq
    refine ⟨R, p, g, r, t2, q, n, mp, [], [z], [], rfl, Ho2.mono s3, s3 _ _ t22, .nil, upd_same, by simp, rfl, hn, fun H' i sk Ho' => ?_⟩
    rw [ap_take] at Ho'
    exact k H' i (Same.trans (d2_mono (Same.trans s02 s3)) sk) (Ho'.shrink (Same.trans s02 s3) sk Ho.sub Ho.rp Ho.rg ⟨_, hp⟩ ⟨_, hg⟩)
theorem scMake : FnScope ["self", "number"] ["self", "number"] (defScope sHMake) := ⟨rfl, rfl, rfl, by decide +kernel, rfl, by decide +kernel, by decide +kernel⟩
theorem ok_make {f : Addr} {fd : FuncData} (F : Fun K "make" "House.make" sHMake f fd) (T : Txt K mg cL cM cH cR)
    (cHTexts : Cal P w K mg base 2 "house_texts" ["layers"] (spHTexts K cL)) (mLayers : Mth P w K mg base cH 2 "layers_at" ["self", "number"] (spLayersAt K cH))
    (cMake : Mkc P w K mg base cM 5 "Make" ["self", "rulebook", "texts", "number"] (spMInit K cM cR)) :
    FnOk P w K mg base CX0 7 f fd ["self", "number"] (spMake K cH cL cM cR) := by
  refine F.ok scMake (fun vs H Q E h => ?_) (fun cdv A outer s H vs Q E hr h => ?_)
  · obtain ⟨RR, p, g, r, n, rb, tx, xs, rfl, _⟩ := h
    rfl
  · obtain ⟨RR, p, g, r, n, rb, tx, xs, rfl, Ho, hgx, RB, okr, okt, hn, k⟩ := h
    have hu := hu_of hr
    obtain ⟨dx, e, gs, L, lv, lys, hp, hg, hgs, hL, hla, hde, hsz, hcnt⟩ := Ho.ex
    rw [hgx] at hg
    cases hg
    refine ⟨_, (pss_one (ps_ret (pe_mkc cMake hr (pa_cons (pe_fld (pv 0) rfl) (pa_cons (pe_cal cHTexts (hr.mono (by decide)) (pa_cons (pe_mth (pv 0) T.hC mLayers (hr.mono (by decide)) (pa_cons (pv 1) pa_nil)) pa_nil)) (pa_cons (pv 1) pa_nil)))))), ?_⟩
    refine ⟨_, rfl, p, cH, dx, _, _, rfl, hp, T.hC, T.h1, hF_rules _ _ _, ?_⟩
    refine ⟨_, rfl, p, dx, _, rfl, hp, hF_no _ _ _ (by decide +kernel) (by decide +kernel) (by decide +kernel), _, rfl, p, dx, r, g, e, gs, .ref L, rfl, hp, hgx, by omega, ?_⟩
    refine ⟨RR, L, r, lv, lys, rfl, Ho.sub, hL, hla, by omega, fun H1 t kv m s1 _ ht hk hnd hm hml => ?_⟩
    refine ⟨_, rfl, ?_⟩
    have hmt : ∀ k, aget m k = aget tx k := fun k => by rw [hm, hde]
    have hpm := keys_perm hnd okt.nd hmt
    have hlen := hpm.length_eq
    rw [List.length_map, List.length_map] at hlen
    intro x dx2 nx ndx nex
    have sm : Same H1 (upd (upd H1 dx2 (.own x)) x (.ins cM dx2 [])) := fun b o e => by
      rw [upd_ne (ne_of_none e nx), upd_ne (ne_of_none e ndx)]
      exact e
    refine ⟨RR, H1, x, dx2, r, t, rb, m, kv, _, rfl, Same.trans Ho.sub s1, sm, nx, upd_same, RB, okr, ht, hk, hnd, by have := okt.few; omega, fun t2 ht2 => ?_, fun H' sk B => ⟨rfl, ?_⟩⟩
    · have o := okt.ok _ (same_mem hnd hmt ht2)
      exact ⟨Nat.le_of_eq o.three, fun z hz => (o.each z hz).few⟩
    · rw [sortedTx_congr hnd okt.nd hmt] at B
      exact k H' x (Same.trans s1 sk) (B.mono (join_mono (nw_less s1)))
end
end KR
set_option maxHeartbeats 1000000
namespace KR
open PySem PySem.Spec PyProof.Rows L2
def RLET : Str := "abcdefghijklmnopqrstuvwxyz"
def RSIG : Str := "abcdefghijklmnopqrstuvwxyz0123456789"
structure OfOk (w sg : Str) (lo hi : Int) : Prop where
  lo_ : lo ≤ (w.length : Int)
  hi_ : (w.length : Int) ≤ hi
  few : w.length ≤ 1000
  sgn : ∀ c ∈ w.cps.toList, c ∈ sg.cps.toList
abbrev En := Str × Str × Int
structure EnOk (e : En) : Prop where
  a : OfOk e.1 RLET 1 8
  b : OfOk e.2.1 RLET 0 (e.1.length : Nat)
  l1 : 1 ≤ e.2.2
  l2 : e.2.2 ≤ 20
def enD (e : En) : PyData := .tuple [.str e.1, .str e.2.1, .int e.2.2]
def rbOf (es : List En) (ws : List Str) : Rb := ⟨fun x => aget es x, fun x => decide (x ∈ ws)⟩
theorem rbOf_ok {es : List En} {ws : List Str} (h : ∀ e ∈ es, EnOk e) : (rbOf es ws).Ok := by
  refine ⟨fun x i n e => ?_⟩
  have hk : x ∈ es.map (·.1) := by
    by_cases z : x ∈ es.map (·.1)
    · exact z
    · rw [show (rbOf es ws).tail x = aget es x from rfl, (aget_none_iff es x).mpr z] at e; cases e
  obtain ⟨y, h1, h2⟩ := aget_some hk
  rw [show (rbOf es ws).tail x = aget es x from rfl, h1] at e
  cases e
  have := h _ h2
  have q1 := this.b.hi_
  have q2 := this.a.hi_
  dsimp only at q1 q2
  omega
theorem dp_en {K : PySem.W.Frag} {H : Hp} {v : V} {e : En} (h : Dp K H v (enD e)) : ∃ a, v = .ref a ∧ SqT K H a [.str e.1, .str e.2.1, .int e.2.2] := by
  obtain ⟨a, xs, ev, q, t⟩ := dp_tup h
  cases t with
  | cons t1 t =>
    cases t with
    | cons t2 t =>
      cases t with
      | cons t3 t =>
        cases t
        cases t1
        cases t2
        cases t3
        exact ⟨a, ev, q⟩
theorem tailv_upd {H0 H : Hp} {d : Addr} {o u : HO} (hd : H d = some o) (no : ∀ xs, o ≠ .tup xs) : ∀ {a : Option V} {b : Option (Str × Int)}, TailV (nw H0 H) a b → TailV (nw H0 (upd H d u)) a b
  | none, none, _ => trivial
  | some v, some (i, n), ⟨a, h1, h2⟩ => by
    obtain ⟨e1, e2⟩ := nw_some h2
    have ne : a ≠ d := fun z => by rw [z, hd] at e2; exact no _ (Option.some.inj e2)
    exact ⟨a, h1, by rw [nw_none e1, upd_ne ne]; exact e2⟩
  | none, some _, h => h.elim
  | some _, none, h => h.elim
theorem aget_snoc {α : Type} (m : List (Str × α)) (p : Str × α) (k : Str) : aget (m ++ [p]) k = match aget m k with | some x => some x | none => if p.1 = k then some p.2 else none := by
  induction m with
  | nil => rw [List.nil_append, aget_cons]; rfl
  | cons q m ih =>
    rw [List.cons_append, aget_cons, aget_cons, ih]
    by_cases e : q.1 = k
    · rw [if_pos e, if_pos e]
    · rw [if_neg e, if_neg e]
def spRuleOf : Sp := fun vs H Q _ => ∃ (w sg : Str) (lo hi : Int), vs = [.str w, .str sg, .int lo, .int hi] ∧ OfOk w sg lo hi ∧ ∀ H', Same H H' → Q (.bl true) H'
def spRuleFits : Sp := fun vs H Q _ => ∃ (e : En), vs = [.str e.1, .str e.2.1, .int e.2.2] ∧ EnOk e ∧ ∀ H', Same H H' → Q (.bl true) H'
def spRInit (K : PySem.W.Frag) (cR : Addr) : Sp := fun vs H Q _ => ∃ (H0 : Hp) (r dx a b : Addr) (xs : List V) (es : List En) (ws : List Str), vs = [.ref r, .ref a, .ref b] ∧ Same H0 H ∧ H0 r = none ∧ H r = some (.ins cR dx []) ∧
  SqL K H0 a xs ∧ DpAll K H0 xs (es.map enD) ∧ SqL K H0 b (ws.map V.str) ∧ (∀ e ∈ es, EnOk e) ∧ (es.map (·.1)).Nodup ∧ ws.Nodup ∧ (∀ z ∈ ws, OfOk z RSIG 1 20) ∧ es.length ≤ 1000 ∧ ws.length ≤ 1000 ∧
  ∀ (H' : Hp), Same H0 H' → RbAt cR (nw H0 H') r (rbOf es ws) → Q .non H'
section
variable {P : Program} {w : World} {K : PySem.W.Frag} {mg : Str → Option Value} {base : Heap} {cL cM cH cR cB : Addr}
theorem scRuleOf : FnScope ["word", "signs", "least", "most", "sign"] ["word", "signs", "least", "most"] (defScope sRuleOf) := ⟨rfl, rfl, rfl, by decide +kernel, rfl, by decide +kernel, by decide +kernel⟩
theorem ok_ruleof {f : Addr} {fd : FuncData} (F : Fun K "rule_is_of" "rule_is_of" sRuleOf f fd) (T : Txt K mg cL cM cH cR) :
    FnOk P w K mg base CX0 1 f fd ["word", "signs", "least", "most"] spRuleOf := by
  refine F.ok scRuleOf (fun vs H Q E h => ?_) (fun cdv A outer s H vs Q E hr h => ?_)
  · obtain ⟨z, sg, lo, hi, rfl, _⟩ := h
    rfl
  · obtain ⟨z, sg, lo, hi, rfl, ok, k⟩ := h
    have hu := hu_of hr
    have nd := scRuleOf.nd
    have hf := ok.few
    refine ⟨_, (pss_one (ps_ret (pe_and (pe_chain op_le op_le (pv 2) (pe_callB call_len_str (by rfl) T.len PySem.boot_len (pa_cons (pv 0) pa_nil)) (pv 3)) (pe_one (pe_callB (call_allK K) (by rfl) T.all (by decide +kernel) (pa_cons (pe_lc (own := [("sign", 4)]) (g := gName 4) (tt := tYes) rfl nd (pi_str (pv 0)) (blkOk_by (own := [("sign", 4)]) (N := ["word", "signs", "least", "most", "sign"]) (sc := (defScope sRuleOf)) (by decide +kernel)) (fun _ _ _ _ _ => (pg_name (i := 4) nd rfl (.inl rfl))) (fun _ _ _ _ _ => pts_nil) (fun _ _ _ _ _ => (pe_cmpR op_in_sign (pv 4) (pv 1) rfl))) pa_nil)))))), ?_⟩
    refine ⟨_, rfl, _, rfl, _, rfl, small_sz' (by omega), ?_⟩
    refine ⟨_, _, rfl, rfl, _, rfl, ?_⟩
    refine ifdT ok.lo_ ?_
    refine ⟨_, rfl, _, _, rfl, rfl, _, rfl, ?_⟩
    refine ifdT ok.hi_ ?_
    refine ⟨_, rfl, z, rfl, fun D hD => lc_it walk_str (fun i H' => Same H H' ∧ ∃ xs, H' D = some (.lst xs) ∧ xs.length = i ∧ ∀ x ∈ xs, x = V.bl true)
      ⟨same_upd hD, [], upd_same, rfl, by simp⟩ (fun _ _ _ _ => trivial) ?_ ?_⟩
    · rintro i x H1 H2 hi ⟨s1, xs, hx, hl, ha⟩ ⟨eH, c, hc, rfl⟩
      subst eH
      refine ⟨rfl, ?_⟩
      have hm : c ∈ z.cps.toList := by
        obtain ⟨h1, h2⟩ := Array.getElem?_eq_some_iff.mp hc
        rw [← h2]; exact Array.mem_toList_iff.mpr (Array.getElem_mem h1)
      refine ⟨_, rfl, _, rfl, c, _, rfl, rfl, ?_⟩
      refine ⟨xs, hx, small_sz (by have : z.cps.size = z.length := rfl; omega), same_wr s1 hD, xs ++ [_], upd_same, by rw [List.length_append, hl]; rfl, fun y hy => ?_⟩
      rcases List.mem_append.mp hy with h | h
      · exact ha y h
      · rw [List.mem_singleton.mp h]
        exact congrArg V.bl (decide_eq_true (ok.sgn c hm))
    · rintro H1 ⟨s1, xs, hx, hl, ha⟩
      refine ⟨D, List.replicate z.cps.size true, rfl, ?_, ?_⟩
      · rw [← reps hl ha]; exact SqL.of hx
      · rw [all_rep]; exact k H1 s1
theorem scRuleFits : FnScope ["ending", "instead", "least"] ["ending", "instead", "least"] (defScope sRuleFits) := ⟨rfl, rfl, rfl, by decide +kernel, rfl, by decide +kernel, by decide +kernel⟩
theorem ok_rulefits {f : Addr} {fd : FuncData} (F : Fun K "rule_fits" "rule_fits" sRuleFits f fd) (T : Txt K mg cL cM cH cR)
    (cRuleOf : Cal P w K mg base 1 "rule_is_of" ["word", "signs", "least", "most"] spRuleOf) :
    FnOk P w K mg base CX0 2 f fd ["ending", "instead", "least"] spRuleFits := by
  refine F.ok scRuleFits (fun vs H Q E h => ?_) (fun cdv A outer s H vs Q E hr h => ?_)
  · obtain ⟨e, rfl, _⟩ := h
    rfl
  · obtain ⟨e, rfl, ok, k⟩ := h
    have hu := hu_of hr
    obtain ⟨t1, gRL⟩ := T.gRL
    obtain ⟨t2, gLE⟩ := T.gLE
    obtain ⟨t3, gML⟩ := T.gML
    have hf := ok.a.few
    refine ⟨_, (pss_cons (ps_if (pt_not (pt_val (pe_cal cRuleOf hr (pa_cons (pv 0) (pa_cons (pe_gstr gRL) (pa_cons pe_int (pa_cons (pe_gint gLE) pa_nil))))))) (pss_one (ps_ret pe_bl)) pss_nil)
      (pss_one (ps_ret (pe_and (pe_cal cRuleOf hr (pa_cons (pv 1) (pa_cons (pe_gstr gRL) (pa_cons pe_int (pa_cons (pe_callB call_len_str (by rfl) T.len PySem.boot_len (pa_cons (pv 0) pa_nil)) pa_nil))))) (pe_one (pe_chain op_le op_le pe_int (pv 2) (pe_gint gML))))))), ?_⟩
    refine ⟨_, rfl, e.1, RLET, 1, 8, rfl, ok.a, fun H1 s1 => ⟨_, rfl, ?_⟩⟩
    refine iteF ?_
    refine ⟨_, rfl, _, rfl, _, rfl, small_sz' (by omega), e.2.1, RLET, 0, (e.1.length : Nat), rfl, ok.b, fun H2 s2 => ⟨_, rfl, ?_⟩⟩
    refine iteT ?_
    refine ⟨_, rfl, _, _, rfl, rfl, _, rfl, ?_⟩
    refine ifdT ok.l1 ?_
    refine ⟨_, _, rfl, rfl, ?_⟩
    have e2 : decide (e.2.2 ≤ 20) = true := decide_eq_true ok.l2
    show Q (.bl (decide (e.2.2 ≤ 20))) H2
    rw [e2]
    exact k H2 (Same.trans s1 s2)
theorem scRInit : FnScope ["self", "endings", "silent", "ending", "instead", "least", "word"] ["self", "endings", "silent"] (defScope sRInit) := ⟨rfl, rfl, rfl, by decide +kernel, rfl, by decide +kernel, by decide +kernel⟩
theorem ok_rinit {f : Addr} {fd : FuncData} (F : Fun K "__init__" "Rulebook.__init__" sRInit f fd) (T : Txt K mg cL cM cH cR)
    (cRuleOf : Cal P w K mg base 1 "rule_is_of" ["word", "signs", "least", "most"] spRuleOf) (cRuleFits : Cal P w K mg base 2 "rule_fits" ["ending", "instead", "least"] spRuleFits) :
    FnOk P w K mg base CX0 3 f fd ["self", "endings", "silent"] (spRInit K cR) := by
  refine F.ok scRInit (fun vs H Q E h => ?_) (fun cdv A outer s H vs Q E hr h => ?_)
  · obtain ⟨H0, r, dx, a, b, xs, es, ws, rfl, _⟩ := h
    rfl
  · obtain ⟨H0, r, dx, a, b, xs, es, ws, rfl, s0, nr, hrr, qa, da, qb, oke, nde, ndw, okw, hle, hlw, k⟩ := h
    have hu := hu_of hr
    have nd := scRInit.nd
    obtain ⟨t1, gRS⟩ := T.gRS
    obtain ⟨t2, gLP⟩ := T.gLP
    refine ⟨_, (pss_cons (ps_fld (pv 0) pe_dnewK rfl)
      (pss_cons (ps_for PassesOwn.never rfl (pi_list (pv 1)) (pg_tup rfl (pgs_cons (pg_name (i := 3) nd rfl (.inl rfl)) (pgs_cons (pg_name (i := 4) nd rfl (.inl rfl)) (pgs_cons (pg_name (i := 5) nd rfl (.inl rfl)) pgs_nil))))
          (pss_cons (ps_if (PW.pt (pw_or (pt_not (pt_val (pe_cal cRuleFits hr (pa_cons (pv 3) (pa_cons (pv 4) (pa_cons (pv 5) pa_nil)))))) (pw_or1 (pt_cmp (pc_din hu (pv 3) (pe_fld (pv 0) rfl)))))) (pss_one ps_never) pss_nil)
          (pss_one (ps_dput hu (pe_fld (pv 0) rfl) (pv 3) (pe_tup (pa_cons (pv 4) (pa_cons (pv 5) pa_nil))) rfl))))
      (pss_cons (ps_fld (pv 0) pe_dnewK rfl)
      (pss_one (ps_for PassesOwn.never rfl (pi_list (pv 2)) (pg_name (i := 6) nd rfl (.inl rfl))
          (pss_cons (ps_if (PW.pt (pw_or (pt_not (pt_val (pe_cal cRuleOf (hr.mono (by decide)) (pa_cons (pv 6) (pa_cons (pe_gstr gRS) (pa_cons pe_int (pa_cons (pe_gint gLP) pa_nil))))))) (pw_or1 (pt_cmp (pc_din hu (pv 6) (pe_fld (pv 0) rfl)))))) (pss_one ps_never) pss_nil)
          (pss_one (ps_dput hu (pe_fld (pv 0) rfl) (pv 6) pe_bl rfl)))))))), ?_⟩
    -- self.tails = {}
    intro d1 hd1
    have nrd1 : r ≠ d1 := ne_of_none hrr hd1
    have zd1 : H0 d1 = none := Same.free s0 hd1
    have s1 : Same H0 (upd (upd H d1 (.dK [])) r (.ins cR dx (putF "tails" (.ref d1) []))) := same_wr (Same.trans s0 (same_upd hd1)) nr
    have hr1 := same_upd (o := .dK []) hd1 _ _ hrr
    refine ⟨_, rfl, r, cR, dx, _, rfl, hr1, T.rC, T.r1, (by show 0 < 1000; decide), ?_⟩
    have r1 : (upd (upd H d1 (.dK [])) r (.ins cR dx (putF "tails" (.ref d1) []))) r = some (.ins cR dx (putF "tails" (.ref d1) [])) := upd_same
    have k1 : (upd (upd H d1 (.dK [])) r (.ins cR dx (putF "tails" (.ref d1) []))) d1 = some (.dK []) := by rw [upd_ne nrd1.symm]; exact upd_same
    generalize upd (upd H d1 (.dK [])) r (.ins cR dx (putF "tails" (.ref d1) [])) = H1 at s1 r1 k1 ⊢
    have hT : (putF "tails" (.ref d1) [] : List (Str × V)).lookup ("tails" : Str) = some (.ref d1) := by rw [lookup_putF, if_pos rfl]
    have hex : xs.length = es.length := by rw [DpAll.length da, List.length_map]
    refine ⟨_, rfl, a, rfl, ⟨_, Same.seq s1 qa⟩, ?_⟩
    refine for_it (walk_list (xs := xs)) (fun i σ H' => ∃ (x3 x4 x5 x6 : Option V) (kv : List (Key × V)), σ = [some (.ref r), some (.ref a), some (.ref b), x3, x4, x5, x6] ∧ Same H0 H' ∧ H' r = some (.ins cR dx (putF "tails" (.ref d1) [])) ∧ H' d1 = some (.dK kv) ∧ kv.length ≤ i ∧ (∀ x : Str, TailV (nw H0 H') (valV kv (.inr x)) (aget (es.take i) x)))
      ⟨none, none, none, none, [], rfl, s1, r1, k1, Nat.le_refl _, fun x => trivial⟩ (fun i σ H' _ ⟨_, _, _, _, _, _, q, _⟩ => Same.seq q qa) ?_ ?_
    · rintro i x σ H' H2 hi ⟨x3, x4, x5, x6, kv, rfl, sH, rH, dH, hkl, hT1⟩ ⟨eH, ex⟩
      subst eH
      obtain ⟨e, he, de⟩ := dpall_map da ex
      obtain ⟨ae, rfl, qe⟩ := dp_en de
      have hmem := List.mem_of_getElem? he
      have ok := oke e hmem
      have hnew : aget (es.take i) e.1 = none := by
        have e1 : es.take (i + 1) = es.take i ++ [e] := by
          obtain ⟨hi, e5⟩ := List.getElem?_eq_some_iff.mp he
          rw [List.take_succ_eq_append_getElem hi, e5]
        have n2 : ((es.take (i + 1)).map (·.1)).Nodup := nde.sublist ((List.take_sublist _ _).map _)
        rw [e1, List.map_append] at n2
        refine (aget_none_iff _ _).mpr fun hm => ?_
        exact (List.nodup_append.mp n2).2.2 _ hm _ (by simp) rfl
      refine ⟨ae, _, rfl, Same.tup sH qe, rfl, _, _, rfl, _, _, rfl, _, _, rfl, rfl, ?_⟩
      refine ⟨_, rfl, _, rfl, _, rfl, e, rfl, ok, fun H3 s3 => ⟨_, rfl, ?_⟩⟩
      refine iteF ?_
      have r3 := s3 _ _ rH
      have d3 := s3 _ _ dH
      have s03 := Same.trans sH s3
      have hv : valV kv (.inr e.1) = none := by
        have := hT1 e.1
        rw [hnew] at this
        cases hv : valV kv (.inr e.1) with
        | none => rfl
        | some y => rw [hv] at this; exact this.elim
      refine ⟨_, rfl, _, rfl, r, cR, dx, _, _, rfl, r3, T.rC, T.r1, hT, d1, _, rfl, DGet.k (k := Sum.inr e.1) d3, _, rfl, ?_⟩
      refine ifbF (by rw [hv]; rfl) ?_
      -- self.tails[ending] = (instead, least)
      refine ⟨_, rfl, _, rfl, by show 2 ≤ sizeLine; decide, fun p hp => ?_⟩
      have s4 := same_upd (o := .tup [.str e.2.1, .int e.2.2]) hp
      have r4 := s4 _ _ r3
      have d4 := s4 _ _ d3
      have p4 : (upd H3 p (.tup [.str e.2.1, .int e.2.2])) p = some (.tup [.str e.2.1, .int e.2.2]) := upd_same
      have s04 := Same.trans s03 s4
      have zp : H0 p = none := Same.free s03 hp
      have hT4 : ∀ x : Str, TailV (nw H0 (upd H3 p (.tup [.str e.2.1, .int e.2.2]))) (valV kv (.inr x)) (aget (es.take i) x) := fun x => TailV.mono (nw_same (Same.trans s3 s4)) (hT1 x)
      generalize upd H3 p (.tup [.str e.2.1, .int e.2.2]) = H4 at s4 r4 d4 p4 s04 hT4 ⊢
      have npd : p ≠ d1 := fun z => by rw [z, d4] at p4; cases p4
      refine ⟨_, rfl, r, cR, dx, _, _, rfl, r4, T.rC, T.r1, hT, _, rfl, d1, _, rfl, DPut.k (k := Sum.inr e.1) d4 (small_sz (by omega)), ?_⟩
      refine ⟨_, _, _, _, _, rfl, same_wr s04 zd1, by rw [upd_ne nrd1]; exact r4, upd_same, ?_, fun x => ?_⟩
      · exact Nat.le_trans (length_putK _ _ _) (Nat.succ_le_succ hkl)
      · rw [valV_put]
        have e1 : es.take (i + 1) = es.take i ++ [e] := by
          obtain ⟨hi, e5⟩ := List.getElem?_eq_some_iff.mp he
          rw [List.take_succ_eq_append_getElem hi, e5]
        rw [e1]
        by_cases hx : x = e.1
        · subst hx
          rw [if_pos rfl, aget_snoc, hnew]
          show TailV _ _ (if e.1 = e.1 then some e.2 else none)
          rw [if_pos rfl]
          exact ⟨p, rfl, by rw [nw_none zp, upd_ne npd]; exact p4⟩
        · rw [if_neg (fun z => hx (Sum.inr.inj z)), aget_snoc]
          have := tailv_upd (u := .dK (putK kv (.inr e.1) (.ref p))) d4 (fun xs z => by cases z) (hT4 x)
          cases hq : aget (es.take i) x with
          | none => rw [hq] at this; show TailV _ _ (if e.1 = x then some e.2 else none); rw [if_neg (fun z => hx z.symm)]; exact this
          | some y => rw [hq] at this; exact this
    · rintro σ H2 ⟨x3, x4, x5, x6, kv, rfl, s2, r2, k2, hkl, hT2⟩
      rw [hex, List.take_length] at hT2
      -- self.hushed = {}
      intro d2 hd2
      have nrd2 : r ≠ d2 := ne_of_none r2 hd2
      have nd12 : d1 ≠ d2 := ne_of_none k2 hd2
      have zd2 : H0 d2 = none := Same.free s2 hd2
      have sd2 := same_upd (o := .dK []) hd2
      refine ⟨_, rfl, r, cR, dx, _, rfl, sd2 _ _ r2, T.rC, T.r2, Nat.lt_of_le_of_lt (putF_len _ _ _) (by decide), ?_⟩
      have hrN : ∀ xs, (HO.ins cR dx (putF "tails" (.ref d1) [])) ≠ .tup xs := fun xs z => by cases z
      have hT3 : ∀ x : Str, TailV (nw H0 (upd (upd H2 d2 (.dK [])) r (.ins cR dx (rbF d1 d2)))) (valV kv (.inr x)) (aget es x) := fun x => tailv_upd (sd2 _ _ r2) hrN (TailV.mono (nw_same sd2) (hT2 x))
      have s3 : Same H0 (upd (upd H2 d2 (.dK [])) r (.ins cR dx (rbF d1 d2))) := same_wr (Same.trans s2 sd2) nr
      have r3 : (upd (upd H2 d2 (.dK [])) r (.ins cR dx (rbF d1 d2))) r = some (.ins cR dx (rbF d1 d2)) := upd_same
      have k3 : (upd (upd H2 d2 (.dK [])) r (.ins cR dx (rbF d1 d2))) d1 = some (.dK kv) := by rw [upd_ne nrd1.symm]; exact sd2 _ _ k2
      have h3 : (upd (upd H2 d2 (.dK [])) r (.ins cR dx (rbF d1 d2))) d2 = some (.dK []) := by rw [upd_ne nrd2.symm]; exact upd_same
      refine ⟨_, rfl, b, rfl, ⟨_, Same.seq s3 qb⟩, ?_⟩
      refine for_it (walk_list (xs := ws.map V.str)) (fun i σ H' => ∃ (x3 x4 x5 x6 : Option V) (kv2 : List (Key × V)), σ = [some (.ref r), some (.ref a), some (.ref b), x3, x4, x5, x6] ∧ Same H0 H' ∧ H' r = some (.ins cR dx (rbF d1 d2)) ∧ H' d1 = some (.dK kv) ∧ H' d2 = some (.dK kv2) ∧ kv2.length ≤ i ∧ (∀ x : Str, TailV (nw H0 H') (valV kv (.inr x)) (aget es x)) ∧ ∀ x : Str, (valV kv2 (.inr x)).isSome = decide (x ∈ ws.take i))
        ⟨x3, x4, x5, x6, [], rfl, s3, r3, k3, h3, Nat.le_refl _, hT3, fun x => by simp [valV]⟩ (fun i σ H' _ ⟨_, _, _, _, _, _, q, _⟩ => Same.seq q qb) ?_ ?_
      · rintro i x σ H' H4 hi ⟨x3, x4, x5, x6, kv2, rfl, sH, rH, dH, hH, hkl2, hTH, hhH⟩ ⟨eH, ex⟩
        subst eH
        rw [List.getElem?_map] at ex
        obtain ⟨z, hz1, rfl⟩ : ∃ z, ws[i]? = some z ∧ x = V.str z := by
          cases e : ws[i]? with
          | none => rw [e] at ex; cases ex
          | some z => rw [e] at ex; exact ⟨z, rfl, (Option.some.inj ex).symm⟩
        have okz := okw z (List.mem_of_getElem? hz1)
        have e1 : ws.take (i + 1) = ws.take i ++ [z] := by
          obtain ⟨hi, e5⟩ := List.getElem?_eq_some_iff.mp hz1
          rw [List.take_succ_eq_append_getElem hi, e5]
        have hnz : z ∉ ws.take i := by
          have n2 : (ws.take (i + 1)).Nodup := ndw.sublist (List.take_sublist _ _)
          rw [e1] at n2
          exact fun hm => (List.nodup_append.mp n2).2.2 _ hm _ (by simp) rfl
        refine ⟨_, rfl, _, RSIG, 1, 20, rfl, okz, fun H5 s5 => ⟨_, rfl, ?_⟩⟩
        refine iteF ?_
        have r5 := s5 _ _ rH
        have d5 := s5 _ _ dH
        have h5 := s5 _ _ hH
        have s05 := Same.trans sH s5
        refine ⟨_, rfl, _, rfl, r, cR, dx, _, _, rfl, r5, T.rC, T.r2, rbF_hushed _ _, d2, _, rfl, DGet.k (k := Sum.inr z) h5, _, rfl, ?_⟩
        refine ifbF (by rw [hhH]; exact decide_eq_false hnz) ?_
        refine ⟨_, rfl, r, cR, dx, _, _, rfl, r5, T.rC, T.r2, rbF_hushed _ _, _, rfl, d2, _, rfl, DPut.k (k := Sum.inr z) h5 (small_sz (by have : i < ws.length := (List.getElem?_eq_some_iff.mp hz1).1; omega)), ?_⟩
        refine ⟨_, _, _, _, _, rfl, same_wr s05 zd2, by rw [upd_ne nrd2]; exact r5, by rw [upd_ne nd12]; exact d5, upd_same, Nat.le_trans (length_putK _ _ _) (Nat.succ_le_succ hkl2), fun x => tailv_upd h5 (fun xs z => by cases z) (TailV.mono (nw_same s5) (hTH x)), fun x => ?_⟩
        rw [valV_put, e1]
        by_cases hx : x = z
        · subst hx
          simp
        · rw [if_neg (fun y => hx (Sum.inr.inj y)), hhH]
          simp [hx]
      · rintro σ H4 ⟨x3, x4, x5, x6, kv2, rfl, s4, r4, d4, h4, _, hT4, hh4⟩
        rw [show (ws.map V.str).length = ws.length by simp, List.take_length] at hh4
        refine k H4 s4 ⟨dx, d1, d2, kv, kv2, ?_, ?_, ?_, hT4, hh4⟩
        · rw [nw_none nr]; exact r4
        · rw [nw_none zd1]; exact d4
        · rw [nw_none zd2]; exact h4
end
end KR
set_option maxHeartbeats 1000000
namespace KR
open PySem PySem.Spec PyProof.Rows L2
def Tp (H : Hp) (l : Addr) : Prop := ∃ x y : Int, H l = some (.lst [.int x, .int y])
def CellOk (c : Int) : Prop := Builtin.Int.intBits c ≤ 2000000
def spNth (K : PySem.W.Frag) : Sp := fun vs H Q _ => ∃ (a : Addr) (ns : List Int) (k : Nat), vs = [.ref a, .int (k : Int)] ∧ SqL K H a (ns.map V.int) ∧ Q (.int (ns.getD k 0)) H
def spTape : Sp := fun vs H Q _ => ∃ (c : Int) (b : Bool), vs = [.int c, .bl b] ∧ CellOk c ∧ ∀ (l : Addr) (x y : Int), H l = none → Q (.ref l) (upd H l (.lst [.int x, .int y]))
def spDigit : Sp := fun vs H Q _ => ∃ (l : Addr) (x y m : Int), vs = [.ref l, .int m] ∧ H l = some (.lst [.int x, .int y]) ∧ 0 < m ∧ m < 1000000 ∧ ∀ (d x' y' : Int), 0 ≤ d → d < m → Q (.int d) (upd H l (.lst [.int x', .int y']))
section
variable {P : Program} {w : World} {K : PySem.W.Frag} {mg : Str → Option Value} {base : Heap} {cL cM cH cR cB : Addr}
theorem scNth : FnScope ["_law_script", "_law_k"] ["_law_script", "_law_k"] (defScope sNth) := ⟨rfl, rfl, rfl, by decide +kernel, rfl, by decide +kernel, by decide +kernel⟩
theorem ok_nth {f : Addr} {fd : FuncData} (F : Fun K "_law_nth" "_law_nth" sNth f fd) (T : Txt K mg cL cM cH cR) :
    FnOk P w K mg base CX0 1 f fd ["_law_script", "_law_k"] (spNth K) := by
  refine F.ok scNth (fun vs H Q E h => ?_) (fun cdv A outer s H vs Q E hr h => ?_)
  · obtain ⟨a, ns, k, rfl, _⟩ := h
    rfl
  · obtain ⟨a, ns, k, rfl, q, kk⟩ := h
    refine ⟨_, (pss_one (ps_ret (pe_ifExp (pt_cmpR op_lt (pv 1) (pe_callB (call_lenK K) (by rfl) T.len PySem.boot_len (pa_cons (pv 0) pa_nil)) (nomark _)) (pe_ix ix_list (pv 0) (pv 1) (fun _ _ => rfl)) pe_int))), ?_⟩
    refine ⟨_, rfl, _, rfl, a, _, rfl, .inl q, _, _, rfl, rfl, _, rfl, ?_⟩
    rw [List.length_map]
    by_cases hk : k < ns.length
    · refine ifdT (by omega) ?_
      refine ⟨_, rfl, _, rfl, a, _, _, .int (ns.getD k 0), rfl, rfl, q, ?_, kk⟩
      refine atI_nat ?_
      rw [List.getElem?_map, List.getD_eq_getElem?_getD, List.getElem?_eq_getElem hk]
      rfl
    · refine ifdF (by omega) ?_
      have e : ns.getD k 0 = 0 := by rw [List.getD_eq_getElem?_getD, List.getElem?_eq_none (by omega)]; rfl
      rw [e] at kk
      exact kk
theorem scTape : FnScope ["_law_cell", "_law_plain", "_law_number"] ["_law_cell", "_law_plain"] (defScope sTape) := ⟨rfl, rfl, rfl, by decide +kernel, rfl, by decide +kernel, by decide +kernel⟩
theorem ok_tape {f : Addr} {fd : FuncData} (F : Fun K "_law_tape" "_law_tape" sTape f fd) (T : Txt K mg cL cM cH cR) :
    FnOk P w K mg base CX0 1 f fd ["_law_cell", "_law_plain"] spTape := by
  refine F.ok scTape (fun vs H Q E h => ?_) (fun cdv A outer s H vs Q E hr h => ?_)
  · obtain ⟨c, b, rfl, _⟩ := h
    rfl
  · obtain ⟨c, b, rfl, hc, k⟩ := h
    have nd := scTape.nd
    refine ⟨_, (pss_cons (ps_set (i := 2) nd rfl (.inl rfl) (pe_op op_mod (pe_op op_add (pe_op op_mulX (pv 0) (pe_op op_pow pe_int pe_int)) (pe_op op_pow pe_int pe_int)) (pe_op op_sub (pe_op op_pow pe_int pe_int) pe_int)))
      (pss_one (ps_ret (pe_lst (pa_cons (pe_op op_mul (pv 0) (pe_callTy call_int1 (by rfl) T.int (by decide +kernel) (pa_cons (pv 1) pa_nil))) (pa_cons (pe_op op_mod (pe_op op_mulX (pv 2) (pv 2)) (pe_op op_add (pe_op op_pow pe_int pe_int) pe_int)) pa_nil)))))), ?_⟩
    refine ⟨_, rfl, _, _, rfl, rfl, ⟨by decide, by decide, by decide +kernel⟩, ?_⟩
    refine ⟨_, _, rfl, rfl, ?_, ?_⟩
    · unfold CMulX
      unfold CellOk at hc
      have e : Builtin.Int.intBits ((48271 : Int) ^ (9 : Int).toNat) ≤ 1000 := by decide +kernel
      omega
    refine ⟨_, _, rfl, rfl, ⟨by decide, by decide, by decide +kernel⟩, ?_⟩
    refine ⟨_, _, rfl, rfl, ?_⟩
    refine ⟨_, _, rfl, rfl, ⟨by decide, by decide, by decide +kernel⟩, ?_⟩
    refine ⟨_, _, rfl, rfl, ?_⟩
    have em : (10 : Int) ^ (64 : Int).toNat - 59 = 9999999999999999999999999999999999999999999999999999999999999941 := by decide +kernel
    have em2 : (10 : Int) ^ (64 : Int).toNat + 13 = 10000000000000000000000000000000000000000000000000000000000000013 := by decide +kernel
    have hb : ∀ z : Int, (z % 9999999999999999999999999999999999999999999999999999999999999941).natAbs < 2 ^ 213 := fun z => by
      have h1 := Int.emod_nonneg z (show (9999999999999999999999999999999999999999999999999999999999999941 : Int) ≠ 0 by decide +kernel)
      have h2 := Int.emod_lt_of_pos z (show (0 : Int) < 9999999999999999999999999999999999999999999999999999999999999941 by decide +kernel)
      omega
    refine ⟨_, 9999999999999999999999999999999999999999999999999999999999999941, rfl, congrArg V.int em, by show (0 : Int) < _; decide +kernel, ?_⟩
    refine ⟨_, rfl, _, rfl, .inr ⟨b, rfl, ?_⟩⟩
    refine ⟨_, _, rfl, rfl, .inr (by cases b <;> exact ⟨by decide +kernel, by decide +kernel⟩), ?_⟩
    refine ⟨_, rfl, _, rfl, _, _, rfl, rfl, mulx_ok (hb _) (hb _) (by decide), ?_⟩
    refine ⟨_, _, rfl, rfl, ⟨by decide, by decide, by decide +kernel⟩, ?_⟩
    refine ⟨_, _, rfl, rfl, ?_⟩
    refine ⟨_, 10000000000000000000000000000000000000000000000000000000000000013, rfl, congrArg V.int em2, by show (0 : Int) < _; decide +kernel, ?_⟩
    exact ⟨by show 2 ≤ sizeLine; decide, fun l hl => k l _ _ hl⟩
theorem scDigit : FnScope ["_law_tape_here", "_law_many", "_law_k", "_law_digit_here"] ["_law_tape_here", "_law_many"] (defScope sDigit) := ⟨rfl, rfl, rfl, by decide +kernel, rfl, by decide +kernel, by decide +kernel⟩
theorem ok_digit {f : Addr} {fd : FuncData} (F : Fun K "_law_digit" "_law_digit" sDigit f fd) (T : Txt K mg cL cM cH cR) :
    FnOk P w K mg base CX0 1 f fd ["_law_tape_here", "_law_many"] spDigit := by
  refine F.ok scDigit (fun vs H Q E h => ?_) (fun cdv A outer s H vs Q E hr h => ?_)
  · obtain ⟨l, x, y, m, rfl, _⟩ := h
    rfl
  · obtain ⟨l, x, y, m, rfl, hl, m0, m1, k⟩ := h
    have nd := scDigit.nd
    refine ⟨_, (pss_cons (ps_set (i := 2) nd rfl (.inl rfl) (pe_callTy call_int1 (by rfl) T.int (by decide +kernel) (pa_cons (pe_cmpR op_eq (pe_ix ix_list (pv 0) pe_int (fun _ _ => rfl)) pe_int (nomark _)) pa_nil)))
      (pss_cons (ps_set (i := 3) nd rfl (.inl rfl) (pe_op op_mod (pe_ix ix_list (pv 0) (pv 2) (fun _ _ => rfl)) (pv 1)))
      (pss_cons (ps_asg (pe_op op_fdiv (pe_ix ix_list (pv 0) (pv 2) (fun _ _ => rfl)) (pv 1)) (pg_sub (pv 0) (pv 2) set_list))
      (pss_one (ps_ret (pv 3)))))), ?_⟩
    refine ⟨_, rfl, l, _, 0, .int x, rfl, rfl, SqL.of hl, rfl, rfl, .inr ⟨_, rfl, ?_⟩⟩
    obtain ⟨j, v, z, hj, ej, hat, hix, hset⟩ : ∃ (j : Int) (v : Int) (z : Nat), (if decide ((V.int x) = V.int 0) = true then (1 : Int) else 0) = j ∧ (j = (z : Int)) ∧ atI [V.int x, V.int y] j = some (.int v) ∧ ixN 2 j = some z ∧ ∀ u : Int, ∃ x' y' : Int, [V.int x, V.int y].set z (.int u) = [.int x', .int y'] := by
      by_cases hx : V.int x = V.int 0
      · rw [decide_eq_true hx]
        exact ⟨1, y, 1, rfl, rfl, rfl, rfl, fun u => ⟨x, u, rfl⟩⟩
      · rw [decide_eq_false hx]
        exact ⟨0, x, 0, rfl, rfl, rfl, rfl, fun u => ⟨u, y, rfl⟩⟩
    rw [hj]
    refine ⟨_, rfl, _, rfl, l, _, j, .int v, rfl, rfl, SqL.of hl, hat, _, rfl, _, _, rfl, rfl, m0, ?_⟩
    refine ⟨_, rfl, _, rfl, l, _, j, .int v, rfl, rfl, SqL.of hl, hat, _, rfl, _, _, rfl, rfl, ⟨m0, by omega⟩, ?_⟩
    refine ⟨_, rfl, _, rfl, l, _, j, z, rfl, rfl, hl, hix, ?_⟩
    obtain ⟨x', y', e⟩ := hset (v / m)
    rw [e]
    exact ⟨_, rfl, k _ x' y' (Int.emod_nonneg _ (by omega)) (Int.emod_lt_of_pos _ m0)⟩
end
end KR
set_option maxHeartbeats 1000000
namespace KR
open PySem PySem.Spec PyProof.Rows L2
theorem at_mem {α : Type} {xs : List α} {d : Int} (h0 : 0 ≤ d) (h : d < (xs.length : Nat)) : ∃ c, atI xs d = some c ∧ c ∈ xs := by
  obtain ⟨n, rfl⟩ : ∃ n : Nat, d = (n : Int) := ⟨d.toNat, by omega⟩
  have hn : n < xs.length := by omega
  exact ⟨xs[n], atI_nat (List.getElem?_eq_getElem hn), List.getElem_mem hn⟩
theorem at_map {α β : Type} {f : α → β} {xs : List α} {d : Int} {c : α} (h : atI xs d = some c) : atI (xs.map f) d = some (f c) := by
  unfold atI at h ⊢
  rw [List.length_map]
  cases e : ixN xs.length d with
  | none => rw [e] at h; cases h
  | some j =>
    rw [e] at h
    show (xs.map f)[j]? = _
    rw [List.getElem?_map, show xs[j]? = some c from h]
    rfl
theorem app_list (a b : Str) : (a ++ b).cps.toList = a.cps.toList ++ b.cps.toList := by
  show (a.cps ++ b.cps).toList = _
  rw [Array.toList_append]
theorem len_list (a : Str) : a.length = a.cps.toList.length := by
  show a.cps.size = _
  simp
theorem join_list : ∀ ys : List Str, (Str.join "" ys).cps.toList = (ys.map fun y => y.cps.toList).flatten
  | [] => rfl
  | [x] => by simp [Str.join]
  | x :: y :: r => by
    show (x ++ "" ++ Str.join "" (y :: r)).cps.toList = _
    rw [app_list, app_list, join_list (y :: r)]
    have e : ("" : Str).cps.toList = [] := by decide +kernel
    rw [e, List.append_nil]
    rfl
theorem join_signs {G : List Nat} : ∀ {ys : List Str}, (∀ y ∈ ys, ∃ c, y = ⟨#[c]⟩ ∧ c ∈ G) → ((ys.map fun y => y.cps.toList).flatten).length = ys.length ∧ ∀ c ∈ (ys.map fun y => y.cps.toList).flatten, c ∈ G
  | [], _ => ⟨rfl, by simp⟩
  | y :: ys, h => by
    obtain ⟨c, e, hc⟩ := h y List.mem_cons_self
    obtain ⟨h1, h2⟩ := join_signs fun z hz => h z (List.mem_cons_of_mem _ hz)
    subst e
    refine ⟨?_, fun d hd => ?_⟩
    · rw [List.map_cons, List.flatten_cons, List.length_append, h1]; simp; omega
    · rw [List.map_cons, List.flatten_cons] at hd
      rcases List.mem_append.mp hd with q | q
      · have : d = c := by simpa using q
        rw [this]; exact hc
      · exact h2 d q
theorem hlet_len : HLET.cps.toList.length = 26 := by decide +kernel
theorem hsig_len : HSIG.cps.toList.length = 94 := by decide +kernel
def SOMES : List Str := ["cat", "Cats", "the", "running", "a1", "flies", "of", "s", "singing", "x", "bus", "catS", "the7", "ing"]
def SEPS : List Str := [" ", "-", ", ", "."]
theorem somes_ok : ∀ z ∈ SOMES, z.length ≤ 7 ∧ ∀ c ∈ z.cps.toList, c ∈ HSIG.cps.toList := by decide +kernel
theorem seps_ok : ∀ z ∈ SEPS, z.length ≤ 2 ∧ ∀ c ∈ z.cps.toList, c ∈ HSIG.cps.toList := by decide +kernel
def spName : Sp := fun vs H Q _ => ∃ (l o : Addr) (mo : Int) (ns : List Str), vs = [.ref l, .ref o, .int mo] ∧ Tp H l ∧ H o = some (.lst (ns.map V.str)) ∧ o ≠ l ∧ (∀ z ∈ ns, NameOk z) ∧ 1 ≤ mo ∧ ns.length ≤ 1000 ∧
  ∀ (H' : Hp) (z : Str), Same (del H l) H' → Tp H' l → NameOk z → Q (.str z) H'
def spText : Sp := fun vs H Q _ => ∃ (l : Addr) (b : Bool), vs = [.ref l, .bl b] ∧ Tp H l ∧ ∀ (H' : Hp) (z : Str), Same (del H l) H' → Tp H' l → PartOk z → Q (.str z) H'
def spParts (K : PySem.W.Frag) : Sp := fun vs H Q _ => ∃ (l : Addr) (b : Bool), vs = [.ref l, .bl b] ∧ Tp H l ∧ ∀ (H' : Hp) (v : V) (ps : List Str), Same (del H l) H' → Tp H' l → PartsOk ps → Dp K (nw H H') v (partsD ps) → Q v H'
section
variable {P : Program} {w : World} {K : PySem.W.Frag} {mg : Str → Option Value} {base : Heap} {cL cM cH cR cB : Addr}
theorem scName : FnScope ["_law_tape_here", "_law_old", "_law_most", "_law_name_here", "_law_k"] ["_law_tape_here", "_law_old", "_law_most"] (defScope sName) := ⟨rfl, rfl, rfl, by decide +kernel, rfl, by decide +kernel, by decide +kernel⟩
theorem ok_name {f : Addr} {fd : FuncData} (F : Fun K "_law_name" "_law_name" sName f fd) (T : Txt K mg cL cM cH cR)
    (cDigit : Cal P w K mg base 1 "_law_digit" ["_law_tape_here", "_law_many"] spDigit) :
    FnOk P w K mg base CX0 2 f fd ["_law_tape_here", "_law_old", "_law_most"] spName := by
  refine F.ok scName (fun vs H Q E h => ?_) (fun cdv A outer s H vs Q E hr h => ?_)
  · obtain ⟨l, o, mo, ns, rfl, _⟩ := h
    rfl
  · obtain ⟨l, o, mo, ns, rfl, tp, ho, nol, hns, hmo, hlen, k⟩ := h
    have hu := hu_of hr
    have hu2 := Nat.lt_of_succ_lt hu
    have nd := scName.nd
    refine ⟨_, (pss_cons (ps_if (PW.pt (pw_or (pt_cmpR op_ge (pe_callB (call_lenK K) (by rfl) T.len PySem.boot_len (pa_cons (pv 1) pa_nil)) (pv 2) (nomark _)) (pw_or1 (PW.pt (pw_and (pt_cmpR (op_neE hu2) (pv 1) (pe_lst pa_nil) (nomark _)) (pw_and1 (pt_cmpR op_gt (pe_cal cDigit hr (pa_cons (pv 0) (pa_cons pe_int pa_nil))) pe_int (nomark _)))))))) (pss_one (ps_ret (pe_ix ix_list (pv 1) (pe_cal cDigit hr (pa_cons (pv 0) (pa_cons (pe_callB (call_lenK K) (by rfl) T.len PySem.boot_len (pa_cons (pv 1) pa_nil)) pa_nil))) (fun _ _ => rfl)))) pss_nil)
      (pss_cons (ps_set (i := 3) nd rfl (.inl rfl) pe_str)
      (pss_cons (ps_for PassesOwn.never rfl (pi_range1 (by rfl) T.range (pa_cons (pe_op op_add pe_int (pe_cal cDigit hr (pa_cons (pv 0) (pa_cons pe_int pa_nil)))) pa_nil)) (pg_name (i := 4) nd rfl (.inl rfl))
          (pss_one (ps_set (i := 3) nd rfl (.inl rfl) (pe_op op_add_str (pv 3) (pe_ix ix_str pe_str (pe_cal cDigit hr (pa_cons (pv 0) (pa_cons pe_int pa_nil))) (fun _ _ => rfl))))))
      (pss_one (ps_ret (pv 3)))))), ?_⟩
    have hod : (del H l) o = some (.lst (ns.map V.str)) := by rw [del_ne nol]; exact ho
    refine ⟨_, rfl, o, _, rfl, .inl (SqL.of ho), _, rfl, _, _, rfl, rfl, _, rfl, ?_⟩
    by_cases hb : mo ≤ ((ns.map V.str).length : Nat)
    · refine ifdT hb ?_
      refine iteT ?_
      rw [List.length_map] at hb
      have ho1 := (show Same (del H l) H from same_del) _ _ hod
      obtain ⟨x1, y1, hl1⟩ := tp
      refine ⟨_, rfl, _, rfl, _, rfl, o, _, rfl, .inl (SqL.of ho1), l, x1, y1, _, rfl, hl1, by rw [List.length_map]; omega, by rw [List.length_map]; omega, fun d x' y' h0 hd => ?_⟩
      rw [List.length_map] at hd
      obtain ⟨z, hz, hzm⟩ := at_mem (xs := ns) h0 hd
      have s9 : Same (del H l) (upd H l (.lst [.int x', .int y'])) := same_wr (show Same (del H l) H from same_del) del_same
      refine ⟨o, _, d, .str z, rfl, rfl, SqL.of (s9 _ _ hod), at_map hz, k _ z s9 ⟨_, _, upd_same⟩ (hns z hzm)⟩
    · refine ifdF hb ?_
      refine ⟨_, rfl, ?_⟩
      refine ⟨Nat.zero_le _, fun z0 hz0 => ?_⟩
      have s1 := same_upd (o := .lst []) hz0
      have z1 : (upd H z0 (.lst [])) z0 = some (.lst []) := upd_same
      have nz0 : z0 ≠ l := by
        obtain ⟨x, y, hl⟩ := tp
        exact (ne_of_none hl hz0).symm
      have s1d : Same (del H l) (upd H z0 (.lst [])) := Same.trans same_del s1
      have tp1 : Tp (upd H z0 (.lst [])) l := by
        obtain ⟨x, y, hl⟩ := tp
        exact ⟨x, y, s1 _ _ hl⟩
      have ho1 := s1 _ _ ho
      generalize upd H z0 (.lst []) = H1 at s1 z1 s1d tp1 ho1 ⊢
      refine ⟨o, z0, _, rfl, rfl, SqL.of ho1, SqL.of z1, _, rfl, ?_⟩
      by_cases he : ns = []
      · subst he
        refine iteF ?_
        refine iteF ?_
        obtain ⟨x1, y1, hl1⟩ := tp1
        refine ⟨_, rfl, l, x1, y1, 8, rfl, hl1, by decide, by decide, fun d x' y' h0 hd => ?_⟩
        have s5d : Same (del H l) (upd H1 l (.lst [.int x', .int y'])) := same_wr s1d del_same
        have tp5 : Tp (upd H1 l (.lst [.int x', .int y'])) l := ⟨_, _, upd_same⟩
        generalize upd H1 l (.lst [.int x', .int y']) = H5 at s5d tp5 ⊢
        refine ⟨_, _, rfl, rfl, _, rfl, by omega, by omega, ?_⟩
        refine for_it (walk_range (lo := 0) (n := (1 + d).toNat)) (fun i σ H' => ∃ (x4 : Option V) (z : Str), σ = [some (.ref l), some (.ref o), some (.int mo), some (.str z), x4] ∧ Same (del H l) H' ∧ Tp H' l ∧ z.cps.toList.length = i ∧ ∀ c ∈ z.cps.toList, c ∈ HLET.cps.toList)
          ⟨none, "", rfl, s5d, tp5, rfl, fun c hc => by cases hc⟩ (fun _ _ _ _ _ => trivial) ?_ ?_
        · rintro i x σ H' H6 hi ⟨x4, z, rfl, sH, ⟨x6, y6, hl6⟩, hzl, hzs⟩ ⟨eH, rfl⟩
          subst eH
          refine ⟨_, rfl, _, rfl, l, x6, y6, 26, rfl, hl6, by decide, by decide, fun d2 x2' y2' h02 hd2 => ?_⟩
          obtain ⟨c, hc, hcm⟩ := at_mem (xs := HLET.cps.toList) (d := d2) h02 (by rw [hlet_len]; exact hd2)
          refine ⟨HLET, d2, c, rfl, rfl, by decide +kernel, hc, ?_⟩
          have hz7 : z.length ≤ 8 := by rw [len_list]; omega
          refine ⟨_, _, rfl, rfl, small_sz' (by show z.length + 1 ≤ _; omega), ?_⟩
          refine ⟨_, _, rfl, same_wr sH del_same, ⟨_, _, upd_same⟩, ?_, fun c2 hc2 => ?_⟩
          · rw [app_list, List.length_append, hzl]; rfl
          · rw [app_list] at hc2
            rcases List.mem_append.mp hc2 with q | q
            · exact hzs c2 q
            · have : c2 = c := by simpa using q
              rw [this]; exact hcm
        · rintro σ H6 ⟨x4, z, rfl, sH, tp6, hzl, hzs⟩
          exact ⟨_, rfl, k H6 z sH tp6 ⟨by rw [len_list]; omega, by rw [len_list]; omega, hzs⟩⟩
      · refine ifbT (by cases ns with | nil => exact absurd rfl he | cons _ _ => rfl) ?_
        have hpos : 0 < ns.length := List.length_pos_iff.mpr he
        obtain ⟨x1, y1, hl1⟩ := tp1
        refine ⟨_, rfl, l, x1, y1, 3, rfl, hl1, by decide, by decide, fun d x' y' h0 hd => ?_⟩
        have s2d : Same (del H l) (upd H1 l (.lst [.int x', .int y'])) := same_wr s1d del_same
        have tp2 : Tp (upd H1 l (.lst [.int x', .int y'])) l := ⟨_, _, upd_same⟩
        generalize upd H1 l (.lst [.int x', .int y']) = H2 at s2d tp2 ⊢
        refine ⟨_, _, rfl, rfl, _, rfl, ?_⟩
        by_cases hd0 : 0 < d
        · refine ifdT hd0 ?_
          have ho1 := s2d _ _ hod
          obtain ⟨x1, y1, hl1⟩ := tp2
          refine ⟨_, rfl, _, rfl, _, rfl, o, _, rfl, .inl (SqL.of ho1), l, x1, y1, _, rfl, hl1, by rw [List.length_map]; omega, by rw [List.length_map]; omega, fun d x' y' h0 hd => ?_⟩
          rw [List.length_map] at hd
          obtain ⟨z, hz, hzm⟩ := at_mem (xs := ns) h0 hd
          have s9 : Same (del H l) (upd H2 l (.lst [.int x', .int y'])) := same_wr s2d del_same
          refine ⟨o, _, d, .str z, rfl, rfl, SqL.of (s9 _ _ hod), at_map hz, k _ z s9 ⟨_, _, upd_same⟩ (hns z hzm)⟩
        · refine ifdF hd0 ?_
          obtain ⟨x1, y1, hl1⟩ := tp2
          refine ⟨_, rfl, l, x1, y1, 8, rfl, hl1, by decide, by decide, fun d x' y' h0 hd => ?_⟩
          have s5d : Same (del H l) (upd H2 l (.lst [.int x', .int y'])) := same_wr s2d del_same
          have tp5 : Tp (upd H2 l (.lst [.int x', .int y'])) l := ⟨_, _, upd_same⟩
          generalize upd H2 l (.lst [.int x', .int y']) = H5 at s5d tp5 ⊢
          refine ⟨_, _, rfl, rfl, _, rfl, by omega, by omega, ?_⟩
          refine for_it (walk_range (lo := 0) (n := (1 + d).toNat)) (fun i σ H' => ∃ (x4 : Option V) (z : Str), σ = [some (.ref l), some (.ref o), some (.int mo), some (.str z), x4] ∧ Same (del H l) H' ∧ Tp H' l ∧ z.cps.toList.length = i ∧ ∀ c ∈ z.cps.toList, c ∈ HLET.cps.toList)
            ⟨none, "", rfl, s5d, tp5, rfl, fun c hc => by cases hc⟩ (fun _ _ _ _ _ => trivial) ?_ ?_
          · rintro i x σ H' H6 hi ⟨x4, z, rfl, sH, ⟨x6, y6, hl6⟩, hzl, hzs⟩ ⟨eH, rfl⟩
            subst eH
            refine ⟨_, rfl, _, rfl, l, x6, y6, 26, rfl, hl6, by decide, by decide, fun d2 x2' y2' h02 hd2 => ?_⟩
            obtain ⟨c, hc, hcm⟩ := at_mem (xs := HLET.cps.toList) (d := d2) h02 (by rw [hlet_len]; exact hd2)
            refine ⟨HLET, d2, c, rfl, rfl, by decide +kernel, hc, ?_⟩
            have hz7 : z.length ≤ 8 := by rw [len_list]; omega
            refine ⟨_, _, rfl, rfl, small_sz' (by show z.length + 1 ≤ _; omega), ?_⟩
            refine ⟨_, _, rfl, same_wr sH del_same, ⟨_, _, upd_same⟩, ?_, fun c2 hc2 => ?_⟩
            · rw [app_list, List.length_append, hzl]; rfl
            · rw [app_list] at hc2
              rcases List.mem_append.mp hc2 with q | q
              · exact hzs c2 q
              · have : c2 = c := by simpa using q
                rw [this]; exact hcm
          · rintro σ H6 ⟨x4, z, rfl, sH, tp6, hzl, hzs⟩
            exact ⟨_, rfl, k H6 z sH tp6 ⟨by rw [len_list]; omega, by rw [len_list]; omega, hzs⟩⟩
end
end KR
set_option maxHeartbeats 1000000
namespace KR
open PySem PySem.Spec PyProof.Rows L2
theorem part_empty : PartOk "" := ⟨by decide +kernel, fun c hc => by cases hc⟩
section
variable {P : Program} {w : World} {K : PySem.W.Frag} {mg : Str → Option Value} {base : Heap} {cL cM cH cR cB : Addr}
theorem scText : FnScope ["_law_tape_here", "_law_plain", "_law_some", "_law_signs", "_law_way", "_law_many", "_law_k", "_law_text_here"] ["_law_tape_here", "_law_plain"] (defScope sText) := ⟨rfl, rfl, rfl, by decide +kernel, rfl, by decide +kernel, by decide +kernel⟩
theorem ok_text {f : Addr} {fd : FuncData} (F0 : Fun K "_law_text" "_law_text" sText f fd) (T : Txt K mg cL cM cH cR)
    (cDigit : Cal P w K mg base 1 "_law_digit" ["_law_tape_here", "_law_many"] spDigit) :
    FnOk P w K mg base CX0 2 f fd ["_law_tape_here", "_law_plain"] spText := by
  refine F0.ok scText (fun vs H Q E h => ?_) (fun cdv A outer s H vs Q E hr h => ?_)
  · obtain ⟨l, b, rfl, _⟩ := h
    rfl
  · obtain ⟨l, b, rfl, tp, k⟩ := h
    have hu := hu_of hr
    have nd := scText.nd
    refine ⟨_, (pss_cons (ps_set (i := 2) nd rfl (.inl rfl) (pe_lst (pa_cons pe_str (pa_cons pe_str (pa_cons pe_str (pa_cons pe_str (pa_cons pe_str (pa_cons pe_str (pa_cons pe_str (pa_cons pe_str (pa_cons pe_str (pa_cons pe_str (pa_cons pe_str (pa_cons pe_str (pa_cons pe_str (pa_cons pe_str pa_nil))))))))))))))))
      (pss_cons (ps_set (i := 3) nd rfl (.inr rfl) pe_str)
      (pss_cons (ps_set (i := 4) nd rfl (.inl rfl) (pe_cal cDigit hr (pa_cons (pv 0) (pa_cons pe_int pa_nil))))
      (pss_cons (ps_if (pt_cmpR op_eq (pv 4) pe_int (nomark _)) (pss_one (ps_ret pe_str)) pss_nil)
      (pss_cons (ps_if (pt_cmpR op_eq (pv 4) pe_int (nomark _)) (pss_cons (ps_set (i := 5) nd rfl (.inl rfl) (pe_cal cDigit hr (pa_cons (pv 0) (pa_cons (pe_ix ix_list (pe_lst (pa_cons pe_int (pa_cons pe_int pa_nil))) (pe_callTy call_int1 (by rfl) T.int (by decide +kernel) (pa_cons (pv 1) pa_nil)) (fun _ _ => rfl)) pa_nil))))
          (pss_one (ps_ret (pe_m1 F.slot_str_join F.type_str_join mt_join pe_str (pe_lc (own := [("_law_k", 6)]) (g := gName 6) (tt := tYes) rfl nd (pi_range1 (by rfl) T.range (pa_cons (pv 5) pa_nil)) (blkOk_by (own := [("_law_k", 6)]) (N := ["_law_tape_here", "_law_plain", "_law_some", "_law_signs", "_law_way", "_law_many", "_law_k", "_law_text_here"]) (sc := (defScope sText)) (by decide +kernel)) (fun _ _ _ _ _ => (pg_name (i := 6) nd rfl (.inl rfl))) (fun _ _ _ _ _ => pts_nil) (fun _ _ _ _ _ => (pe_ix ix_str (pv 3) (pe_cal cDigit hr (pa_cons (pv 0) (pa_cons pe_int pa_nil))) (fun _ _ => rfl)))))))) pss_nil)
      (pss_cons (ps_set (i := 7) nd rfl (.inl rfl) pe_str)
      (pss_cons (ps_for PassesOwn.never rfl (pi_range1 (by rfl) T.range (pa_cons (pe_cal cDigit hr (pa_cons (pv 0) (pa_cons pe_int pa_nil))) pa_nil)) (pg_name (i := 6) nd rfl (.inl rfl))
          (pss_one (ps_set (i := 7) nd rfl (.inl rfl) (pe_op op_add_str (pe_op op_add_str (pv 7) (pe_ix ix_list (pv 2) (pe_cal cDigit hr (pa_cons (pv 0) (pa_cons pe_int pa_nil))) (fun _ _ => rfl))) (pe_ix ix_list (pe_lst (pa_cons pe_str (pa_cons pe_str (pa_cons pe_str (pa_cons pe_str pa_nil))))) (pe_cal cDigit hr (pa_cons (pv 0) (pa_cons pe_int pa_nil))) (fun _ _ => rfl))))))
      (pss_one (ps_ret (pv 7)))))))))), ?_⟩
    have nonel : ∀ {q : Addr} {Hx : Hp}, Tp Hx l → Hx q = none → q ≠ l := fun tp hq => by
      obtain ⟨x, y, hl⟩ := tp
      exact (ne_of_none hl hq).symm
    -- _law_some
    refine ⟨by show 14 ≤ sizeLine; decide, fun so hso => ?_⟩
    have nso := nonel tp hso
    have s1 := same_upd (o := .lst (SOMES.map V.str)) hso
    have so1 : (upd H so (.lst (SOMES.map V.str))) so = some (.lst (SOMES.map V.str)) := upd_same
    have tp1 : Tp (upd H so (.lst (SOMES.map V.str))) l := by
      obtain ⟨x, y, hl⟩ := tp
      exact ⟨x, y, s1 _ _ hl⟩
    show (gName 2 (V.ref so) _ (upd H so (.lst (SOMES.map V.str))) _ : Prop)
    generalize upd H so (.lst (SOMES.map V.str)) = H1 at s1 so1 tp1 ⊢
    have s1d : Same (del H l) (del H1 l) := same_dels s1
    have so1d : (del H1 l) so = some (.lst (SOMES.map V.str)) := by rw [del_ne nso]; exact so1
    -- _law_way
    obtain ⟨x1, y1, hl1⟩ := tp1
    refine ⟨_, rfl, l, x1, y1, 4, rfl, hl1, by decide, by decide, fun way x' y' h0 hd => ?_⟩
    have s2d : Same (del H1 l) (upd H1 l (.lst [.int x', .int y'])) := same_wr same_del del_same
    have tp2 : Tp (upd H1 l (.lst [.int x', .int y'])) l := ⟨_, _, upd_same⟩
    generalize upd H1 l (.lst [.int x', .int y']) = H2 at s2d tp2 ⊢
    refine ⟨_, rfl, rfl, _, rfl, ?_⟩
    by_cases h3 : V.int way = V.int 3
    · refine ifdT h3 ?_
      exact k H2 "" (Same.trans s1d s2d) tp2 part_empty
    · refine ifdF h3 ?_
      refine ⟨_, rfl, rfl, _, rfl, ?_⟩
      by_cases h2 : V.int way = V.int 2
      · refine ifdT h2 ?_
        -- _law_many
        refine ⟨_, rfl, ?_⟩
        refine ⟨by show 2 ≤ sizeLine; decide, fun q hq => ?_⟩
        have nq := nonel tp2 hq
        have s3 := same_upd (o := .lst [.int 30, .int 401]) hq
        have q3 : (upd H2 q (.lst [.int 30, .int 401])) q = some (.lst [.int 30, .int 401]) := upd_same
        have tp3 : Tp (upd H2 q (.lst [.int 30, .int 401])) l := by
          obtain ⟨x, y, hl⟩ := tp2
          exact ⟨x, y, s3 _ _ hl⟩
        generalize upd H2 q (.lst [.int 30, .int 401]) = H3 at s3 q3 tp3 ⊢
        obtain ⟨m, hm, hm0, hm1⟩ : ∃ m : Int, atI [V.int 30, V.int 401] (if b = true then 1 else 0) = some (.int m) ∧ 0 < m ∧ m ≤ 401 := by
          cases b
          · exact ⟨30, rfl, by decide, by decide⟩
          · exact ⟨401, rfl, by decide, by decide⟩
        refine ⟨_, rfl, .inr ⟨b, rfl, ?_⟩⟩
        refine ⟨q, _, _, .int m, rfl, rfl, SqL.of q3, hm, ?_⟩
        obtain ⟨x3, y3, hl3⟩ := tp3
        refine ⟨l, x3, y3, m, rfl, hl3, hm0, by omega, fun many x3' y3' hm20 hm2 => ?_⟩
        have s4d : Same (del H1 l) (upd H3 l (.lst [.int x3', .int y3'])) := same_wr (Same.trans s2d s3) del_same
        have tp4 : Tp (upd H3 l (.lst [.int x3', .int y3'])) l := ⟨_, _, upd_same⟩
        generalize upd H3 l (.lst [.int x3', .int y3']) = H4 at s4d tp4 ⊢
        refine ⟨⟨_, rfl⟩, ?_⟩
        refine ⟨_, rfl, _, rfl, by omega, by omega, fun D hD => ?_⟩
        have nD := nonel tp4 hD
        refine lc_it (walk_range (lo := 0) (n := many.toNat)) (fun i H' => Same (del H1 l) H' ∧ Tp H' l ∧ ∃ ys : List Str, H' D = some (.lst (ys.map V.str)) ∧ ys.length = i ∧ ∀ y ∈ ys, ∃ c, y = ⟨#[c]⟩ ∧ c ∈ HSIG.cps.toList)
          ⟨Same.trans s4d (same_upd hD), ?_, [], upd_same, rfl, by simp⟩ (fun _ _ _ _ => trivial) ?_ ?_
        · obtain ⟨x, y, hl⟩ := tp4
          exact ⟨x, y, same_upd hD _ _ hl⟩
        · rintro i x H5 H6 hi ⟨s5, ⟨x5, y5, hl5⟩, ys, hys, hyl, hya⟩ ⟨eH, rfl⟩
          subst eH
          refine ⟨rfl, ?_⟩
          refine ⟨_, rfl, _, rfl, l, x5, y5, 94, rfl, hl5, by decide, by decide, fun d2 x2' y2' h02 hd2 => ?_⟩
          obtain ⟨c, hc, hcm⟩ := at_mem (xs := HSIG.cps.toList) (d := d2) h02 (by rw [hsig_len]; exact hd2)
          refine ⟨HSIG, d2, c, rfl, rfl, by decide +kernel, hc, ?_⟩
          have hD6 : (upd H6 l (.lst [.int x2', .int y2'])) D = some (.lst (ys.map V.str)) := by rw [upd_ne nD]; exact hys
          refine ⟨_, hD6, small_sz (by rw [List.length_map]; omega), ?_, ?_, ys ++ [⟨#[c]⟩], ?_, by rw [List.length_append, hyl]; rfl, fun y hy => ?_⟩
          · refine same_wr (same_wr s5 del_same) ?_
            rw [del_ne nD]
            cases hq : H1 D with
            | none => rfl
            | some u =>
              have h9 : (del H1 l) D = some u := by rw [del_ne nD]; exact hq
              have := s4d _ _ h9
              rw [hD] at this; cases this
          · exact ⟨_, _, by rw [upd_ne nD.symm]; exact upd_same⟩
          · rw [upd_same, List.map_append]; rfl
          · rcases List.mem_append.mp hy with h | h
            · exact hya y h
            · exact ⟨c, List.mem_singleton.mp h, hcm⟩
        · rintro H6 ⟨s6, tp6, ys, hys, hyl, hya⟩
          obtain ⟨j1, j2⟩ := join_signs hya
          rw [← join_list] at j1 j2
          have hsum : ∀ zs : List Str, (∀ y ∈ zs, ∃ c, y = (⟨#[c]⟩ : Str) ∧ c ∈ HSIG.cps.toList) → (zs.map (·.length)).sum = zs.length := by
            intro zs
            induction zs with
            | nil => intro _; rfl
            | cons z zs ih =>
              intro h
              obtain ⟨c, e, _⟩ := h z List.mem_cons_self
              rw [List.map_cons, List.sum_cons, ih fun y hy => h y (List.mem_cons_of_mem _ hy), e, List.length_cons]
              show 1 + _ = _
              omega
          refine ⟨"", D, ys, rfl, rfl, .inl (SqL.of hys), ?_, ?_⟩
          · rw [hsum ys hya, show ("" : Str).length = 0 by decide +kernel]; omega
          · rw [TL.join_eq]
            exact k H6 _ (Same.trans s1d s6) tp6 ⟨by rw [len_list, j1]; omega, j2⟩
      · refine ifdF h2 ?_
        obtain ⟨x3, y3, hl3⟩ := tp2
        refine ⟨_, rfl, l, x3, y3, 7, rfl, hl3, by decide, by decide, fun many x3' y3' hm20 hm2 => ?_⟩
        have s4d : Same (del H1 l) (upd H2 l (.lst [.int x3', .int y3'])) := same_wr s2d del_same
        have tp4 : Tp (upd H2 l (.lst [.int x3', .int y3'])) l := ⟨_, _, upd_same⟩
        generalize upd H2 l (.lst [.int x3', .int y3']) = H4 at s4d tp4 ⊢
        refine ⟨_, rfl, by omega, by omega, ?_⟩
        refine for_it (walk_range (lo := 0) (n := many.toNat)) (fun i σ H' => ∃ (x6 : Option V) (z : Str), σ = [some (.ref l), some (.bl b), some (.ref so), some (.str HSIG), some (.int way), none, x6, some (.str z)] ∧ Same (del H1 l) H' ∧ Tp H' l ∧ z.length ≤ 9 * i ∧ ∀ c ∈ z.cps.toList, c ∈ HSIG.cps.toList)
          ⟨none, "", rfl, s4d, tp4, Nat.le_refl _, fun c hc => by cases hc⟩ (fun _ _ _ _ _ => trivial) ?_ ?_
        · rintro i x σ H' H6 hi ⟨x6, z, rfl, sH, ⟨x7, y7, hl7⟩, hzl, hzs⟩ ⟨eH, rfl⟩
          subst eH
          refine ⟨_, rfl, _, rfl, _, rfl, l, x7, y7, 14, rfl, hl7, by decide, by decide, fun d2 x2' y2' h02 hd2 => ?_⟩
          have s7 : Same (del H1 l) (upd H6 l (.lst [.int x2', .int y2'])) := same_wr sH del_same
          have tp7 : Tp (upd H6 l (.lst [.int x2', .int y2'])) l := ⟨_, _, upd_same⟩
          generalize upd H6 l (.lst [.int x2', .int y2']) = H7 at s7 tp7 ⊢
          obtain ⟨z2, hz2, hz2m⟩ := at_mem (xs := SOMES) (d := d2) h02 hd2
          obtain ⟨ok1, ok2⟩ := somes_ok z2 hz2m
          refine ⟨so, _, d2, .str z2, rfl, rfl, SqL.of (s7 _ _ so1d), at_map hz2, ?_⟩
          refine ⟨_, _, rfl, rfl, small_sz' (by omega), ?_⟩
          refine ⟨by show 4 ≤ sizeLine; decide, fun q hq => ?_⟩
          have nq := nonel tp7 hq
          have s8 := same_upd (o := .lst (SEPS.map V.str)) hq
          have q8 : (upd H7 q (.lst (SEPS.map V.str))) q = some (.lst (SEPS.map V.str)) := upd_same
          have tp8 : Tp (upd H7 q (.lst (SEPS.map V.str))) l := by
            obtain ⟨x, y, hl⟩ := tp7
            exact ⟨x, y, s8 _ _ hl⟩
          have s78 := Same.trans s7 s8
          refine ⟨_, rfl, ?_⟩
          generalize hH8 : upd H7 q (.lst (SEPS.map V.str)) = H8 at s8 q8 tp8 s78
          obtain ⟨x8, y8, hl8⟩ := tp8
          refine ⟨l, x8, y8, 4, rfl, by rw [← hH8] at hl8; exact hl8, by decide, by decide, fun d3 x3' y3' h03 hd3 => ?_⟩
          obtain ⟨z3, hz3, hz3m⟩ := at_mem (xs := SEPS) (d := d3) h03 hd3
          obtain ⟨ok3, ok4⟩ := seps_ok z3 hz3m
          have q9 : (upd (upd H7 q (.lst (SEPS.map V.str))) l (.lst [.int x3', .int y3'])) q = some (.lst (SEPS.map V.str)) := by rw [upd_ne nq]; exact upd_same
          refine ⟨q, _, d3, .str z3, rfl, rfl, SqL.of q9, at_map hz3, ?_⟩
          have ea : (z ++ z2).length = z.length + z2.length := by rw [len_list, app_list, List.length_append, ← len_list, ← len_list]
          have eb : (z ++ z2 ++ z3).length = z.length + z2.length + z3.length := by rw [len_list, app_list, List.length_append, ← len_list, ← len_list, ea]
          refine ⟨_, _, rfl, rfl, small_sz' (by show (z ++ z2).length + _ ≤ _; omega), ?_⟩
          refine ⟨_, _, rfl, same_wr (Same.trans s7 (same_upd hq)) del_same, ⟨_, _, upd_same⟩, by rw [eb]; omega, fun c hc => ?_⟩
          rw [app_list, app_list] at hc
          rcases List.mem_append.mp hc with hc | hc
          · rcases List.mem_append.mp hc with hc | hc
            · exact hzs c hc
            · exact ok2 c hc
          · exact ok4 c hc
        · rintro σ H6 ⟨x6, z, rfl, sH, tp6, hzl, hzs⟩
          exact ⟨_, rfl, k H6 z (Same.trans s1d sH) tp6 ⟨by omega, hzs⟩⟩
theorem scParts : FnScope ["_law_tape_here", "_law_plain", "_law_head", "_law_body"] ["_law_tape_here", "_law_plain"] (defScope sParts) := ⟨rfl, rfl, rfl, by decide +kernel, rfl, by decide +kernel, by decide +kernel⟩
theorem ok_parts {f : Addr} {fd : FuncData} (F0 : Fun K "_law_parts" "_law_parts" sParts f fd) (T : Txt K mg cL cM cH cR)
    (cText : Cal P w K mg base 2 "_law_text" ["_law_tape_here", "_law_plain"] spText) :
    FnOk P w K mg base CX0 3 f fd ["_law_tape_here", "_law_plain"] (spParts K) := by
  refine F0.ok scParts (fun vs H Q E h => ?_) (fun cdv A outer s H vs Q E hr h => ?_)
  · obtain ⟨l, b, rfl, _⟩ := h
    rfl
  · obtain ⟨l, b, rfl, tp, k⟩ := h
    have nd := scParts.nd
    refine ⟨_, (pss_cons (ps_set (i := 2) nd rfl (.inl rfl) (pe_cal cText hr (pa_cons (pv 0) (pa_cons (pv 1) pa_nil))))
      (pss_cons (ps_set (i := 3) nd rfl (.inl rfl) (pe_cal cText hr (pa_cons (pv 0) (pa_cons (pv 1) pa_nil))))
      (pss_one (ps_ret (pe_tup (pa_cons (pv 2) (pa_cons (pv 3) (pa_cons (pe_cal cText hr (pa_cons (pv 0) (pa_cons (pv 1) pa_nil))) pa_nil)))))))), ?_⟩
    refine ⟨_, rfl, _, rfl, l, b, rfl, tp, fun H1 z1 s1 tp1 ok1 => ?_⟩
    refine ⟨_, rfl, _, rfl, l, b, rfl, tp1, fun H2 z2 s2 tp2 ok2 => ?_⟩
    refine ⟨_, rfl, _, rfl, _, rfl, _, rfl, l, b, rfl, tp2, fun H3 z3 s3 tp3 ok3 => ?_⟩
    refine ⟨by show 3 ≤ sizeLine; decide, fun p hp => ?_⟩
    have up1 : Same (del H l) (del H1 l) := fun a o e => by
      obtain ⟨h1, h2⟩ := del_some e
      rw [del_ne h2]; exact s1 _ _ e
    have up2 : Same (del H l) (del H2 l) := fun a o e => by
      have h := up1 _ _ e
      obtain ⟨h1, h2⟩ := del_some h
      rw [del_ne h2]; exact s2 _ _ h
    have s03 : Same (del H l) H3 := Same.trans up2 s3
    have npl : p ≠ l := by
      obtain ⟨x, y, hl⟩ := tp3
      exact (ne_of_none hl hp).symm
    have tp4 : Tp (upd H3 p (.tup [.str z1, .str z2, .str z3])) l := by
      obtain ⟨x, y, hl⟩ := tp3
      exact ⟨x, y, by rw [upd_ne npl.symm]; exact hl⟩
    have zp : H p = none := by
      cases hq : H p with
      | none => rfl
      | some u =>
        have h9 : (del H l) p = some u := by rw [del_ne npl]; exact hq
        have := s03 _ _ h9
        rw [hp] at this; cases this
    refine k _ _ [z1, z2, z3] (Same.trans s03 (same_upd hp)) tp4 ⟨rfl, fun z hz => ?_⟩ ?_
    · rcases List.mem_cons.mp hz with e | hz
      · rw [e]; exact ok1
      · rcases List.mem_cons.mp hz with e | hz
        · rw [e]; exact ok2
        · rw [List.mem_singleton.mp hz]; exact ok3
    · exact .tup (SqT.of (by rw [nw_none zp]; exact upd_same)) (.cons (.str _) (.cons (.str _) (.cons (.str _) .nil)))
end
end KR
set_option maxHeartbeats 1000000
namespace KR
open PySem PySem.Spec PyProof.Rows L2
abbrev Rw := Str × Option (List Str)
def stepM (m : List Tx) (r : Rw) : List Tx := match r.2 with | some ps => putA m r.1 ps | none => dropA m r.1
def mOf (rs : List Rw) : List Tx := rs.foldl stepM []
theorem mOf_snoc (rs : List Rw) (r : Rw) : mOf (rs ++ [r]) = stepM (mOf rs) r := by unfold mOf; rw [List.foldl_append]; rfl
def optD : Option (List Str) → PyData | some ps => partsD ps | none => .none
def rwD (r : Rw) : PyData := .tuple [.str r.1, optD r.2]
structure RowsOk (rs : List Rw) : Prop where
  nm : ∀ r ∈ rs, NameOk r.1
  pt : ∀ r ∈ rs, ∀ ps, r.2 = some ps → PartsOk ps
  tk : ∀ i z, rs[i]? = some (z, none) → (aget (mOf (rs.take i)) z).isSome = true
theorem RowsOk.nil : RowsOk [] := ⟨by simp, by simp, by simp⟩
theorem RowsOk.snoc {rs : List Rw} {r : Rw} (h : RowsOk rs) (h1 : NameOk r.1) (h2 : ∀ ps, r.2 = some ps → PartsOk ps) (h3 : r.2 = none → (aget (mOf rs) r.1).isSome = true) : RowsOk (rs ++ [r]) := by
  refine ⟨fun x hx => ?_, fun x hx => ?_, fun i z e => ?_⟩
  · rcases List.mem_append.mp hx with q | q
    · exact h.nm x q
    · rw [List.mem_singleton.mp q]; exact h1
  · rcases List.mem_append.mp hx with q | q
    · exact h.pt x q
    · rw [List.mem_singleton.mp q]; exact h2
  · by_cases hi : i < rs.length
    · rw [List.getElem?_append_left hi] at e
      rw [List.take_append_of_le_length (Nat.le_of_lt hi)]
      exact h.tk i z e
    · by_cases hi2 : i = rs.length
      · subst hi2
        rw [List.getElem?_append_right (Nat.le_refl _), Nat.sub_self] at e
        have er : r = (z, none) := by simpa using e
        rw [List.take_left']
        · rw [er] at h3; exact h3 rfl
        · rfl
      · have hlen : (rs ++ [r]).length ≤ i := by rw [List.length_append]; show rs.length + 1 ≤ i; omega
        rw [List.getElem?_eq_none hlen] at e; cases e
structure MapOk (m : List Tx) (n : Nat) : Prop where
  nd : (m.map (·.1)).Nodup
  nm : ∀ t ∈ m, NameOk t.1
  pt : ∀ t ∈ m, PartsOk t.2
  few : m.length ≤ n
theorem putA_mem {m : List Tx} {k : Str} {x : List Str} {t : Tx} (h : t ∈ putA m k x) : t ∈ m ∨ t = (k, x) := by
  unfold putA at h
  split at h
  · obtain ⟨p, hp, e⟩ := List.mem_map.mp h
    by_cases q : p.1 = k
    · rw [if_pos q] at e
      right; rw [← e, q]
    · rw [if_neg q] at e
      left; rw [← e]; exact hp
  · rcases List.mem_append.mp h with q | q
    · exact .inl q
    · exact .inr (List.mem_singleton.mp q)
theorem MapOk.put {m : List Tx} {n : Nat} {z : Str} {ps : List Str} (h : MapOk m n) (h1 : NameOk z) (h2 : PartsOk ps) : MapOk (putA m z ps) (n + 1) := by
  refine ⟨putA_nd h.nd, fun t ht => ?_, fun t ht => ?_, Nat.le_trans (putA_len _ _ _) (Nat.succ_le_succ h.few)⟩
  · rcases putA_mem ht with q | q
    · exact h.nm t q
    · rw [q]; exact h1
  · rcases putA_mem ht with q | q
    · exact h.pt t q
    · rw [q]; exact h2
theorem MapOk.drop {m : List Tx} {n : Nat} {z : Str} (h : MapOk m n) : MapOk (dropA m z) (n + 1) := by
  refine ⟨dropA_nd h.nd, fun t ht => h.nm t ?_, fun t ht => h.pt t ?_, Nat.le_succ_of_le (Nat.le_trans (dropA_len _ _) h.few)⟩
  · exact (List.mem_filter.mp ht).1
  · exact (List.mem_filter.mp ht).1
theorem mOf_ok : ∀ {rs : List Rw}, RowsOk rs → ∀ i, i ≤ rs.length → MapOk (mOf (rs.take i)) i
  | rs, h, 0, _ => ⟨by simp [mOf], by simp [mOf], by simp [mOf], by simp [mOf]⟩
  | rs, h, i + 1, hi => by
    have ih := mOf_ok h i (by omega)
    have hi2 : i < rs.length := hi
    rw [List.take_succ_eq_append_getElem hi2, mOf_snoc]
    have hm : rs[i] ∈ rs := List.getElem_mem hi2
    have h1 := h.nm _ hm
    have h2 := h.pt _ hm
    unfold stepM
    cases e : rs[i].2 with
    | none => exact ih.drop
    | some ps => exact ih.put h1 (h2 ps e)
theorem mOf_all {rs : List Rw} (h : RowsOk rs) : MapOk (mOf rs) rs.length := by
  have := mOf_ok h rs.length (Nat.le_refl _)
  rw [List.take_length] at this
  exact this
theorem putA_same {m : List Tx} {z : Str} {ps : List Str} (hn : (m.map (·.1)).Nodup) (h : aget m z = some ps) : putA m z ps = m := by
  unfold putA
  rw [if_pos (by rw [any_aget, h]; rfl)]
  conv => rhs; rw [← List.map_id m]
  refine List.map_congr_left fun p hp => ?_
  show (if p.1 = z then (p.1, ps) else p) = p
  by_cases e : p.1 = z
  · rw [if_pos e]
    have := aget_at hn hp
    rw [e, h] at this
    obtain ⟨a, b⟩ := p
    dsimp only at this ⊢
    rw [Option.some.inj this]
  · rw [if_neg e]
/-- what is new behind H0, without four lists and dicts -/
def R4 (o t q l : Addr) (H0 H : Hp) : Hp := del (d3 o t q (nw H0 H)) l
theorem R4_some {o t q l a : Addr} {H0 H : Hp} {u : HO} (h : R4 o t q l H0 H a = some u) : H a = some u ∧ H0 a = none ∧ a ≠ o ∧ a ≠ t ∧ a ≠ q ∧ a ≠ l := by
  obtain ⟨h1, h2⟩ := del_some h
  obtain ⟨h3, h4, h5, h6⟩ := d3_some h1
  obtain ⟨h7, h8⟩ := nw_some h3
  exact ⟨h8, h7, h4, h5, h6, h2⟩
theorem R4_of {o t q l a : Addr} {H0 H : Hp} {u : HO} (h : H a = some u) (h0 : H0 a = none) (h1 : a ≠ o) (h2 : a ≠ t) (h3 : a ≠ q) (h4 : a ≠ l) : R4 o t q l H0 H a = some u := by
  unfold R4; rw [del_ne h4]; exact d3_of (by rw [nw_none h0]; exact h) h1 h2 h3
structure J (K : PySem.W.Frag) (H0 : Hp) (o t q l : Addr) (H : Hp) (ns : List Str) (kv : List (Key × V)) (m : List Tx) (xs : List V) (rows : List Rw) : Prop where
  sm : Same H0 H
  ho : H o = some (.lst (ns.map V.str))
  ht : H t = some (.dK kv)
  hq : H q = some (.lst xs)
  hk : DkAll K (R4 o t q l H0 H) kv (txD m)
  hx : DpAll K (R4 o t q l H0 H) xs (rows.map rwD)
structure Ne4 (H0 : Hp) (o t q l : Addr) : Prop where
  zo : H0 o = none
  zt : H0 t = none
  zq : H0 q = none
  zl : H0 l = none
  ot : o ≠ t
  oq : o ≠ q
  tq : t ≠ q
  ol : o ≠ l
  tl : t ≠ l
  ql : q ≠ l
theorem J.step {K : PySem.W.Frag} {H0 : Hp} {o t q l : Addr} {H H' : Hp} {ns : List Str} {kv : List (Key × V)} {m : List Tx} {xs : List V} {rows : List Rw} (n : Ne4 H0 o t q l) (s : Same (del H l) H') (h : J K H0 o t q l H ns kv m xs rows) : J K H0 o t q l H' ns kv m xs rows := by
  have sr : Same (R4 o t q l H0 H) (R4 o t q l H0 H') := fun a u e => by
    obtain ⟨h1, h2, h3, h4, h5, h6⟩ := R4_some e
    exact R4_of (s _ _ (by rw [del_ne h6]; exact h1)) h2 h3 h4 h5 h6
  exact ⟨fun a u e => s _ _ (by rw [del_ne (ne_of_none e n.zl)]; exact h.sm _ _ e), s _ _ (by rw [del_ne n.ol]; exact h.ho), s _ _ (by rw [del_ne n.tl]; exact h.ht), s _ _ (by rw [del_ne n.ql]; exact h.hq), h.hk.mono sr, DpAll.mono sr h.hx⟩
theorem J.grow {K : PySem.W.Frag} {H0 : Hp} {o t q l : Addr} {H H' : Hp} {ns : List Str} {kv : List (Key × V)} {m : List Tx} {xs : List V} {rows : List Rw} (n : Ne4 H0 o t q l) (s : Same H H') (h : J K H0 o t q l H ns kv m xs rows) : J K H0 o t q l H' ns kv m xs rows := h.step n (Same.trans same_del s)
theorem R4_wr {o t q l b : Addr} {H0 H : Hp} {u : HO} (hb : b = o ∨ b = t ∨ b = q) : Same (R4 o t q l H0 H) (R4 o t q l H0 (upd H b u)) := fun a v e => by
  obtain ⟨h1, h2, h3, h4, h5, h6⟩ := R4_some e
  have nb : a ≠ b := by
    rcases hb with e | e | e
    · rw [e]; exact h3
    · rw [e]; exact h4
    · rw [e]; exact h5
  exact R4_of (by rw [upd_ne nb]; exact h1) h2 h3 h4 h5 h6
theorem J.putO {K : PySem.W.Frag} {H0 : Hp} {o t q l : Addr} {H : Hp} {ns : List Str} {kv : List (Key × V)} {m : List Tx} {xs : List V} {rows : List Rw} (n : Ne4 H0 o t q l) (h : J K H0 o t q l H ns kv m xs rows) (ns' : List Str) : J K H0 o t q l (upd H o (.lst (ns'.map V.str))) ns' kv m xs rows :=
  ⟨same_wr h.sm n.zo, upd_same, by rw [upd_ne n.ot.symm]; exact h.ht, by rw [upd_ne n.oq.symm]; exact h.hq, h.hk.mono (R4_wr (.inl rfl)), DpAll.mono (R4_wr (.inl rfl)) h.hx⟩
theorem J.putT {K : PySem.W.Frag} {H0 : Hp} {o t q l : Addr} {H : Hp} {ns : List Str} {kv : List (Key × V)} {m : List Tx} {xs : List V} {rows : List Rw} (n : Ne4 H0 o t q l) (h : J K H0 o t q l H ns kv m xs rows) {kv' : List (Key × V)} {m' : List Tx} (hk : DkAll K (R4 o t q l H0 H) kv' (txD m')) : J K H0 o t q l (upd H t (.dK kv')) ns kv' m' xs rows :=
  ⟨same_wr h.sm n.zt, by rw [upd_ne n.ot]; exact h.ho, upd_same, by rw [upd_ne n.tq.symm]; exact h.hq, hk.mono (R4_wr (.inr (.inl rfl))), DpAll.mono (R4_wr (.inr (.inl rfl))) h.hx⟩
theorem J.putQ {K : PySem.W.Frag} {H0 : Hp} {o t q l : Addr} {H : Hp} {ns : List Str} {kv : List (Key × V)} {m : List Tx} {xs : List V} {rows : List Rw} (n : Ne4 H0 o t q l) (h : J K H0 o t q l H ns kv m xs rows) {x : V} {r : Rw} (hx : Dp K (R4 o t q l H0 H) x (rwD r)) : J K H0 o t q l (upd H q (.lst (xs ++ [x]))) ns kv m (xs ++ [x]) (rows ++ [r]) := by
  refine ⟨same_wr h.sm n.zq, by rw [upd_ne n.oq]; exact h.ho, by rw [upd_ne n.tq]; exact h.ht, upd_same, h.hk.mono (R4_wr (.inr (.inr rfl))), ?_⟩
  rw [List.map_append]
  exact DpAll.snoc (DpAll.mono (R4_wr (.inr (.inr rfl))) h.hx) (Dp.mono (R4_wr (.inr (.inr rfl))) hx)
theorem J.newTup {K : PySem.W.Frag} {H0 : Hp} {o t q l : Addr} {H : Hp} {ns : List Str} {kv : List (Key × V)} {m : List Tx} {xs : List V} {rows : List Rw} {p : Addr} {z : Str} {v : V} {r : Option (List Str)} (n : Ne4 H0 o t q l) (h : J K H0 o t q l H ns kv m xs rows) (hp : H p = none) (hl : ∃ u, H l = some u) (hv : Dp K (R4 o t q l H0 H) v (optD r)) :
    Dp K (R4 o t q l H0 (upd H p (.tup [.str z, v]))) (.ref p) (rwD (z, r)) := by
  obtain ⟨u, hl⟩ := hl
  refine .tup (SqT.of (R4_of upd_same (Same.free h.sm hp) (ne_of_none h.ho hp).symm (ne_of_none h.ht hp).symm (ne_of_none h.hq hp).symm (ne_of_none hl hp).symm)) (.cons (.str _) (.cons (Dp.mono (fun a w e => ?_) hv) .nil))
  obtain ⟨h1, h2, h3, h4, h5, h6⟩ := R4_some e
  exact R4_of (by rw [upd_ne (ne_of_none h1 hp)]; exact h1) h2 h3 h4 h5 h6
theorem Tp.grow {H H' : Hp} {l : Addr} (s : Same H H') (h : Tp H l) : Tp H' l := by
  obtain ⟨x, y, h⟩ := h
  exact ⟨x, y, s _ _ h⟩
theorem Tp.upd {H : Hp} {l b : Addr} {u : HO} (n : l ≠ b) (h : Tp H l) : Tp (upd H b u) l := by
  obtain ⟨x, y, h⟩ := h
  exact ⟨x, y, by rw [upd_ne n]; exact h⟩
theorem keysR {K : PySem.W.Frag} {H : Hp} {kv : List (Key × V)} {m : List Tx} (h : DkAll K H kv (txD m)) : kv.map (·.1) = (m.map (·.1)).map Sum.inr := by
  rw [h.keys]
  unfold txD
  simp only [List.map_map]
  rfl
def spChanges (K : PySem.W.Frag) : Sp := fun vs H Q _ => ∃ (a : Addr) (cs : List Int) (b : Bool) (mo : Int), vs = [.ref a, .bl b, .int mo] ∧ SqL K H a (cs.map V.int) ∧ (∀ c ∈ cs, CellOk c) ∧ cs.length ≤ 100 ∧ 1 ≤ mo ∧
  ∀ (H' : Hp) (v : V) (rows : List Rw), Same H H' → RowsOk rows → rows.length ≤ cs.length → Dp K (nw H H') v (.list (rows.map rwD)) → Q v H'
end KR
set_option maxHeartbeats 1000000
namespace KR
open PySem PySem.Spec PyProof.Rows L2
structure JI (K : PySem.W.Frag) (H0 : Hp) (o t q : Addr) (H : Hp) (ns : List Str) (kv : List (Key × V)) (m : List Tx) (xs : List V) (rows : List Rw) : Prop where
  sm : Same H0 H
  ho : H o = some (.lst (ns.map V.str))
  ht : H t = some (.dK kv)
  hq : H q = some (.lst xs)
  hk : DkAll K (d3 o t q (nw H0 H)) kv (txD m)
  hx : DpAll K (d3 o t q (nw H0 H)) xs (rows.map rwD)
theorem kv_isE (kv : List (Key × V)) (h : ¬ kv = []) : (!kv.isEmpty) = true := by
  cases kv with
  | nil => exact absurd rfl h
  | cons _ _ => rfl
section
variable {P : Program} {w : World} {K : PySem.W.Frag} {mg : Str → Option Value} {base : Heap} {cL cM cH cR cB : Addr}
theorem scChanges : FnScope ["_law_cells", "_law_plain", "_law_most", "_law_old", "_law_there", "_law_rows", "_law_cell", "_law_tape_here", "_law_way", "_law_name_here"] ["_law_cells", "_law_plain", "_law_most"] (defScope sChanges) := ⟨rfl, rfl, rfl, by decide +kernel, rfl, by decide +kernel, by decide +kernel⟩
theorem ok_changes {f : Addr} {fd : FuncData} (F0 : Fun K "_law_changes" "_law_changes" sChanges f fd) (T : Txt K mg cL cM cH cR)
    (cDigit : Cal P w K mg base 1 "_law_digit" ["_law_tape_here", "_law_many"] spDigit) (cTape : Cal P w K mg base 1 "_law_tape" ["_law_cell", "_law_plain"] spTape)
    (cName : Cal P w K mg base 2 "_law_name" ["_law_tape_here", "_law_old", "_law_most"] spName) (cParts : Cal P w K mg base 3 "_law_parts" ["_law_tape_here", "_law_plain"] (spParts K)) :
    FnOk P w K mg base CX0 4 f fd ["_law_cells", "_law_plain", "_law_most"] (spChanges K) := by
  refine F0.ok scChanges (fun vs H Q E h => ?_) (fun cdv A outer s H vs Q E hr h => ?_)
  · obtain ⟨a, cs, b, mo, rfl, _⟩ := h
    rfl
  · obtain ⟨a, cs, b, mo, rfl, ha, hcs, hcl, hmo, k⟩ := h
    have hu := hu_of hr
    have hu2 := Nat.lt_of_succ_lt hu
    have nd := scChanges.nd
    refine ⟨_, (pss_cons (ps_set (i := 3) nd rfl (.inl rfl) (pe_lst pa_nil))
      (pss_cons (ps_set (i := 4) nd rfl (.inl rfl) pe_dnewK)
      (pss_cons (ps_set (i := 5) nd rfl (.inl rfl) (pe_lst pa_nil))
      (pss_cons (ps_for PassesOwn.never rfl (pi_list (pv 0)) (pg_name (i := 6) nd rfl (.inl rfl))
          (pss_cons (ps_set (i := 7) nd rfl (.inl rfl) (pe_cal cTape (hr.mono (by decide)) (pa_cons (pv 6) (pa_cons (pv 1) pa_nil))))
          (pss_cons (ps_set (i := 8) nd rfl (.inl rfl) (pe_cal cDigit (hr.mono (by decide)) (pa_cons (pv 7) (pa_cons pe_int pa_nil))))
          (pss_one (ps_if (PW.pt (pw_and (pt_cmpR op_eq (pv 8) pe_int (nomark _)) (pw_and1 (pt_cmpR (op_neDE hu2) (pv 4) pe_dnewK (nomark _))))) (pss_cons (ps_set (i := 9) nd rfl (.inl rfl) (pe_ix ix_list (pe_callB (cr_sortDS rfl) (by rfl) T.sorted (by decide +kernel) (pa_cons (pv 4) pa_nil)) (pe_cal cDigit (hr.mono (by decide)) (pa_cons (pv 7) (pa_cons (pe_callB call_lenD (by rfl) T.len PySem.boot_len (pa_cons (pv 4) pa_nil)) pa_nil))) (fun _ _ => rfl)))
              (pss_cons (ps_expr (pe_dpop1 (pv 4) (pv 9) ⟨rfl, rfl, rfl, rfl⟩))
              (pss_one (ps_expr (pe_bm PySem.F.plainAttrs_list PySem.F.slot_list_append PySem.F.type_list_append mt_append (pv 5) (pa_cons (pe_tup (pa_cons (pv 9) (pa_cons pe_non pa_nil))) pa_nil)))))) (pss_one (ps_if (PW.pt (pw_and (pt_cmpR op_eq (pv 8) pe_int (nomark _)) (pw_and (pt_cmpR (op_neDE hu2) (pv 4) pe_dnewK (nomark _)) (pw_and1 (pt_cmpR op_eq (pe_cal cDigit (hr.mono (by decide)) (pa_cons (pv 7) (pa_cons pe_int pa_nil))) pe_int (nomark _)))))) (pss_cons (ps_set (i := 9) nd rfl (.inl rfl) (pe_ix ix_list (pe_callB (cr_sortDS rfl) (by rfl) T.sorted (by decide +kernel) (pa_cons (pv 4) pa_nil)) (pe_cal cDigit (hr.mono (by decide)) (pa_cons (pv 7) (pa_cons (pe_callB call_lenD (by rfl) T.len PySem.boot_len (pa_cons (pv 4) pa_nil)) pa_nil))) (fun _ _ => rfl)))
                  (pss_one (ps_expr (pe_bm PySem.F.plainAttrs_list PySem.F.slot_list_append PySem.F.type_list_append mt_append (pv 5) (pa_cons (pe_tup (pa_cons (pv 9) (pa_cons (pe_dget hu (pv 4) (pv 9) (fun _ _ => rfl)) pa_nil))) pa_nil))))) (pss_cons (ps_set (i := 9) nd rfl (.inl rfl) (pe_cal cName (hr.mono (by decide)) (pa_cons (pv 7) (pa_cons (pv 3) (pa_cons (pv 2) pa_nil)))))
                  (pss_cons (ps_dput hu (pv 4) (pv 9) (pe_cal cParts hr (pa_cons (pv 7) (pa_cons (pe_and (pv 1) (pe_one (pe_cmpR op_eq (pv 2) pe_int (nomark _)))) pa_nil))) rfl)
                  (pss_cons (ps_expr (pe_bm PySem.F.plainAttrs_list PySem.F.slot_list_append PySem.F.type_list_append mt_append (pv 5) (pa_cons (pe_tup (pa_cons (pv 9) (pa_cons (pe_dget hu (pv 4) (pv 9) (fun _ _ => rfl)) pa_nil))) pa_nil)))
                  (pss_one (ps_if (pt_cmpR op_notIn_seq (pv 9) (pv 3) rfl) (pss_one (ps_expr (pe_bm PySem.F.plainAttrs_list PySem.F.slot_list_append PySem.F.type_list_append mt_append (pv 3) (pa_cons (pv 9) pa_nil)))) pss_nil))))))))))))
      (pss_one (ps_ret (pv 5))))))), ?_⟩
    refine ⟨Nat.zero_le _, fun o hho => ?_⟩
    have s1 := same_upd (o := .lst []) hho
    have o1 : (upd H o (.lst [])) o = some (.lst []) := upd_same
    generalize upd H o (.lst []) = H1 at s1 o1 ⊢
    intro t hht
    have s2 := same_upd (o := .dK []) hht
    have t2 : (upd H1 t (.dK [])) t = some (.dK []) := upd_same
    have o2 := s2 _ _ o1
    have not_ : o ≠ t := ne_of_none o1 hht
    have zt : H t = none := Same.free s1 hht
    have s02 := Same.trans s1 s2
    generalize upd H1 t (.dK []) = H2 at s2 t2 o2 s02 ⊢
    refine ⟨Nat.zero_le _, fun q hhq => ?_⟩
    have s3 := same_upd (o := .lst []) hhq
    have q3 : (upd H2 q (.lst [])) q = some (.lst []) := upd_same
    have o3 := s3 _ _ o2
    have t3 := s3 _ _ t2
    have noq : o ≠ q := ne_of_none o2 hhq
    have ntq : t ≠ q := ne_of_none t2 hhq
    have zq : H q = none := Same.free s02 hhq
    have s03 := Same.trans s02 s3
    generalize upd H2 q (.lst []) = H3 at s3 q3 o3 t3 s03 ⊢
    refine ⟨_, rfl, a, rfl, ⟨_, Same.seq s03 ha⟩, ?_⟩
    refine for_it (walk_list (xs := cs.map V.int)) (fun i σ H' => ∃ (x6 x7 x8 x9 : Option V) (ns : List Str) (kv : List (Key × V)) (m : List Tx) (xs : List V) (rows : List Rw), σ = [some (.ref a), some (.bl b), some (.int mo), some (.ref o), some (.ref t), some (.ref q), x6, x7, x8, x9] ∧ JI K H o t q H' ns kv m xs rows ∧ (∀ z ∈ ns, NameOk z) ∧ ns.length ≤ i ∧ m = mOf rows ∧ RowsOk rows ∧ rows.length = i)
      ⟨none, none, none, none, [], [], [], [], [], rfl, ⟨s03, o3, t3, q3, .nil, .nil⟩, by simp, Nat.le_refl _, rfl, RowsOk.nil, rfl⟩ (fun i σ H' _ ⟨_, _, _, _, _, _, _, _, _, _, q, _⟩ => Same.seq q.sm ha) ?_ ?_
    · rintro i x σ H' H4 hi ⟨x6, x7, x8, x9, ns, kv, m, xs, rows, rfl, Ji, hns, hnl, hm, hr, hrl⟩ ⟨eH, ex⟩
      subst eH
      rw [List.getElem?_map] at ex
      obtain ⟨c, hc1, rfl⟩ : ∃ c, cs[i]? = some c ∧ x = V.int c := by
        cases e : cs[i]? with
        | none => rw [e] at ex; cases ex
        | some z => rw [e] at ex; exact ⟨z, rfl, (Option.some.inj ex).symm⟩
      have hi2 : i < cs.length := (List.getElem?_eq_some_iff.mp hc1).1
      refine ⟨_, rfl, _, rfl, c, b, rfl, hcs c (List.mem_of_getElem? hc1), fun l x y hl => ?_⟩
      have n4 : Ne4 H o t q l := ⟨Same.free (Same.refl _) hho, zt, zq, Same.free Ji.sm hl, not_, noq, ntq, ne_of_none Ji.ho hl, ne_of_none Ji.ht hl, ne_of_none Ji.hq hl⟩
      have sl := same_upd (o := .lst [.int x, .int y]) hl
      have sR : Same (d3 o t q (nw H H4)) (R4 o t q l H (upd H4 l (.lst [.int x, .int y]))) := fun a u e => by
        obtain ⟨h1, h2, h3, h4⟩ := d3_some e
        obtain ⟨h5, h6⟩ := nw_some h1
        exact R4_of (sl _ _ h6) h5 h2 h3 h4 (ne_of_none h6 hl)
      have J1 : J K H o t q l (upd H4 l (.lst [.int x, .int y])) ns kv m xs rows := ⟨Same.trans Ji.sm sl, sl _ _ Ji.ho, sl _ _ Ji.ht, sl _ _ Ji.hq, Ji.hk.mono sR, DpAll.mono sR Ji.hx⟩
      have hl1 : (upd H4 l (.lst [.int x, .int y])) l = some (.lst [.int x, .int y]) := upd_same
      clear sR sl Ji
      generalize upd H4 l (.lst [.int x, .int y]) = H5 at J1 hl1 ⊢
      refine ⟨_, rfl, l, x, y, 4, rfl, hl1, by decide, by decide, fun way x' y' _ _ => ?_⟩
      have J2 := J1.step n4 (same_wr (o := .lst [.int x', .int y']) same_del del_same)
      have tp2 : Tp (upd H5 l (.lst [.int x', .int y'])) l := ⟨_, _, upd_same⟩
      clear J1
      generalize upd H5 l (.lst [.int x', .int y']) = H6 at J2 tp2 ⊢
      refine ⟨_, rfl, rfl, _, rfl, ?_⟩
      by_cases w3 : V.int way = V.int 3
      · refine ifdT w3 ?_
        refine ⟨_, rfl, ?_⟩
        intro e3 he3
        have J3 := J2.grow n4 (same_upd (o := .dK []) he3)
        have tp3 := tp2.grow (same_upd (o := .dK []) he3)
        have hee3 : (upd H6 e3 (.dK [])) e3 = some (.dK []) := upd_same
        generalize upd H6 e3 (.dK []) = H7 at J3 tp3 hee3 ⊢
        refine ⟨t, e3, kv, rfl, rfl, J3.ht, hee3, _, rfl, ?_⟩
        by_cases hkv : kv = []
        · refine ifbF (by rw [hkv]; rfl) ?_
          refine ⟨_, rfl, rfl, _, rfl, ?_⟩
          refine ifdF (by rw [w3]; intro z; cases z) ?_
          refine iteF ?_
          refine ⟨_, rfl, _, rfl, _, rfl, l, o, mo, ns, rfl, tp3, J3.ho, n4.ol, hns, hmo, by omega, fun Ha z sa tpa okz => ?_⟩
          have Ja := J3.step n4 sa
          have hand : ∀ (σ : L2.St) (R : V → Hp → Prop), σ[2]? = some (some (V.int mo)) → (∀ bb, R (.bl bb) Ha) → (∃ c, V.bl b = .bl c ∧ if c = true then tOp rEq (tVar 2) (tC (.int 12)) σ Ha R else R (.bl false) Ha) := fun σ R hσ hR => by
            refine ⟨b, rfl, ?_⟩
            cases b
            · exact iteF (hR _)
            · exact iteT ⟨_, hσ, rfl, hR _⟩
          refine ⟨_, rfl, _, rfl, hand _ _ rfl fun bb => ?_⟩
          refine ⟨l, bb, rfl, tpa, fun Hb v ps sb tpb okps hv => ?_⟩
          have Jb := Ja.step n4 sb
          have hv' : Dp K (R4 o t q l H Hb) v (partsD ps) := Dp.mono (fun a u e => by
            obtain ⟨e1, e2⟩ := nw_some e
            have nn : ∀ {b : Addr} {w : HO}, Ha b = some w → a ≠ b := fun hb z => by rw [z, hb] at e1; cases e1
            obtain ⟨xa, ya, hla⟩ := tpa
            exact R4_of e2 (Same.free Ja.sm e1) (nn Ja.ho) (nn Ja.ht) (nn Ja.hq) (nn hla)) hv
          have hkl : kv.length ≤ i := by rw [Jb.hk.len]; unfold txD; rw [List.length_map, hm]; exact Nat.le_trans (mOf_all hr).few (Nat.le_of_eq hrl)
          refine ⟨_, rfl, _, rfl, t, _, rfl, DPut.k (k := Sum.inr z) Jb.ht (small_sz (by omega)), ?_⟩
          have Jc := Jb.putT n4 (kv' := putK kv (.inr z) v) (m' := putA m z ps) (by unfold txD; rw [← putA_map partsD]; exact Jb.hk.put z hv')
          have tpc : Tp (upd Hb t (.dK (putK kv (.inr z) v))) l := tpb.upd n4.tl.symm
          have hvc : Dp K (R4 o t q l H (upd Hb t (.dK (putK kv (.inr z) v)))) v (partsD ps) := Dp.mono (R4_wr (.inr (.inl rfl))) hv'
          generalize upd Hb t (.dK (putK kv (.inr z) v)) = Hc at Jc tpc hvc ⊢
          have hget : DGet Hc t (V.str z) (some v) := by
            have := DGet.k (k := Sum.inr z) Jc.ht
            rw [valV_put, if_pos rfl] at this
            exact this
          refine ⟨_, rfl, .inl ⟨rfl, _, SqL.of Jc.hq⟩, ?_⟩
          refine ⟨_, rfl, _, rfl, _, rfl, t, v, rfl, hget, by show 2 ≤ sizeLine; decide, fun p hp => ?_⟩
          have hxl : xs.length = rows.length := by rw [DpAll.length Jc.hx, List.length_map]
          refine ⟨q, xs, _, rfl, rfl, same_upd hp _ _ Jc.hq, small_sz (by omega), ?_⟩
          have Jd := (Jc.grow n4 (same_upd (o := .tup [.str z, v]) hp)).putQ n4 (Jc.newTup (r := some ps) n4 hp (by obtain ⟨x, y, h⟩ := tpc; exact ⟨_, h⟩) hvc)
          generalize upd (upd Hc p (.tup [.str z, v])) q (.lst (xs ++ [.ref p])) = Hd at Jd ⊢
          have hr' : RowsOk (rows ++ [(z, some ps)]) := hr.snoc okz (fun ps' e => by cases e; exact okps) (fun e => by cases e)
          have hm' : putA m z ps = mOf (rows ++ [(z, some ps)]) := by rw [mOf_snoc, ← hm]; rfl
          have hl' : (rows ++ [(z, some ps)]).length = i + 1 := by rw [List.length_append, hrl]; rfl
          refine ⟨_, rfl, _, rfl, o, _, rfl, .inl (SqL.of Jd.ho), rfl, by rw [List.all_map]; exact List.all_eq_true.mpr fun _ _ => rfl, _, rfl, ?_⟩
          cases hb : (!inV (V.str z) (ns.map V.str)) with
          | true =>
            refine ifbT (by rw [if_pos rfl]) ?_
            refine ⟨_, rfl, .inl ⟨rfl, _, SqL.of Jd.ho⟩, ?_⟩
            refine ⟨_, rfl, o, _, _, rfl, rfl, Jd.ho, small_sz (by rw [List.length_map]; omega), ?_⟩
            have Je := Jd.putO n4 (ns ++ [z])
            rw [List.map_append] at Je
            have hns' : ∀ y ∈ ns ++ [z], NameOk y := fun y hy => by
              rcases List.mem_append.mp hy with h | h
              · exact hns y h
              · rw [List.mem_singleton.mp h]; exact okz
            refine ⟨_, _, _, _, ns ++ [z], _, _, _, _, rfl, ⟨Je.sm, ?_, Je.ht, Je.hq, Je.hk.mono same_del, DpAll.mono same_del Je.hx⟩, hns', by rw [List.length_append]; show ns.length + 1 ≤ _; omega, hm', hr', hl'⟩
            exact Je.ho
          | false =>
            refine ifbF (by rw [if_pos rfl]) ?_
            exact ⟨_, _, _, _, ns, _, _, _, _, rfl, ⟨Jd.sm, Jd.ho, Jd.ht, Jd.hq, Jd.hk.mono same_del, DpAll.mono same_del Jd.hx⟩, hns, by omega, hm', hr', hl'⟩
        · refine ifbT (kv_isE kv hkv) ?_
          have hkl : kv.length = m.length := by rw [J3.hk.len]; unfold txD; rw [List.length_map]
          have hmk : MapOk m i := by have := mOf_all hr; rw [← hm, hrl] at this; exact this
          have hmf := hmk.few
          have hkp : 0 < kv.length := List.length_pos_iff.mpr hkv
          refine ⟨_, rfl, t, kv, m.map (·.1), rfl, .inl J3.ht, keysR J3.hk, fun sq hsq => ?_⟩
          have Js := J3.grow n4 (same_upd (o := .lst ((ssort (m.map (·.1))).map V.str)) hsq)
          have tps := tp3.grow (same_upd (o := .lst ((ssort (m.map (·.1))).map V.str)) hsq)
          obtain ⟨xs1, ys1, hls⟩ := tp3
          have nsl : sq ≠ l := (ne_of_none hls hsq).symm
          have hs1 : (upd H7 sq (.lst ((ssort (m.map (·.1))).map V.str))) sq = some (.lst ((ssort (m.map (·.1))).map V.str)) := upd_same
          generalize upd H7 sq (.lst ((ssort (m.map (·.1))).map V.str)) = Hs at Js tps hs1 ⊢
          obtain ⟨xs2, ys2, hls2⟩ := tps
          refine ⟨_, rfl, _, rfl, t, kv, rfl, Js.ht, l, xs2, ys2, (kv.length : Nat), rfl, hls2, by omega, by omega, fun d x' y' h0 hd => ?_⟩
          have hlen : (ssort (m.map (·.1))).length = kv.length := by rw [(ssort_perm _).length_eq, List.length_map, hkl]
          obtain ⟨z, hz, hzm⟩ := at_mem (xs := ssort (m.map (·.1))) h0 (by rw [hlen]; exact hd)
          have hzk : z ∈ m.map (·.1) := (ssort_perm _).mem_iff.mp hzm
          obtain ⟨ps, hps, hpm⟩ := aget_some hzk
          have okz : NameOk z := hmk.nm _ hpm
          have okps : PartsOk ps := hmk.pt _ hpm
          have Jt := Js.step n4 (same_wr (o := .lst [.int x', .int y']) same_del del_same)
          have tpt : Tp (upd Hs l (.lst [.int x', .int y'])) l := ⟨_, _, upd_same⟩
          have hst : (upd Hs l (.lst [.int x', .int y'])) sq = some (.lst ((ssort (m.map (·.1))).map V.str)) := by rw [upd_ne nsl]; exact hs1
          refine ⟨sq, _, d, .str z, rfl, rfl, SqL.of hst, at_map hz, ?_⟩
          generalize upd Hs l (.lst [.int x', .int y']) = Ht at Jt tpt ⊢
          obtain ⟨v, hv1, hv2⟩ : ∃ v, valV kv (.inr z) = some v ∧ Dp K (R4 o t q l H Ht) v (partsD ps) := by
            rcases Jt.hk.val z with ⟨_, g2⟩ | ⟨v1, dt, g1, g2, g3⟩
            · unfold txD at g2; rw [aget_map, hps] at g2; cases g2
            · unfold txD at g2; rw [aget_map, hps] at g2; cases g2; exact ⟨v1, g1, g3⟩
          refine ⟨_, rfl, t, rfl, .inl ⟨_, .inl Jt.ht⟩, _, rfl, kv, .inr z, v, Jt.ht, rfl, hv1, ?_⟩
          have Ju := Jt.putT n4 (kv' := dropK kv (.inr z)) (m' := dropA m z) (by unfold txD; rw [← dropA_map partsD]; exact Jt.hk.drop z)
          have tpu : Tp (upd Ht t (.dK (dropK kv (.inr z)))) l := tpt.upd n4.tl.symm
          generalize upd Ht t (.dK (dropK kv (.inr z))) = Hu at Ju tpu ⊢
          refine ⟨_, rfl, .inl ⟨rfl, _, SqL.of Ju.hq⟩, ?_⟩
          refine ⟨_, rfl, by show 2 ≤ sizeLine; decide, fun p hp => ?_⟩
          have hxl : xs.length = rows.length := by rw [DpAll.length Ju.hx, List.length_map]
          refine ⟨q, xs, _, rfl, rfl, same_upd hp _ _ Ju.hq, small_sz (by omega), ?_⟩
          have Jd := (Ju.grow n4 (same_upd (o := .tup [.str z, .non]) hp)).putQ n4 (Ju.newTup (r := none) n4 hp (by obtain ⟨x, y, h⟩ := tpu; exact ⟨_, h⟩) .non)
          have hr' : RowsOk (rows ++ [(z, none)]) := hr.snoc okz (fun ps' e => by cases e) (fun _ => by show (aget (mOf rows) z).isSome = true; rw [← hm, hps]; rfl)
          have hm' : dropA m z = mOf (rows ++ [(z, none)]) := by rw [mOf_snoc, ← hm]; rfl
          have hl' : (rows ++ [((z, none) : Rw)]).length = i + 1 := by rw [List.length_append, hrl]; rfl
          exact ⟨_, _, _, _, ns, _, _, _, _, rfl, ⟨Jd.sm, Jd.ho, Jd.ht, Jd.hq, Jd.hk.mono same_del, DpAll.mono same_del Jd.hx⟩, hns, by omega, hm', hr', hl'⟩
      · refine ifdF w3 ?_
        refine iteF ?_
        refine ⟨_, rfl, rfl, _, rfl, ?_⟩
        by_cases w2 : V.int way = V.int 2
        · refine ifdT w2 ?_
          refine ⟨_, rfl, ?_⟩
          intro e3 he3
          have J3 := J2.grow n4 (same_upd (o := .dK []) he3)
          have tp3 := tp2.grow (same_upd (o := .dK []) he3)
          have hee3 : (upd H6 e3 (.dK [])) e3 = some (.dK []) := upd_same
          generalize upd H6 e3 (.dK []) = H7 at J3 tp3 hee3 ⊢
          refine ⟨t, e3, kv, rfl, rfl, J3.ht, hee3, _, rfl, ?_⟩
          by_cases hkv : kv = []
          · refine ifbF (by rw [hkv]; rfl) ?_
            refine iteF ?_
            refine ⟨_, rfl, _, rfl, _, rfl, l, o, mo, ns, rfl, tp3, J3.ho, n4.ol, hns, hmo, by omega, fun Ha z sa tpa okz => ?_⟩
            have Ja := J3.step n4 sa
            have hand : ∀ (σ : L2.St) (R : V → Hp → Prop), σ[2]? = some (some (V.int mo)) → (∀ bb, R (.bl bb) Ha) → (∃ c, V.bl b = .bl c ∧ if c = true then tOp rEq (tVar 2) (tC (.int 12)) σ Ha R else R (.bl false) Ha) := fun σ R hσ hR => by
              refine ⟨b, rfl, ?_⟩
              cases b
              · exact iteF (hR _)
              · exact iteT ⟨_, hσ, rfl, hR _⟩
            refine ⟨_, rfl, _, rfl, hand _ _ rfl fun bb => ?_⟩
            refine ⟨l, bb, rfl, tpa, fun Hb v ps sb tpb okps hv => ?_⟩
            have Jb := Ja.step n4 sb
            have hv' : Dp K (R4 o t q l H Hb) v (partsD ps) := Dp.mono (fun a u e => by
              obtain ⟨e1, e2⟩ := nw_some e
              have nn : ∀ {b : Addr} {w : HO}, Ha b = some w → a ≠ b := fun hb z => by rw [z, hb] at e1; cases e1
              obtain ⟨xa, ya, hla⟩ := tpa
              exact R4_of e2 (Same.free Ja.sm e1) (nn Ja.ho) (nn Ja.ht) (nn Ja.hq) (nn hla)) hv
            have hkl : kv.length ≤ i := by rw [Jb.hk.len]; unfold txD; rw [List.length_map, hm]; exact Nat.le_trans (mOf_all hr).few (Nat.le_of_eq hrl)
            refine ⟨_, rfl, _, rfl, t, _, rfl, DPut.k (k := Sum.inr z) Jb.ht (small_sz (by omega)), ?_⟩
            have Jc := Jb.putT n4 (kv' := putK kv (.inr z) v) (m' := putA m z ps) (by unfold txD; rw [← putA_map partsD]; exact Jb.hk.put z hv')
            have tpc : Tp (upd Hb t (.dK (putK kv (.inr z) v))) l := tpb.upd n4.tl.symm
            have hvc : Dp K (R4 o t q l H (upd Hb t (.dK (putK kv (.inr z) v)))) v (partsD ps) := Dp.mono (R4_wr (.inr (.inl rfl))) hv'
            generalize upd Hb t (.dK (putK kv (.inr z) v)) = Hc at Jc tpc hvc ⊢
            have hget : DGet Hc t (V.str z) (some v) := by
              have := DGet.k (k := Sum.inr z) Jc.ht
              rw [valV_put, if_pos rfl] at this
              exact this
            refine ⟨_, rfl, .inl ⟨rfl, _, SqL.of Jc.hq⟩, ?_⟩
            refine ⟨_, rfl, _, rfl, _, rfl, t, v, rfl, hget, by show 2 ≤ sizeLine; decide, fun p hp => ?_⟩
            have hxl : xs.length = rows.length := by rw [DpAll.length Jc.hx, List.length_map]
            refine ⟨q, xs, _, rfl, rfl, same_upd hp _ _ Jc.hq, small_sz (by omega), ?_⟩
            have Jd := (Jc.grow n4 (same_upd (o := .tup [.str z, v]) hp)).putQ n4 (Jc.newTup (r := some ps) n4 hp (by obtain ⟨x, y, h⟩ := tpc; exact ⟨_, h⟩) hvc)
            generalize upd (upd Hc p (.tup [.str z, v])) q (.lst (xs ++ [.ref p])) = Hd at Jd ⊢
            have hr' : RowsOk (rows ++ [(z, some ps)]) := hr.snoc okz (fun ps' e => by cases e; exact okps) (fun e => by cases e)
            have hm' : putA m z ps = mOf (rows ++ [(z, some ps)]) := by rw [mOf_snoc, ← hm]; rfl
            have hl' : (rows ++ [(z, some ps)]).length = i + 1 := by rw [List.length_append, hrl]; rfl
            refine ⟨_, rfl, _, rfl, o, _, rfl, .inl (SqL.of Jd.ho), rfl, by rw [List.all_map]; exact List.all_eq_true.mpr fun _ _ => rfl, _, rfl, ?_⟩
            cases hb : (!inV (V.str z) (ns.map V.str)) with
            | true =>
              refine ifbT (by rw [if_pos rfl]) ?_
              refine ⟨_, rfl, .inl ⟨rfl, _, SqL.of Jd.ho⟩, ?_⟩
              refine ⟨_, rfl, o, _, _, rfl, rfl, Jd.ho, small_sz (by rw [List.length_map]; omega), ?_⟩
              have Je := Jd.putO n4 (ns ++ [z])
              rw [List.map_append] at Je
              have hns' : ∀ y ∈ ns ++ [z], NameOk y := fun y hy => by
                rcases List.mem_append.mp hy with h | h
                · exact hns y h
                · rw [List.mem_singleton.mp h]; exact okz
              refine ⟨_, _, _, _, ns ++ [z], _, _, _, _, rfl, ⟨Je.sm, ?_, Je.ht, Je.hq, Je.hk.mono same_del, DpAll.mono same_del Je.hx⟩, hns', by rw [List.length_append]; show ns.length + 1 ≤ _; omega, hm', hr', hl'⟩
              exact Je.ho
            | false =>
              refine ifbF (by rw [if_pos rfl]) ?_
              exact ⟨_, _, _, _, ns, _, _, _, _, rfl, ⟨Jd.sm, Jd.ho, Jd.ht, Jd.hq, Jd.hk.mono same_del, DpAll.mono same_del Jd.hx⟩, hns, by omega, hm', hr', hl'⟩
          · refine ifbT (kv_isE kv hkv) ?_
            obtain ⟨x7, y7, hl7⟩ := tp3
            refine ⟨_, rfl, l, x7, y7, 2, rfl, hl7, by decide, by decide, fun d2 x2' y2' _ _ => ?_⟩
            have J4 := J3.step n4 (same_wr (o := .lst [.int x2', .int y2']) same_del del_same)
            have tp4 : Tp (upd H7 l (.lst [.int x2', .int y2'])) l := ⟨_, _, upd_same⟩
            generalize upd H7 l (.lst [.int x2', .int y2']) = H8 at J4 tp4 ⊢
            refine ⟨rfl, _, rfl, ?_⟩
            by_cases w1 : V.int d2 = V.int 1
            · refine ifdT w1 ?_
              have hkl : kv.length = m.length := by rw [J4.hk.len]; unfold txD; rw [List.length_map]
              have hmk : MapOk m i := by have := mOf_all hr; rw [← hm, hrl] at this; exact this
              have hmf := hmk.few
              have hkp : 0 < kv.length := List.length_pos_iff.mpr hkv
              refine ⟨_, rfl, t, kv, m.map (·.1), rfl, .inl J4.ht, keysR J4.hk, fun sq hsq => ?_⟩
              have Js := J4.grow n4 (same_upd (o := .lst ((ssort (m.map (·.1))).map V.str)) hsq)
              have tps := tp4.grow (same_upd (o := .lst ((ssort (m.map (·.1))).map V.str)) hsq)
              obtain ⟨xs1, ys1, hls⟩ := tp4
              have nsl : sq ≠ l := (ne_of_none hls hsq).symm
              have hs1 : (upd H8 sq (.lst ((ssort (m.map (·.1))).map V.str))) sq = some (.lst ((ssort (m.map (·.1))).map V.str)) := upd_same
              generalize upd H8 sq (.lst ((ssort (m.map (·.1))).map V.str)) = Hs at Js tps hs1 ⊢
              obtain ⟨xs2, ys2, hls2⟩ := tps
              refine ⟨_, rfl, _, rfl, t, kv, rfl, Js.ht, l, xs2, ys2, (kv.length : Nat), rfl, hls2, by omega, by omega, fun d x' y' h0 hd => ?_⟩
              have hlen : (ssort (m.map (·.1))).length = kv.length := by rw [(ssort_perm _).length_eq, List.length_map, hkl]
              obtain ⟨z, hz, hzm⟩ := at_mem (xs := ssort (m.map (·.1))) h0 (by rw [hlen]; exact hd)
              have hzk : z ∈ m.map (·.1) := (ssort_perm _).mem_iff.mp hzm
              obtain ⟨ps, hps, hpm⟩ := aget_some hzk
              have okz : NameOk z := hmk.nm _ hpm
              have okps : PartsOk ps := hmk.pt _ hpm
              have Jt := Js.step n4 (same_wr (o := .lst [.int x', .int y']) same_del del_same)
              have tpt : Tp (upd Hs l (.lst [.int x', .int y'])) l := ⟨_, _, upd_same⟩
              have hst : (upd Hs l (.lst [.int x', .int y'])) sq = some (.lst ((ssort (m.map (·.1))).map V.str)) := by rw [upd_ne nsl]; exact hs1
              refine ⟨sq, _, d, .str z, rfl, rfl, SqL.of hst, at_map hz, ?_⟩
              generalize upd Hs l (.lst [.int x', .int y']) = Ht at Jt tpt ⊢
              obtain ⟨v, hv1, hv2⟩ : ∃ v, valV kv (.inr z) = some v ∧ Dp K (R4 o t q l H Ht) v (partsD ps) := by
                rcases Jt.hk.val z with ⟨_, g2⟩ | ⟨v1, dt, g1, g2, g3⟩
                · unfold txD at g2; rw [aget_map, hps] at g2; cases g2
                · unfold txD at g2; rw [aget_map, hps] at g2; cases g2; exact ⟨v1, g1, g3⟩
              have hget : DGet Ht t (V.str z) (some v) := by
                have := DGet.k (k := Sum.inr z) Jt.ht
                rw [hv1] at this
                exact this
              refine ⟨_, rfl, .inl ⟨rfl, _, SqL.of Jt.hq⟩, ?_⟩
              refine ⟨_, rfl, _, rfl, _, rfl, t, v, rfl, hget, by show 2 ≤ sizeLine; decide, fun p hp => ?_⟩
              have hxl : xs.length = rows.length := by rw [DpAll.length Jt.hx, List.length_map]
              refine ⟨q, xs, _, rfl, rfl, same_upd hp _ _ Jt.hq, small_sz (by omega), ?_⟩
              have Jd := (Jt.grow n4 (same_upd (o := .tup [.str z, v]) hp)).putQ n4 (Jt.newTup (r := some ps) n4 hp (by obtain ⟨x, y, h⟩ := tpt; exact ⟨_, h⟩) hv2)
              have hr' : RowsOk (rows ++ [(z, some ps)]) := hr.snoc okz (fun ps' e => by cases e; exact okps) (fun e => by cases e)
              have hm' : m = mOf (rows ++ [(z, some ps)]) := by rw [mOf_snoc, ← hm]; exact (putA_same hmk.nd hps).symm
              have hl' : (rows ++ [((z, some ps) : Rw)]).length = i + 1 := by rw [List.length_append, hrl]; rfl
              exact ⟨_, _, _, _, ns, _, _, _, _, rfl, ⟨Jd.sm, Jd.ho, Jd.ht, Jd.hq, Jd.hk.mono same_del, DpAll.mono same_del Jd.hx⟩, hns, by omega, hm', hr', hl'⟩
            · refine ifdF w1 ?_
              refine ⟨_, rfl, _, rfl, _, rfl, l, o, mo, ns, rfl, tp4, J4.ho, n4.ol, hns, hmo, by omega, fun Ha z sa tpa okz => ?_⟩
              have Ja := J4.step n4 sa
              have hand : ∀ (σ : L2.St) (R : V → Hp → Prop), σ[2]? = some (some (V.int mo)) → (∀ bb, R (.bl bb) Ha) → (∃ c, V.bl b = .bl c ∧ if c = true then tOp rEq (tVar 2) (tC (.int 12)) σ Ha R else R (.bl false) Ha) := fun σ R hσ hR => by
                refine ⟨b, rfl, ?_⟩
                cases b
                · exact iteF (hR _)
                · exact iteT ⟨_, hσ, rfl, hR _⟩
              refine ⟨_, rfl, _, rfl, hand _ _ rfl fun bb => ?_⟩
              refine ⟨l, bb, rfl, tpa, fun Hb v ps sb tpb okps hv => ?_⟩
              have Jb := Ja.step n4 sb
              have hv' : Dp K (R4 o t q l H Hb) v (partsD ps) := Dp.mono (fun a u e => by
                obtain ⟨e1, e2⟩ := nw_some e
                have nn : ∀ {b : Addr} {w : HO}, Ha b = some w → a ≠ b := fun hb z => by rw [z, hb] at e1; cases e1
                obtain ⟨xa, ya, hla⟩ := tpa
                exact R4_of e2 (Same.free Ja.sm e1) (nn Ja.ho) (nn Ja.ht) (nn Ja.hq) (nn hla)) hv
              have hkl : kv.length ≤ i := by rw [Jb.hk.len]; unfold txD; rw [List.length_map, hm]; exact Nat.le_trans (mOf_all hr).few (Nat.le_of_eq hrl)
              refine ⟨_, rfl, _, rfl, t, _, rfl, DPut.k (k := Sum.inr z) Jb.ht (small_sz (by omega)), ?_⟩
              have Jc := Jb.putT n4 (kv' := putK kv (.inr z) v) (m' := putA m z ps) (by unfold txD; rw [← putA_map partsD]; exact Jb.hk.put z hv')
              have tpc : Tp (upd Hb t (.dK (putK kv (.inr z) v))) l := tpb.upd n4.tl.symm
              have hvc : Dp K (R4 o t q l H (upd Hb t (.dK (putK kv (.inr z) v)))) v (partsD ps) := Dp.mono (R4_wr (.inr (.inl rfl))) hv'
              generalize upd Hb t (.dK (putK kv (.inr z) v)) = Hc at Jc tpc hvc ⊢
              have hget : DGet Hc t (V.str z) (some v) := by
                have := DGet.k (k := Sum.inr z) Jc.ht
                rw [valV_put, if_pos rfl] at this
                exact this
              refine ⟨_, rfl, .inl ⟨rfl, _, SqL.of Jc.hq⟩, ?_⟩
              refine ⟨_, rfl, _, rfl, _, rfl, t, v, rfl, hget, by show 2 ≤ sizeLine; decide, fun p hp => ?_⟩
              have hxl : xs.length = rows.length := by rw [DpAll.length Jc.hx, List.length_map]
              refine ⟨q, xs, _, rfl, rfl, same_upd hp _ _ Jc.hq, small_sz (by omega), ?_⟩
              have Jd := (Jc.grow n4 (same_upd (o := .tup [.str z, v]) hp)).putQ n4 (Jc.newTup (r := some ps) n4 hp (by obtain ⟨x, y, h⟩ := tpc; exact ⟨_, h⟩) hvc)
              generalize upd (upd Hc p (.tup [.str z, v])) q (.lst (xs ++ [.ref p])) = Hd at Jd ⊢
              have hr' : RowsOk (rows ++ [(z, some ps)]) := hr.snoc okz (fun ps' e => by cases e; exact okps) (fun e => by cases e)
              have hm' : putA m z ps = mOf (rows ++ [(z, some ps)]) := by rw [mOf_snoc, ← hm]; rfl
              have hl' : (rows ++ [(z, some ps)]).length = i + 1 := by rw [List.length_append, hrl]; rfl
              refine ⟨_, rfl, _, rfl, o, _, rfl, .inl (SqL.of Jd.ho), rfl, by rw [List.all_map]; exact List.all_eq_true.mpr fun _ _ => rfl, _, rfl, ?_⟩
              cases hb : (!inV (V.str z) (ns.map V.str)) with
              | true =>
                refine ifbT (by rw [if_pos rfl]) ?_
                refine ⟨_, rfl, .inl ⟨rfl, _, SqL.of Jd.ho⟩, ?_⟩
                refine ⟨_, rfl, o, _, _, rfl, rfl, Jd.ho, small_sz (by rw [List.length_map]; omega), ?_⟩
                have Je := Jd.putO n4 (ns ++ [z])
                rw [List.map_append] at Je
                have hns' : ∀ y ∈ ns ++ [z], NameOk y := fun y hy => by
                  rcases List.mem_append.mp hy with h | h
                  · exact hns y h
                  · rw [List.mem_singleton.mp h]; exact okz
                refine ⟨_, _, _, _, ns ++ [z], _, _, _, _, rfl, ⟨Je.sm, ?_, Je.ht, Je.hq, Je.hk.mono same_del, DpAll.mono same_del Je.hx⟩, hns', by rw [List.length_append]; show ns.length + 1 ≤ _; omega, hm', hr', hl'⟩
                exact Je.ho
              | false =>
                refine ifbF (by rw [if_pos rfl]) ?_
                exact ⟨_, _, _, _, ns, _, _, _, _, rfl, ⟨Jd.sm, Jd.ho, Jd.ht, Jd.hq, Jd.hk.mono same_del, DpAll.mono same_del Jd.hx⟩, hns, by omega, hm', hr', hl'⟩
        · refine ifdF w2 ?_
          refine iteF ?_
          refine ⟨_, rfl, _, rfl, _, rfl, l, o, mo, ns, rfl, tp2, J2.ho, n4.ol, hns, hmo, by omega, fun Ha z sa tpa okz => ?_⟩
          have Ja := J2.step n4 sa
          have hand : ∀ (σ : L2.St) (R : V → Hp → Prop), σ[2]? = some (some (V.int mo)) → (∀ bb, R (.bl bb) Ha) → (∃ c, V.bl b = .bl c ∧ if c = true then tOp rEq (tVar 2) (tC (.int 12)) σ Ha R else R (.bl false) Ha) := fun σ R hσ hR => by
            refine ⟨b, rfl, ?_⟩
            cases b
            · exact iteF (hR _)
            · exact iteT ⟨_, hσ, rfl, hR _⟩
          refine ⟨_, rfl, _, rfl, hand _ _ rfl fun bb => ?_⟩
          refine ⟨l, bb, rfl, tpa, fun Hb v ps sb tpb okps hv => ?_⟩
          have Jb := Ja.step n4 sb
          have hv' : Dp K (R4 o t q l H Hb) v (partsD ps) := Dp.mono (fun a u e => by
            obtain ⟨e1, e2⟩ := nw_some e
            have nn : ∀ {b : Addr} {w : HO}, Ha b = some w → a ≠ b := fun hb z => by rw [z, hb] at e1; cases e1
            obtain ⟨xa, ya, hla⟩ := tpa
            exact R4_of e2 (Same.free Ja.sm e1) (nn Ja.ho) (nn Ja.ht) (nn Ja.hq) (nn hla)) hv
          have hkl : kv.length ≤ i := by rw [Jb.hk.len]; unfold txD; rw [List.length_map, hm]; exact Nat.le_trans (mOf_all hr).few (Nat.le_of_eq hrl)
          refine ⟨_, rfl, _, rfl, t, _, rfl, DPut.k (k := Sum.inr z) Jb.ht (small_sz (by omega)), ?_⟩
          have Jc := Jb.putT n4 (kv' := putK kv (.inr z) v) (m' := putA m z ps) (by unfold txD; rw [← putA_map partsD]; exact Jb.hk.put z hv')
          have tpc : Tp (upd Hb t (.dK (putK kv (.inr z) v))) l := tpb.upd n4.tl.symm
          have hvc : Dp K (R4 o t q l H (upd Hb t (.dK (putK kv (.inr z) v)))) v (partsD ps) := Dp.mono (R4_wr (.inr (.inl rfl))) hv'
          generalize upd Hb t (.dK (putK kv (.inr z) v)) = Hc at Jc tpc hvc ⊢
          have hget : DGet Hc t (V.str z) (some v) := by
            have := DGet.k (k := Sum.inr z) Jc.ht
            rw [valV_put, if_pos rfl] at this
            exact this
          refine ⟨_, rfl, .inl ⟨rfl, _, SqL.of Jc.hq⟩, ?_⟩
          refine ⟨_, rfl, _, rfl, _, rfl, t, v, rfl, hget, by show 2 ≤ sizeLine; decide, fun p hp => ?_⟩
          have hxl : xs.length = rows.length := by rw [DpAll.length Jc.hx, List.length_map]
          refine ⟨q, xs, _, rfl, rfl, same_upd hp _ _ Jc.hq, small_sz (by omega), ?_⟩
          have Jd := (Jc.grow n4 (same_upd (o := .tup [.str z, v]) hp)).putQ n4 (Jc.newTup (r := some ps) n4 hp (by obtain ⟨x, y, h⟩ := tpc; exact ⟨_, h⟩) hvc)
          generalize upd (upd Hc p (.tup [.str z, v])) q (.lst (xs ++ [.ref p])) = Hd at Jd ⊢
          have hr' : RowsOk (rows ++ [(z, some ps)]) := hr.snoc okz (fun ps' e => by cases e; exact okps) (fun e => by cases e)
          have hm' : putA m z ps = mOf (rows ++ [(z, some ps)]) := by rw [mOf_snoc, ← hm]; rfl
          have hl' : (rows ++ [(z, some ps)]).length = i + 1 := by rw [List.length_append, hrl]; rfl
          refine ⟨_, rfl, _, rfl, o, _, rfl, .inl (SqL.of Jd.ho), rfl, by rw [List.all_map]; exact List.all_eq_true.mpr fun _ _ => rfl, _, rfl, ?_⟩
          cases hb : (!inV (V.str z) (ns.map V.str)) with
          | true =>
            refine ifbT (by rw [if_pos rfl]) ?_
            refine ⟨_, rfl, .inl ⟨rfl, _, SqL.of Jd.ho⟩, ?_⟩
            refine ⟨_, rfl, o, _, _, rfl, rfl, Jd.ho, small_sz (by rw [List.length_map]; omega), ?_⟩
            have Je := Jd.putO n4 (ns ++ [z])
            rw [List.map_append] at Je
            have hns' : ∀ y ∈ ns ++ [z], NameOk y := fun y hy => by
              rcases List.mem_append.mp hy with h | h
              · exact hns y h
              · rw [List.mem_singleton.mp h]; exact okz
            refine ⟨_, _, _, _, ns ++ [z], _, _, _, _, rfl, ⟨Je.sm, ?_, Je.ht, Je.hq, Je.hk.mono same_del, DpAll.mono same_del Je.hx⟩, hns', by rw [List.length_append]; show ns.length + 1 ≤ _; omega, hm', hr', hl'⟩
            exact Je.ho
          | false =>
            refine ifbF (by rw [if_pos rfl]) ?_
            exact ⟨_, _, _, _, ns, _, _, _, _, rfl, ⟨Jd.sm, Jd.ho, Jd.ht, Jd.hq, Jd.hk.mono same_del, DpAll.mono same_del Jd.hx⟩, hns, by omega, hm', hr', hl'⟩
    · rintro σ H' ⟨x6, x7, x8, x9, ns, kv, m, xs, rows, rfl, Ji, hns, hnl, hm, hr, hrl⟩
      refine ⟨_, rfl, k H' _ rows Ji.sm hr (by rw [hrl]; simp) ?_⟩
      refine .lst (SqL.of (by rw [nw_none zq]; exact Ji.hq)) (DpAll.mono (fun a u e => (d3_some e).1) Ji.hx)
end
end KR
set_option maxHeartbeats 1000000
namespace KR
open PySem PySem.Spec PyProof.Rows L2
def spDone (K : PySem.W.Frag) (cH cL : Addr) : Sp := fun vs H Q _ => ∃ (R : Hp) (p g r a : Addr) (n : Nat) (mp : Mp) (z : Str) (v : V) (x : Option (List Str)), vs = [.ref p, .ref a] ∧ SqT K H a [.str z, v] ∧ Hou K cH cL H R p g r n mp ∧ NameOk z ∧ Dp K R v (optD x) ∧ (∀ ps, x = some ps → PartsOk ps) ∧ (x = none → (mp z).isSome = true) ∧ n ≤ 2000 ∧
  ∀ (H' : Hp) (i : Int), Same (d2 p g H) H' → Hou K cH cL H' (join R (nw H H')) p g r (n + 1) (upM mp z x) → Q (.int i) H'
def ENDS : List En := [("s", "", 2), ("ing", "", 3), ("ies", "y", 2), ("ats", "at", 1), ("e", "", 1)]
def SILS : List Str := ["the", "a1", "of", "x", "s"]
theorem ofOk_dec (w sg : Str) (lo hi : Int) (h : (decide (lo ≤ (w.length : Int)) && decide ((w.length : Int) ≤ hi) && decide (w.length ≤ 1000) && w.cps.toList.all fun c => decide (c ∈ sg.cps.toList)) = true) : OfOk w sg lo hi := by
  simp only [Bool.and_eq_true, decide_eq_true_eq, List.all_eq_true] at h
  exact ⟨h.1.1.1, h.1.1.2, h.1.2, h.2⟩
theorem ends_ok : ∀ e ∈ ENDS, EnOk e := by
  intro e he
  have h : ENDS.all (fun e => (decide (1 ≤ (e.1.length : Int)) && decide ((e.1.length : Int) ≤ 8) && decide (e.1.length ≤ 1000) && e.1.cps.toList.all fun c => decide (c ∈ RLET.cps.toList)) && (decide (0 ≤ (e.2.1.length : Int)) && decide ((e.2.1.length : Int) ≤ (e.1.length : Nat)) && decide (e.2.1.length ≤ 1000) && e.2.1.cps.toList.all fun c => decide (c ∈ RLET.cps.toList)) && decide (1 ≤ e.2.2) && decide (e.2.2 ≤ 20)) = true := by decide +kernel
  have q := List.all_eq_true.mp h e he
  rw [Bool.and_eq_true, Bool.and_eq_true, Bool.and_eq_true] at q
  exact ⟨ofOk_dec _ _ _ _ q.1.1.1, ofOk_dec _ _ _ _ q.1.1.2, of_decide_eq_true q.1.2, of_decide_eq_true q.2⟩
theorem ends_nd : (ENDS.map (·.1)).Nodup := by decide +kernel
theorem sils_nd : SILS.Nodup := by decide +kernel
theorem sils_ok : ∀ z ∈ SILS, OfOk z RSIG 1 20 := by
  intro e he
  have h : SILS.all (fun e => (decide (1 ≤ (e.length : Int)) && decide ((e.length : Int) ≤ 20) && decide (e.length ≤ 1000) && e.cps.toList.all fun c => decide (c ∈ RSIG.cps.toList))) = true := by decide +kernel
  exact ofOk_dec _ _ _ _ (List.all_eq_true.mp h e he)
theorem ifb_any {b : Bool} {A B : Prop} (h1 : A) (h2 : B) : if b = true then A else B := by
  cases b
  · exact iteF h2
  · exact iteT h1
theorem ix_listK {X : Cx} (K : PySem.W.Frag) (h : X.K = K := by rfl) : IxR X (rIxL K) := by subst h; exact ix_list
def spRules (K : PySem.W.Frag) : Sp := fun vs H Q _ => ∃ (c : Int), vs = [.int c] ∧ ∀ (H' : Hp) (a x y : Addr) (es : List En) (ws : List Str) (xs : List V), Same H H' → H' a = some (.tup [.ref x, .ref y]) → SqL K H' x xs → DpAll K H' xs (es.map enD) → SqL K H' y (ws.map V.str) →
  (∀ e ∈ es, EnOk e) → (es.map (·.1)).Nodup → ws.Nodup → (∀ z ∈ ws, OfOk z RSIG 1 20) → es.length ≤ 1000 → ws.length ≤ 1000 → Q (.ref a) H'
section
variable {P : Program} {w : World} {K : PySem.W.Frag} {mg : Str → Option Value} {base : Heap} {cL cM cH cR cB : Addr}
theorem scDone : FnScope ["_law_house", "_law_row"] ["_law_house", "_law_row"] (defScope sDone) := ⟨rfl, rfl, rfl, by decide +kernel, rfl, by decide +kernel, by decide +kernel⟩
theorem ok_done {f : Addr} {fd : FuncData} (F0 : Fun K "_law_done" "_law_done" sDone f fd) (T : Txt K mg cL cM cH cR)
    (mPut : Mth P w K mg base cH 5 "put" ["self", "name", "parts"] (spPut K cH cL)) (mTake : Mth P w K mg base cH 5 "take" ["self", "name"] (spTake K cH cL)) :
    FnOk P w K mg base CX0 6 f fd ["_law_house", "_law_row"] (spDone K cH cL) := by
  refine F0.ok scDone (fun vs H Q E h => ?_) (fun cdv A outer s H vs Q E hr h => ?_)
  · obtain ⟨R, p, g, r, a, n, mp, z, v, x, rfl, _⟩ := h
    rfl
  · obtain ⟨R, p, g, r, a, n, mp, z, v, x, rfl, ha, Ho, okz, hv, okp, hx, hn, k⟩ := h
    refine ⟨_, (pss_cons (ps_if (pt_cmpR op_isN (pe_ix ix_tup (pv 1) pe_int (fun _ _ => rfl)) pe_non (nomark _)) (pss_one (ps_ret (pe_mth (pv 0) T.hC mTake hr (pa_cons (pe_ix ix_tup (pv 1) pe_int (fun _ _ => rfl)) pa_nil)))) pss_nil)
      (pss_one (ps_ret (pe_mth (pv 0) T.hC mPut hr (pa_cons (pe_ix ix_tup (pv 1) pe_int (fun _ _ => rfl)) (pa_cons (pe_ix ix_tup (pv 1) pe_int (fun _ _ => rfl)) pa_nil)))))), ?_⟩
    obtain ⟨dx, e, gs, L, lv, lys, hp, hg, _⟩ := Ho.ex
    refine ⟨_, rfl, a, _, 1, v, rfl, rfl, ha, rfl, rfl, _, rfl, ?_⟩
    cases x with
    | none =>
      cases hv
      refine ifdT rfl ?_
      refine ⟨_, rfl, p, dx, _, rfl, hp, hF_no _ _ _ (by decide +kernel) (by decide +kernel) (by decide +kernel), ?_⟩
      refine ⟨_, rfl, a, _, 0, .str z, rfl, rfl, ha, rfl, ?_⟩
      exact ⟨R, p, g, r, n, mp, z, rfl, Ho, hx rfl, hn, k⟩
    | some ps =>
      obtain ⟨b, ys, rfl, _, _⟩ := dp_tup hv
      refine ifdF (by intro e; cases e) ?_
      refine ⟨_, rfl, p, dx, _, rfl, hp, hF_no _ _ _ (by decide +kernel) (by decide +kernel) (by decide +kernel), ?_⟩
      refine ⟨_, rfl, a, _, 0, .str z, rfl, rfl, ha, rfl, _, rfl, a, _, 1, .ref b, rfl, rfl, ha, rfl, ?_⟩
      exact ⟨R, p, g, r, n, mp, z, .ref b, ps, rfl, Ho, okz, hv, okp ps rfl, hn, k⟩
theorem scRules : FnScope ["_law_cell", "_law_endings", "_law_silent", "_law_some", "_law_k"] ["_law_cell"] (defScope sRules) := ⟨rfl, rfl, rfl, by decide +kernel, rfl, by decide +kernel, by decide +kernel⟩
theorem ok_rules {f : Addr} {fd : FuncData} (F0 : Fun K "_law_rules" "_law_rules" sRules f fd) (T : Txt K mg cL cM cH cR) :
    FnOk P w K mg base CX0 1 f fd ["_law_cell"] (spRules K) := by
  refine F0.ok scRules (fun vs H Q E h => ?_) (fun cdv A outer s H vs Q E hr h => ?_)
  · obtain ⟨c, rfl, _⟩ := h
    rfl
  · obtain ⟨c, rfl, k⟩ := h
    have nd := scRules.nd
    refine ⟨_, (pss_cons (ps_set (i := 1) nd rfl (.inr rfl) (pe_lst (pa_cons (pe_tup (pa_cons pe_str (pa_cons pe_str (pa_cons pe_int pa_nil)))) (pa_cons (pe_tup (pa_cons pe_str (pa_cons pe_str (pa_cons pe_int pa_nil)))) (pa_cons (pe_tup (pa_cons pe_str (pa_cons pe_str (pa_cons pe_int pa_nil)))) (pa_cons (pe_tup (pa_cons pe_str (pa_cons pe_str (pa_cons pe_int pa_nil)))) (pa_cons (pe_tup (pa_cons pe_str (pa_cons pe_str (pa_cons pe_int pa_nil)))) pa_nil)))))))
      (pss_cons (ps_set (i := 2) nd rfl (.inr rfl) (pe_lst (pa_cons pe_str (pa_cons pe_str (pa_cons pe_str (pa_cons pe_str (pa_cons pe_str pa_nil)))))))
      (pss_cons (ps_setLc (i := 3) (own := [("_law_k", 4)]) (g := gName 4) (tt := _) rfl nd rfl rfl (sw_true rfl rfl rfl (by decide +kernel)) (pi_range1 (by rfl) T.range (pa_cons pe_int pa_nil)) (blkOk_by (own := [("_law_k", 4)]) (N := ["_law_cell", "_law_endings", "_law_silent", "_law_some", "_law_k"]) (sc := (defScope sRules)) (by decide +kernel)) (fun _ _ _ _ _ => (pg_name (i := 4) nd rfl (.inl rfl))) (fun _ _ _ _ _ => pts_one (pt_cmpR op_eq (pe_op op_and (pe_op op_shr (pv 0) (pv 4)) pe_int) pe_int (nomark _))) (fun _ _ _ _ _ => (pe_ix (ix_listK K) (pv 1) (pv 4) (fun _ _ => rfl))))
      (pss_one (ps_ret (pe_tup (pa_cons (pv 3) (pa_cons (pe_lc (own := [("_law_k", 4)]) (g := gName 4) (tt := _) rfl nd (pi_range1 (by rfl) T.range (pa_cons pe_int pa_nil)) (blkOk_by (own := [("_law_k", 4)]) (N := ["_law_cell", "_law_endings", "_law_silent", "_law_some", "_law_k"]) (sc := (defScope sRules)) (by decide +kernel)) (fun _ _ _ _ _ => (pg_name (i := 4) nd rfl (.inl rfl))) (fun _ _ _ _ _ => pts_one (pt_cmpR op_eq (pe_op op_and (pe_op op_shr (pv 0) (pe_op op_add (pv 4) pe_int)) pe_int) pe_int (nomark _))) (fun _ _ _ _ _ => (pe_ix (ix_listK K) (pv 2) (pv 4) (fun _ _ => rfl)))) pa_nil)))))))), ?_⟩
    -- the endings
    refine ⟨by show 3 ≤ sizeLine; decide, fun p1 hp1 => ?_⟩
    have D1 := Dp.newTup (K := K) (ds := [.str "s", .str "", .int 2]) hp1 (.cons (.str _) (.cons (.str _) (.cons (.int _) .nil)))
    have s1 := same_upd (o := .tup [.str "s", .str "", .int 2]) hp1
    show (tCons _ _ _ (upd H p1 (.tup [.str "s", .str "", .int 2])) _ : Prop)
    generalize upd H p1 (.tup [.str "s", .str "", .int 2]) = H1 at D1 s1 ⊢
    refine ⟨by show 3 ≤ sizeLine; decide, fun p2 hp2 => ?_⟩
    have D2 := Dp.newTup (K := K) (ds := [.str "ing", .str "", .int 3]) hp2 (.cons (.str _) (.cons (.str _) (.cons (.int _) .nil)))
    have s2 := same_upd (o := .tup [.str "ing", .str "", .int 3]) hp2
    show (tCons _ _ _ (upd H1 p2 (.tup [.str "ing", .str "", .int 3])) _ : Prop)
    generalize upd H1 p2 (.tup [.str "ing", .str "", .int 3]) = H2 at D2 s2 ⊢
    refine ⟨by show 3 ≤ sizeLine; decide, fun p3 hp3 => ?_⟩
    have D3 := Dp.newTup (K := K) (ds := [.str "ies", .str "y", .int 2]) hp3 (.cons (.str _) (.cons (.str _) (.cons (.int _) .nil)))
    have s3 := same_upd (o := .tup [.str "ies", .str "y", .int 2]) hp3
    show (tCons _ _ _ (upd H2 p3 (.tup [.str "ies", .str "y", .int 2])) _ : Prop)
    generalize upd H2 p3 (.tup [.str "ies", .str "y", .int 2]) = H3 at D3 s3 ⊢
    refine ⟨by show 3 ≤ sizeLine; decide, fun p4 hp4 => ?_⟩
    have D4 := Dp.newTup (K := K) (ds := [.str "ats", .str "at", .int 1]) hp4 (.cons (.str _) (.cons (.str _) (.cons (.int _) .nil)))
    have s4 := same_upd (o := .tup [.str "ats", .str "at", .int 1]) hp4
    show (tCons _ _ _ (upd H3 p4 (.tup [.str "ats", .str "at", .int 1])) _ : Prop)
    generalize upd H3 p4 (.tup [.str "ats", .str "at", .int 1]) = H4 at D4 s4 ⊢
    refine ⟨by show 3 ≤ sizeLine; decide, fun p5 hp5 => ?_⟩
    have D5 := Dp.newTup (K := K) (ds := [.str "e", .str "", .int 1]) hp5 (.cons (.str _) (.cons (.str _) (.cons (.int _) .nil)))
    have s5 := same_upd (o := .tup [.str "e", .str "", .int 1]) hp5
    show (tNil _ (upd H4 p5 (.tup [.str "e", .str "", .int 1])) _ : Prop)
    generalize upd H4 p5 (.tup [.str "e", .str "", .int 1]) = H5 at D5 s5 ⊢
    have DA : DpAll K H5 [.ref p1, .ref p2, .ref p3, .ref p4, .ref p5] (ENDS.map enD) :=
      .cons (Dp.mono (Same.trans s2 (Same.trans s3 (Same.trans s4 s5))) D1) (.cons (Dp.mono (Same.trans s3 (Same.trans s4 s5)) D2) (.cons (Dp.mono (Same.trans s4 s5) D3) (.cons (Dp.mono s5 D4) (.cons D5 .nil))))
    have s05 : Same H H5 := Same.trans s1 (Same.trans s2 (Same.trans s3 (Same.trans s4 s5)))
    clear D1 D2 D3 D4 D5 s1 s2 s3 s4 s5
    refine ⟨by show 5 ≤ sizeLine; decide, fun e he => ?_⟩
    have s6 := same_upd (o := .lst [.ref p1, .ref p2, .ref p3, .ref p4, .ref p5]) he
    have e6 : (upd H5 e (.lst [.ref p1, .ref p2, .ref p3, .ref p4, .ref p5])) e = some (.lst [.ref p1, .ref p2, .ref p3, .ref p4, .ref p5]) := upd_same
    have DA6 := DpAll.mono s6 DA
    have s06 := Same.trans s05 s6
    show (gName 1 (V.ref e) _ (upd H5 e (.lst [.ref p1, .ref p2, .ref p3, .ref p4, .ref p5])) _ : Prop)
    generalize upd H5 e (.lst [.ref p1, .ref p2, .ref p3, .ref p4, .ref p5]) = H6 at e6 DA6 s06 ⊢
    generalize [V.ref p1, .ref p2, .ref p3, .ref p4, .ref p5] = evs at e6 DA6
    refine ⟨by show 5 ≤ sizeLine; decide, fun sl hsl => ?_⟩
    have s7 := same_upd (o := .lst (SILS.map V.str)) hsl
    have l7 : (upd H6 sl (.lst (SILS.map V.str))) sl = some (.lst (SILS.map V.str)) := upd_same
    have e7 := s7 _ _ e6
    have DA7 := DpAll.mono s7 DA6
    have s07 := Same.trans s06 s7
    show (gName 2 (V.ref sl) _ (upd H6 sl (.lst (SILS.map V.str))) _ : Prop)
    generalize upd H6 sl (.lst (SILS.map V.str)) = H7 at l7 e7 DA7 s07 ⊢
    refine ⟨5, rfl, by decide, by decide, fun D hD => ?_⟩
    refine lc_it (walk_range (lo := 0) (n := 5)) (fun i H' => Same H7 H' ∧ ∃ (xs : List V) (es : List En), H' D = some (.lst xs) ∧ DpAll K H7 xs (es.map enD) ∧ es.Sublist (ENDS.take i))
      ⟨same_upd hD, [], [], upd_same, .nil, by simp⟩ (fun _ _ _ _ => trivial) ?_ ?_
    · rintro i x H8 H9 hi ⟨s8, xs, es, hx, hda, hsub⟩ ⟨eH, rfl⟩
      subst eH
      have e1 : ENDS.take (i + 1) = ENDS.take i ++ [ENDS[i]] := List.take_succ_eq_append_getElem hi
      refine ⟨rfl, ?_⟩
      refine ⟨_, rfl, _, rfl, _, _, rfl, rfl, by omega, _, _, rfl, rfl, rfl, _, rfl, ?_⟩
      refine ifb_any ?_ ?_
      · obtain ⟨v, hv, dv⟩ : ∃ v, evs[i]? = some v ∧ Dp K H7 v (enD ENDS[i]) := by
          have hl := DpAll.length DA7
          have hi2 : i < evs.length := by rw [hl]; exact hi
          obtain ⟨d, h1, h2⟩ := DA7.get (List.getElem?_eq_getElem hi2)
          rw [List.getElem?_map, List.getElem?_eq_getElem hi] at h1
          cases h1
          exact ⟨_, List.getElem?_eq_getElem hi2, h2⟩
        refine ⟨_, rfl, _, rfl, e, evs, (0 + (i : Nat) : Int), v, rfl, rfl, SqL.of (s8 _ _ e7), by rw [Int.zero_add]; exact atI_nat hv, ?_⟩
        have hxl : xs.length = es.length := by rw [DpAll.length hda, List.length_map]
        have hel : es.length ≤ 5 := Nat.le_trans hsub.length_le (Nat.le_trans (List.length_take_le _ _) (by omega))
        refine ⟨xs, hx, small_sz (by omega), same_wr s8 hD, xs ++ [v], es ++ [ENDS[i]], upd_same, ?_, ?_⟩
        · rw [List.map_append]; exact DpAll.snoc hda dv
        · rw [e1]; exact hsub.append (List.Sublist.refl _)
      · refine ⟨s8, xs, es, hx, hda, ?_⟩
        rw [e1]; exact hsub.trans (List.sublist_append_left _ _)
    · rintro H8 ⟨s8, xs, es, hx, hda, hsub⟩
      have hsub2 : es.Sublist ENDS := hsub
      have hx8 := DpAll.mono s8 hda
      have l8 := s8 _ _ l7
      have s08 := Same.trans s07 s8
      refine ⟨_, rfl, 5, rfl, by decide, by decide, fun D2 hD2 => ?_⟩
      refine lc_it (walk_range (lo := 0) (n := 5)) (fun i H' => Same H8 H' ∧ ∃ (ws : List Str), H' D2 = some (.lst (ws.map V.str)) ∧ ws.Sublist (SILS.take i))
        ⟨same_upd hD2, [], upd_same, by simp⟩ (fun _ _ _ _ => trivial) ?_ ?_
      · rintro i x H9 H10 hi ⟨s9, ws, hw, hsub⟩ ⟨eH, rfl⟩
        subst eH
        have e1 : SILS.take (i + 1) = SILS.take i ++ [SILS[i]] := List.take_succ_eq_append_getElem hi
        refine ⟨rfl, ?_⟩
        refine ⟨_, rfl, _, rfl, _, _, rfl, rfl, _, _, rfl, rfl, by omega, _, _, rfl, rfl, rfl, _, rfl, ?_⟩
        refine ifb_any ?_ ?_
        · refine ⟨_, rfl, _, rfl, sl, _, (0 + (i : Nat) : Int), .str SILS[i], rfl, rfl, SqL.of (s9 _ _ l8), by rw [Int.zero_add]; exact atI_nat (by rw [List.getElem?_map, List.getElem?_eq_getElem hi]; rfl), ?_⟩
          have hel : ws.length ≤ 5 := Nat.le_trans hsub.length_le (Nat.le_trans (List.length_take_le _ _) (by omega))
          refine ⟨_, hw, small_sz (by rw [List.length_map]; omega), same_wr s9 hD2, ws ++ [SILS[i]], by rw [upd_same, List.map_append]; rfl, ?_⟩
          rw [e1]; exact hsub.append (List.Sublist.refl _)
        · refine ⟨s9, ws, hw, ?_⟩
          rw [e1]; exact hsub.trans (List.sublist_append_left _ _)
      · rintro H9 ⟨s9, ws, hw, hsub⟩
        have hsub3 : ws.Sublist SILS := hsub
        refine ⟨by show 2 ≤ sizeLine; decide, fun p hp => ?_⟩
        have sp := same_upd (o := .tup [.ref D, .ref D2]) hp
        have s9p := Same.trans s9 sp
        refine k _ p D D2 es ws xs (Same.trans s08 s9p) upd_same (SqL.of (s9p _ _ hx)) (DpAll.mono s9p hx8) (SqL.of (sp _ _ hw)) (fun e he => ends_ok e (hsub2.subset he)) (ends_nd.sublist (hsub2.map _)) (sils_nd.sublist hsub3) (fun z hz => sils_ok z (hsub3.subset hz)) ?_ ?_
        · exact Nat.le_trans hsub2.length_le (by decide)
        · exact Nat.le_trans hsub3.length_le (by decide)
end
end KR
set_option maxHeartbeats 1000000
namespace KR
open PySem PySem.Spec PyProof.Rows L2
def pairD (rb : Rb) (ts : List Tx) (z : Str) : PyData := .tuple [.str z, whereD rb ts z]
def infoD (t : Tx) : PyData := .tuple [.str t.1, .int (lenOf t.2), partsD t.2]
def textD (rb : Rb) (t : Tx) : PyData := .list (t.2.map fun z => wordsData rb z)
def toldD (rb : Rb) (ts : List Tx) : PyData := .list ([namesD ts, wordsD rb ts, .int (totalI ts), begunD rb ts "", begunD rb ts "s"] ++ [.list ((wordsL rb ts).map (pairD rb ts))] ++ [.list (ts.map infoD)] ++ ts.map (textD rb))
structure TsOk (ts : List Tx) : Prop where
  nd : (ts.map (·.1)).Nodup
  few : ts.length ≤ 100
  ok : ∀ t ∈ ts, PartsOk t.2
theorem TsOk.of {tx : List Tx} (h : TxOk tx) : TsOk (sortedTx tx) := by
  refine ⟨?_, ?_, fun t ht => h.ok t (sortedTx_mem ht)⟩
  · rw [sortedTx_names]; exact (ssort_perm _).nodup_iff.mpr h.nd
  · have := congrArg List.length (sortedTx_names tx)
    rw [List.length_map, (ssort_perm _).length_eq, List.length_map] at this
    rw [this]; exact h.few
theorem TsOk.bd {ts : List Tx} {rb : Rb} (h : TsOk ts) : Bd (standsOf rb ts) 1000000 := by
  have := Bd.texts (rb := rb) ts [] 0 Bd.nil fun t ht => ⟨Nat.le_of_eq (h.ok t ht).three, fun z hz => ((h.ok t ht).each z hz).few⟩
  refine Bd.mono this ?_
  have := h.few
  omega
theorem TsOk.wh {ts : List Tx} {rb : Rb} (h : TsOk ts) (z : Str) : (whereL rb ts z).length ≤ 1000000 := by
  unfold whereL
  cases e : aget (standsOf rb ts) z with
  | none => exact Nat.zero_le _
  | some y =>
    have hk : z ∈ (standsOf rb ts).map (·.1) := by
      by_cases q : z ∈ (standsOf rb ts).map (·.1)
      · exact q
      · rw [(aget_none_iff _ _).mpr q] at e; cases e
    obtain ⟨x, h1, h2⟩ := aget_some hk
    rw [h1] at e
    cases e
    exact h.bd.2 _ h2
theorem nw_new {H H5 : Hp} {l : Addr} {o : HO} (hl : H5 l = none) : Same (nw H H5) (del (nw H (upd H5 l o)) l) := fun a u e => by
  obtain ⟨e1, e2⟩ := nw_some e
  have n : a ≠ l := ne_of_none e2 hl
  rw [del_ne n, nw_none e1, upd_ne n]; exact e2
theorem join_nw {G H0 H : Hp} (s : Same G H0) : Same (nw H0 H) (join G (nw H0 H)) := join_r fun a o u e1 e2 => by rw [nw_at (s _ _ e1)] at e2; cases e2
theorem join_dnw {G H0 H : Hp} {l : Addr} (s : Same G H0) : Same (del (nw H0 H) l) (join G (del (nw H0 H) l)) := join_r fun a o u e1 e2 => by
  obtain ⟨e3, _⟩ := del_some e2
  rw [nw_at (s _ _ e1)] at e3; cases e3
structure AccG (K : PySem.W.Frag) (G H0 H : Hp) (l : Addr) (ds : List PyData) : Prop where
  gs : Same G H0
  same : Same H0 H
  new : H0 l = none
  ex : ∃ xs, H l = some (.lst xs) ∧ DpAll K (join G (del (nw H0 H) l)) xs ds
theorem AccG.start {K : PySem.W.Frag} {G H : Hp} {l : Addr} (g : Same G H) (n : H l = none) : AccG K G H (upd H l (.lst [])) l [] := ⟨g, same_upd n, n, [], upd_same, .nil⟩
theorem AccG.grow {K : PySem.W.Frag} {G H0 H H' : Hp} {l : Addr} {ds : List PyData} (a : AccG K G H0 H l ds) (s : Same H H') : AccG K G H0 H' l ds := by
  obtain ⟨xs, h1, h2⟩ := a.ex
  exact ⟨a.gs, Same.trans a.same s, a.new, xs, s _ _ h1, DpAll.mono (join_mono (same_dels (nw_same s))) h2⟩
theorem AccG.push {K : PySem.W.Frag} {G H0 H : Hp} {l : Addr} {ds : List PyData} {xs : List V} {v : V} {d : PyData} (a : AccG K G H0 H l ds) (hl : H l = some (.lst xs)) (h : Dp K (join G (del (nw H0 H) l)) v d) : AccG K G H0 (upd H l (.lst (xs ++ [v]))) l (ds ++ [d]) := by
  obtain ⟨ys, h1, h2⟩ := a.ex
  rw [hl] at h1
  cases h1
  have s : Same (del (nw H0 H) l) (del (nw H0 (upd H l (.lst (xs ++ [v])))) l) := fun b o e => by
    obtain ⟨e1, e2⟩ := del_some e
    obtain ⟨e3, e4⟩ := nw_some e1
    rw [del_ne e2, nw_none e3, upd_ne e2]; exact e4
  refine ⟨a.gs, fun b o e => ?_, a.new, _, upd_same, DpAll.snoc (DpAll.mono (join_mono s) h2) (Dp.mono (join_mono s) h)⟩
  rw [upd_ne (ne_of_none e a.new)]; exact a.same _ _ e
theorem AccG.len {K : PySem.W.Frag} {G H0 H : Hp} {l : Addr} {ds : List PyData} {xs : List V} (a : AccG K G H0 H l ds) (hl : H l = some (.lst xs)) : xs.length = ds.length := by
  obtain ⟨ys, h1, h2⟩ := a.ex
  rw [hl] at h1
  cases h1
  exact DpAll.length h2
theorem AccG.done {K : PySem.W.Frag} {G H0 H : Hp} {l : Addr} {ds : List PyData} (a : AccG K G H0 H l ds) : Dp K (join G (nw H0 H)) (.ref l) (.list ds) := by
  obtain ⟨ys, h1, h2⟩ := a.ex
  exact .lst (SqL.of (in_new a.gs a.new h1)) (DpAll.mono (join_mono same_del) h2)
theorem AccG.tup {K : PySem.W.Frag} {G H0 H : Hp} {l p : Addr} {ds es : List PyData} {vs : List V} {o : HO} (a : AccG K G H0 H l ds) (n : H p = none) (hl : H l = some o) (h : DpAll K (join G (del (nw H0 H) l)) vs es) : Dp K (join G (del (nw H0 (upd H p (.tup vs))) l)) (.ref p) (.tuple es) := by
  have npl : p ≠ l := (ne_of_none hl n).symm
  have zp : H0 p = none := Same.free a.same n
  refine .tup (SqT.of ?_) (DpAll.mono (join_mono (same_dels (nw_same (same_upd n)))) h)
  refine join_r (fun b o u e1 e2 => ?_) p _ ?_
  · obtain ⟨e3, _⟩ := del_some e2
    rw [nw_at (a.gs _ _ e1)] at e3; cases e3
  · rw [del_ne npl, nw_none zp]; exact upd_same
/-- from an inner list's base to the outer's -/
theorem AccG.inn {K : PySem.W.Frag} {G H0 H H' : Hp} {l : Addr} {o : HO} {ds : List PyData} (a : AccG K G H0 H l ds) (hl : H l = some o) : Same (join G (nw H H')) (join G (del (nw H0 H') l)) := join_mono (nw_in a.same hl)
def spTold (K : PySem.W.Frag) (cM cR : Addr) : Sp := fun vs H Q _ => ∃ (G : Hp) (b : Addr) (rb : Rb) (ts : List Tx), vs = [.ref b] ∧ Same G H ∧ BookAt K cM cR G b rb ts ∧ rb.Ok ∧ TsOk ts ∧ ∀ (H' : Hp) (v : V), Same H H' → Dp K (join G (nw H H')) v (toldD rb ts) → Q v H'
section
variable {P : Program} {w : World} {K : PySem.W.Frag} {mg : Str → Option Value} {base : Heap} {cL cM cH cR cB : Addr}
theorem scTold : FnScope ["_law_make", "_law_found", "_law_word", "_law_name_here", "_law_k"] ["_law_make"] (defScope sTold) := ⟨rfl, rfl, rfl, by decide +kernel, rfl, by decide +kernel, by decide +kernel⟩
theorem ok_told {f : Addr} {fd : FuncData} (F0 : Fun K "_law_told" "_law_told" sTold f fd) (T : Txt K mg cL cM cH cR)
    (mNames : Mth P w K mg base cM 1 "names" ["self"] (spAsk0 K cM cR fun _ ts => namesD ts)) (mWords : Mth P w K mg base cM 1 "words" ["self"] (spAsk0 K cM cR wordsD))
    (mTotal : Mth P w K mg base cM 1 "total" ["self"] (spAsk0 K cM cR fun _ ts => .int (totalI ts))) (mBegun : Mth P w K mg base cM 2 "begun" ["self", "start"] (spBegun K cM cR))
    (mWhere : Mth P w K mg base cM 1 "where" ["self", "word"] (spWhere K cM cR)) (mLength : Mth P w K mg base cM 2 "length" ["self", "name"] (spAsk1 K cM cR fun _ t => .int (lenOf t.2)))
    (mParts : Mth P w K mg base cM 2 "parts" ["self", "name"] (spAsk1 K cM cR fun _ t => partsD t.2)) (mWin : Mth P w K mg base cM 3 "words_in" ["self", "name", "part"] (spWin K cM cR)) :
    FnOk P w K mg base CX0 4 f fd ["_law_make"] (spTold K cM cR) := by
  refine F0.ok scTold (fun vs H Q E h => ?_) (fun cdv A outer s H vs Q E hr h => ?_)
  · obtain ⟨G, b, rb, ts, rfl, _⟩ := h
    rfl
  · obtain ⟨G, b, rb, ts, rfl, sG, BG, ok, okt, k⟩ := h
    have nd := scTold.nd
    have B := BG.mono sG
    refine ⟨_, (pss_cons (ps_set (i := 1) nd rfl (.inl rfl) (pe_lst (pa_cons (pe_mth0 (pv 0) T.mC mNames (hr.mono (by decide))) (pa_cons (pe_mth0 (pv 0) T.mC mWords (hr.mono (by decide))) (pa_cons (pe_mth0 (pv 0) T.mC mTotal (hr.mono (by decide))) (pa_cons (pe_mth (pv 0) T.mC mBegun (hr.mono (by decide)) (pa_cons pe_str pa_nil)) (pa_cons (pe_mth (pv 0) T.mC mBegun (hr.mono (by decide)) (pa_cons pe_str pa_nil)) pa_nil)))))))
      (pss_cons (ps_expr (pe_bm PySem.F.plainAttrs_list PySem.F.slot_list_append PySem.F.type_list_append mt_append (pv 1) (pa_cons (pe_lc (own := [("_law_word", 2)]) (g := gName 2) (tt := tYes) rfl nd (pi_list (pe_mth0 (pv 0) T.mC mWords (hr.mono (by decide)))) (blkOk_by (own := [("_law_word", 2)]) (N := ["_law_make", "_law_found", "_law_word", "_law_name_here", "_law_k"]) (sc := (defScope sTold)) (by decide +kernel)) (fun _ _ _ _ _ => (pg_name (i := 2) nd rfl (.inl rfl))) (fun _ _ _ _ _ => pts_nil) (fun _ _ _ _ _ => (pe_tup (pa_cons (pv 2) (pa_cons (pe_mth (pv 0) T.mC mWhere (hr.mono (by decide)) (pa_cons (pv 2) pa_nil)) pa_nil))))) pa_nil)))
      (pss_cons (ps_expr (pe_bm PySem.F.plainAttrs_list PySem.F.slot_list_append PySem.F.type_list_append mt_append (pv 1) (pa_cons (pe_lc (own := [("_law_name_here", 3)]) (g := gName 3) (tt := tYes) rfl nd (pi_list (pe_mth0 (pv 0) T.mC mNames (hr.mono (by decide)))) (blkOk_by (own := [("_law_name_here", 3)]) (N := ["_law_make", "_law_found", "_law_word", "_law_name_here", "_law_k"]) (sc := (defScope sTold)) (by decide +kernel)) (fun _ _ _ _ _ => (pg_name (i := 3) nd rfl (.inl rfl))) (fun _ _ _ _ _ => pts_nil) (fun _ _ _ _ _ => (pe_tup (pa_cons (pv 3) (pa_cons (pe_mth (pv 0) T.mC mLength (hr.mono (by decide)) (pa_cons (pv 3) pa_nil)) (pa_cons (pe_mth (pv 0) T.mC mParts (hr.mono (by decide)) (pa_cons (pv 3) pa_nil)) pa_nil)))))) pa_nil)))
      (pss_cons (ps_for PassesOwn.never rfl (pi_list (pe_mth0 (pv 0) T.mC mNames (hr.mono (by decide)))) (pg_name (i := 3) nd rfl (.inr rfl))
          (pss_one (ps_expr (pe_bm PySem.F.plainAttrs_list PySem.F.slot_list_append PySem.F.type_list_append mt_append (pv 1) (pa_cons (pe_lc (own := [("_law_k", 4)]) (g := gName 4) (tt := tYes) rfl nd (pi_range1 (by rfl) T.range (pa_cons pe_int pa_nil)) (blkOk_by (own := [("_law_k", 4)]) (N := ["_law_make", "_law_found", "_law_word", "_law_name_here", "_law_k"]) (sc := (defScope sTold)) (by decide +kernel)) (fun _ _ _ _ _ => (pg_name (i := 4) nd rfl (.inl rfl))) (fun _ _ _ _ _ => pts_nil) (fun _ _ _ _ _ => (pe_mth (pv 0) T.mC mWin hr (pa_cons (pv 3) (pa_cons (pv 4) pa_nil))))) pa_nil)))))
      (pss_one (ps_ret (pv 1))))))), ?_⟩
    obtain ⟨dx, fs, r, d1, d2, d3, hb, hf, _⟩ := B.ex
    have no : ∀ {x : Str}, ¬ x = "book_rules" → ¬ x = "book_texts" → ¬ x = "book_lengths" → ¬ x = "book_stands" → ¬ x = "came" → fs.lookup x = none := fun h1 h2 h3 h4 h5 => hf.no _ h1 h2 h3 h4 h5
    -- the first five
    refine ⟨_, rfl, b, dx, fs, rfl, hb, no (by decide +kernel) (by decide +kernel) (by decide +kernel) (by decide +kernel) (by decide +kernel), b, rb, ts, rfl, B, ok, fun H1 v1 s1 D1 => ?_⟩
    refine ⟨_, rfl, b, dx, fs, rfl, s1 _ _ hb, no (by decide +kernel) (by decide +kernel) (by decide +kernel) (by decide +kernel) (by decide +kernel), b, rb, ts, rfl, B.mono s1, ok, fun H2 v2 s2 D2 => ?_⟩
    have s02 := Same.trans s1 s2
    refine ⟨_, rfl, b, dx, fs, rfl, s02 _ _ hb, no (by decide +kernel) (by decide +kernel) (by decide +kernel) (by decide +kernel) (by decide +kernel), b, rb, ts, rfl, B.mono s02, ok, fun H3 v3 s3 D3 => ?_⟩
    have s03 := Same.trans s02 s3
    refine ⟨_, rfl, b, dx, fs, rfl, s03 _ _ hb, no (by decide +kernel) (by decide +kernel) (by decide +kernel) (by decide +kernel) (by decide +kernel), b, rb, ts, "", rfl, B.mono s03, ok, okt.bd.1, fun H4 v4 s4 D4 => ?_⟩
    have s04 := Same.trans s03 s4
    refine ⟨_, rfl, b, dx, fs, rfl, s04 _ _ hb, no (by decide +kernel) (by decide +kernel) (by decide +kernel) (by decide +kernel) (by decide +kernel), b, rb, ts, "s", rfl, B.mono s04, ok, okt.bd.1, fun H5 v5 s5 D5 => ?_⟩
    have s05 := Same.trans s04 s5
    refine ⟨by show 5 ≤ sizeLine; decide, fun l hl => ?_⟩
    have A6 : AccG K G H (upd H5 l (.lst [v1, v2, v3, v4, v5])) l [namesD ts, wordsD rb ts, .int (totalI ts), begunD rb ts "", begunD rb ts "s"] := by
      refine ⟨sG, Same.trans s05 (same_upd hl), Same.free s05 hl, _, upd_same, DpAll.mono (Same.trans (nw_new hl) (join_dnw sG)) ?_⟩
      exact .cons (Dp.mono (nw_same (Same.trans s2 (Same.trans s3 (Same.trans s4 s5)))) D1) (.cons (Dp.mono (Same.trans (nw_less s1) (nw_same (Same.trans s3 (Same.trans s4 s5)))) D2)
        (.cons (Dp.mono (Same.trans (nw_less s02) (nw_same (Same.trans s4 s5))) D3) (.cons (Dp.mono (Same.trans (nw_less s03) (nw_same s5)) D4) (.cons (Dp.mono (nw_less s04) D5) .nil))))
    have l6 : (upd H5 l (.lst [v1, v2, v3, v4, v5])) l = some (.lst [v1, v2, v3, v4, v5]) := upd_same
    show (gName 1 (V.ref l) _ (upd H5 l (.lst [v1, v2, v3, v4, v5])) _ : Prop)
    generalize upd H5 l (.lst [v1, v2, v3, v4, v5]) = H6 at A6 l6 ⊢
    generalize [v1, v2, v3, v4, v5] = xs6 at l6
    clear D1 D2 D3 D4 D5 s1 s2 s3 s4 s5 s02 s03 s04 s05 hl
    -- the places of the words
    have B6 := B.mono A6.same
    refine ⟨_, rfl, .inl ⟨rfl, _, SqL.of l6⟩, ?_⟩
    refine ⟨_, rfl, b, dx, fs, rfl, A6.same _ _ hb, no (by decide +kernel) (by decide +kernel) (by decide +kernel) (by decide +kernel) (by decide +kernel), b, rb, ts, rfl, B6, ok, fun H7 v7 s7 D7 => ?_⟩
    have A7 := A6.grow s7
    have l7 := s7 _ _ l6
    have B7 := B.mono A7.same
    obtain ⟨a7, ys7, rfl, q7, t7⟩ := dp_list D7
    have e7 := t7.strs_of
    subst e7
    have hlw : (wordsL rb ts).length ≤ 1000000 := by unfold wordsL; rw [(ssort_perm _).length_eq, List.length_map]; exact okt.bd.1
    refine ⟨a7, rfl, ⟨_, Same.seq nw_sub q7⟩, fun D hD => ?_⟩
    refine lc_list (K := K) (a := a7) (xs := (wordsL rb ts).map V.str) (fun i H' => Same H7 H' ∧ AccG K G H7 H' D (((wordsL rb ts).take i).map (pairD rb ts)))
      ⟨same_upd hD, AccG.start (Same.trans sG A7.same) hD⟩ (fun i H' _ q => Same.seq q.1 (Same.seq nw_sub q7)) ?_ ?_
    · rintro i x H' hx ⟨sH, AD⟩
      rw [List.getElem?_map] at hx
      obtain ⟨z, hz1, rfl⟩ : ∃ z, (wordsL rb ts)[i]? = some z ∧ x = V.str z := by
        cases e : (wordsL rb ts)[i]? with
        | none => rw [e] at hx; cases hx
        | some z => rw [e] at hx; exact ⟨z, rfl, (Option.some.inj hx).symm⟩
      have hi := (List.getElem?_eq_some_iff.mp hz1).1
      have e1 : (wordsL rb ts).take (i + 1) = (wordsL rb ts).take i ++ [z] := by
        obtain ⟨hi, e⟩ := List.getElem?_eq_some_iff.mp hz1
        rw [List.take_succ_eq_append_getElem hi, e]
      refine ⟨rfl, ?_⟩
      refine ⟨_, rfl, _, rfl, b, dx, fs, rfl, sH _ _ (A7.same _ _ hb), no (by decide +kernel) (by decide +kernel) (by decide +kernel) (by decide +kernel) (by decide +kernel), _, rfl, b, rb, ts, z, rfl, B7.mono sH, okt.wh z, fun H8 v8 s8 D8 => ?_⟩
      have AD1 := AD.grow s8
      obtain ⟨acc, hacc, hdat⟩ := AD.ex
      refine ⟨by show 2 ≤ sizeLine; decide, fun p hp => ?_⟩
      have hacc1 := s8 _ _ hacc
      have AD2 := AD1.grow (same_upd (o := .tup [.str z, v8]) hp)
      have hacc2 := same_upd (o := .tup [.str z, v8]) hp _ _ hacc1
      have hlen := AD2.len hacc2
      rw [List.length_map, List.length_take] at hlen
      refine ⟨acc, hacc2, small_sz (by omega), same_wr (Same.trans sH (Same.trans s8 (same_upd hp))) hD, ?_⟩
      rw [e1, List.map_append]
      refine AD2.push hacc2 (AD1.tup hp hacc1 (.cons (.str _) (.cons ?_ .nil)))
      exact Dp.mono (Same.trans (join_nw (Same.trans AD.gs AD.same)) (AD.inn hacc)) D8
    rintro H8 ⟨s8, AD⟩
    rw [show ((wordsL rb ts).map V.str).length = (wordsL rb ts).length by simp, List.take_length] at AD
    have A8 := A7.grow s8
    have l8 := s8 _ _ l7
    have D8 := AD.done
    refine ⟨l, xs6, _, rfl, rfl, l8, small_sz (by have := A8.len l8; rw [this]; show 5 < 16777216; decide), ?_⟩
    have A9 := A8.push l8 (Dp.mono (A7.inn l7) D8)
    have l9 : (upd H8 l (.lst (xs6 ++ [V.ref D]))) l = some (.lst (xs6 ++ [V.ref D])) := upd_same
    clear A6 A7 A8 AD D8 l6 l7 l8 s7 s8 q7 t7 D7 B6 B7
    generalize upd H8 l (.lst (xs6 ++ [V.ref D])) = H9 at A9 l9 ⊢
    generalize xs6 ++ [V.ref D] = xs9 at l9
    -- of each text
    have B9 := B.mono A9.same
    refine ⟨_, rfl, .inl ⟨rfl, _, SqL.of l9⟩, ?_⟩
    refine ⟨_, rfl, b, dx, fs, rfl, A9.same _ _ hb, no (by decide +kernel) (by decide +kernel) (by decide +kernel) (by decide +kernel) (by decide +kernel), b, rb, ts, rfl, B9, ok, fun H7 v7 s7 D7 => ?_⟩
    have A7 := A9.grow s7
    have l7 := s7 _ _ l9
    have B7 := B.mono A7.same
    have e5 : namesD ts = .list ((ts.map (·.1)).map PyData.str) := by unfold namesD; rw [List.map_map]; rfl
    dsimp only at D7
    rw [e5] at D7
    obtain ⟨a7, ys7, rfl, q7, t7⟩ := dp_list D7
    have e7 := t7.strs_of
    subst e7
    have hts := okt.few
    refine ⟨a7, rfl, ⟨_, Same.seq nw_sub q7⟩, fun D hD => ?_⟩
    refine lc_list (K := K) (a := a7) (xs := (ts.map (·.1)).map V.str) (fun i H' => Same H7 H' ∧ AccG K G H7 H' D ((ts.take i).map infoD))
      ⟨same_upd hD, AccG.start (Same.trans sG A7.same) hD⟩ (fun i H' _ q => Same.seq q.1 (Same.seq nw_sub q7)) ?_ ?_
    · rintro i x H' hx ⟨sH, AD⟩
      rw [List.getElem?_map, List.getElem?_map] at hx
      obtain ⟨t, hz1, rfl⟩ : ∃ t, ts[i]? = some t ∧ x = V.str t.1 := by
        cases e : ts[i]? with
        | none => rw [e] at hx; cases hx
        | some z => rw [e] at hx; exact ⟨z, rfl, (Option.some.inj hx).symm⟩
      have ht := List.mem_of_getElem? hz1
      have hi := (List.getElem?_eq_some_iff.mp hz1).1
      have e1 : ts.take (i + 1) = ts.take i ++ [t] := by
        obtain ⟨hi, e⟩ := List.getElem?_eq_some_iff.mp hz1
        rw [List.take_succ_eq_append_getElem hi, e]
      have hbH := sH _ _ (A7.same _ _ hb)
      have sGH : Same G H' := Same.trans AD.gs AD.same
      obtain ⟨acc, hacc, hdat⟩ := AD.ex
      refine ⟨rfl, ?_⟩
      refine ⟨_, rfl, _, rfl, b, dx, fs, rfl, hbH, no (by decide +kernel) (by decide +kernel) (by decide +kernel) (by decide +kernel) (by decide +kernel), _, rfl, G, b, rb, ts, t, rfl, sGH, BG, ok, ht, okt.nd, fun v8 D8 => ?_⟩
      refine ⟨_, rfl, b, dx, fs, rfl, hbH, no (by decide +kernel) (by decide +kernel) (by decide +kernel) (by decide +kernel) (by decide +kernel), _, rfl, G, b, rb, ts, t, rfl, sGH, BG, ok, ht, okt.nd, fun v9 D9 => ?_⟩
      refine ⟨by show 3 ≤ sizeLine; decide, fun p hp => ?_⟩
      have AD2 := AD.grow (same_upd (o := .tup [.str t.1, v8, v9]) hp)
      have hacc2 := same_upd (o := .tup [.str t.1, v8, v9]) hp _ _ hacc
      have hlen := AD2.len hacc2
      rw [List.length_map, List.length_take] at hlen
      refine ⟨acc, hacc2, small_sz (by omega), same_wr (Same.trans sH (same_upd hp)) hD, ?_⟩
      rw [e1, List.map_append]
      exact AD2.push hacc2 (AD.tup hp hacc (.cons (.str _) (.cons (Dp.mono (fun _ _ e => join_l _ _ e) D8) (.cons (Dp.mono (fun _ _ e => join_l _ _ e) D9) .nil))))
    rintro H8 ⟨s8, AD⟩
    rw [show ((ts.map (·.1)).map V.str).length = ts.length by simp, List.take_length] at AD
    have A8 := A7.grow s8
    have l8 := s8 _ _ l7
    have D8 := AD.done
    refine ⟨l, xs9, _, rfl, rfl, l8, small_sz (by have := A8.len l8; rw [this]; show 6 < 16777216; decide), ?_⟩
    have A10 := A8.push l8 (Dp.mono (A7.inn l7) D8)
    have l10 : (upd H8 l (.lst (xs9 ++ [V.ref D]))) l = some (.lst (xs9 ++ [V.ref D])) := upd_same
    clear A9 A7 A8 AD D8 l9 l7 l8 s7 s8 q7 t7 D7 B9 B7
    generalize upd H8 l (.lst (xs9 ++ [V.ref D])) = H10 at A10 l10 ⊢
    generalize xs9 ++ [V.ref D] = xs10 at l10
    -- the words in each part
    refine ⟨_, rfl, b, dx, fs, rfl, A10.same _ _ hb, no (by decide +kernel) (by decide +kernel) (by decide +kernel) (by decide +kernel) (by decide +kernel), b, rb, ts, rfl, B.mono A10.same, ok, fun H7 v7 s7 D7 => ?_⟩
    have A7 := A10.grow s7
    have l7 := s7 _ _ l10
    dsimp only at D7
    rw [e5] at D7
    obtain ⟨a7, ys7, rfl, q7, t7⟩ := dp_list D7
    have e7 := t7.strs_of
    subst e7
    have q7' : SqL K (del H7 l) a7 ((ts.map (·.1)).map V.str) := Same.seq (nw_del l10) q7
    refine ⟨a7, rfl, ⟨_, Same.seq same_del q7'⟩, ?_⟩
    refine for_it (walk_list (xs := (ts.map (·.1)).map V.str)) (fun i σ H' => ∃ (x2 x3 x4 : Option V), σ = [some (.ref b), some (.ref l), x2, x3, x4] ∧ Same (del H7 l) H' ∧ AccG K G H H' l ([namesD ts, wordsD rb ts, .int (totalI ts), begunD rb ts "", begunD rb ts "s"] ++ [.list ((wordsL rb ts).map (pairD rb ts))] ++ [.list (ts.map infoD)] ++ (ts.take i).map (textD rb)))
      ⟨_, _, _, rfl, same_del, by rw [List.take_zero, List.map_nil, List.append_nil]; exact A7⟩ (fun i σ H' _ ⟨_, _, _, _, q, _⟩ => Same.seq q q7') ?_ ?_
    · rintro i x σ H' H11 hi ⟨x2, x3, x4, rfl, sH, A⟩ ⟨eH, hx⟩
      subst eH
      rw [List.getElem?_map, List.getElem?_map] at hx
      obtain ⟨t, hz1, rfl⟩ : ∃ t, ts[i]? = some t ∧ x = V.str t.1 := by
        cases e : ts[i]? with
        | none => rw [e] at hx; cases hx
        | some z => rw [e] at hx; exact ⟨z, rfl, (Option.some.inj hx).symm⟩
      have ht := List.mem_of_getElem? hz1
      have hi2 := (List.getElem?_eq_some_iff.mp hz1).1
      have okp := okt.ok t ht
      have e1 : ts.take (i + 1) = ts.take i ++ [t] := by
        obtain ⟨hi, e⟩ := List.getElem?_eq_some_iff.mp hz1
        rw [List.take_succ_eq_append_getElem hi, e]
      obtain ⟨xl, hxl, _⟩ := A.ex
      have hlen := A.len hxl
      refine ⟨_, rfl, .inl ⟨rfl, _, SqL.of hxl⟩, ?_⟩
      refine ⟨3, rfl, by decide, by decide, fun D hD => ?_⟩
      refine lc_it (walk_range (lo := 0) (n := 3)) (fun j H' => Same H11 H' ∧ AccG K G H11 H' D ((t.2.take j).map fun z => wordsData rb z))
        ⟨same_upd hD, AccG.start (Same.trans sG A.same) hD⟩ (fun _ _ _ _ => trivial) ?_ ?_
      · rintro j x H12 H13 hj ⟨s12, AD⟩ ⟨eH, rfl⟩
        subst eH
        have hj2 : j < t.2.length := by rw [okp.three]; exact hj
        have hz : t.2[j]? = some t.2[j] := List.getElem?_eq_getElem hj2
        have e2 : t.2.take (j + 1) = t.2.take j ++ [t.2[j]] := List.take_succ_eq_append_getElem hj2
        refine ⟨rfl, ?_⟩
        have s0 : Same H H13 := Same.trans A.same s12
        refine ⟨_, rfl, b, dx, fs, rfl, s0 _ _ hb, no (by decide +kernel) (by decide +kernel) (by decide +kernel) (by decide +kernel) (by decide +kernel), _, rfl, _, rfl, b, rb, ts, t, j, t.2[j], congrArg (fun q : Int => [V.ref b, V.str t.1, V.int q]) (Int.zero_add (j : Int)), B.mono s0, ok, ht, okt.nd, hz, (okp.each _ (List.getElem_mem hj2)).few, fun H14 v14 s14 D14 => ?_⟩
        have AD1 := AD.grow s14
        obtain ⟨acc, hacc, hdat⟩ := AD.ex
        have hacc1 := s14 _ _ hacc
        have hlen := AD1.len hacc1
        rw [List.length_map, List.length_take] at hlen
        refine ⟨acc, hacc1, small_sz (by omega), same_wr (Same.trans s12 s14) hD, ?_⟩
        rw [e2, List.map_append]
        exact AD1.push hacc1 (Dp.mono (Same.trans (join_nw (Same.trans AD.gs AD.same)) (AD.inn hacc)) D14)
      · rintro H12 ⟨s12, AD⟩
        rw [show t.2.take 3 = t.2 by rw [← okp.three, List.take_length]] at AD
        have A12 := A.grow s12
        have l12 := s12 _ _ hxl
        have D12 := AD.done
        refine ⟨l, xl, _, rfl, rfl, l12, small_sz (by rw [hlen]; simp only [List.length_append, List.length_map, List.length_take, List.length_cons, List.length_nil]; omega), ?_⟩
        have A13 := A12.push l12 (Dp.mono (A.inn hxl) D12)
        refine ⟨_, _, _, rfl, same_wr (Same.trans sH s12) del_same, ?_⟩
        rw [e1, List.map_append]
        rw [List.append_assoc] at A13
        exact A13
    · rintro σ H' ⟨x2, x3, x4, rfl, sH, A⟩
      rw [show ((ts.map (·.1)).map V.str).length = ts.length by simp, List.take_length] at A
      exact ⟨_, rfl, k H' _ A.same A.done⟩
end
end KR
set_option maxHeartbeats 1000000
namespace KR
open PySem PySem.Spec PyProof.Rows L2
def signs1 (p : Str) : List Str := HLET.cps.toList.map fun c => p ++ ⟨#[c]⟩
def FREES : List Str := signs1 "zzzzzzz" ++ signs1 "zzzzzzy"
theorem frees_len : FREES.length = 52 := by decide +kernel
theorem frees_nd : FREES.Nodup := by decide +kernel
theorem nameOk_dec (w : Str) (h : (decide (1 ≤ w.length) && decide (w.length ≤ 8) && w.cps.toList.all fun c => decide (c ∈ HLET.cps.toList)) = true) : NameOk w := by
  simp only [Bool.and_eq_true, decide_eq_true_eq, List.all_eq_true] at h
  exact ⟨h.1.1, h.1.2, h.2⟩
theorem frees_ok : ∀ z ∈ FREES, NameOk z := by
  intro z hz
  have h : FREES.all (fun w => (decide (1 ≤ w.length) && decide (w.length ≤ 8) && w.cps.toList.all fun c => decide (c ∈ HLET.cps.toList))) = true := by decide +kernel
  exact nameOk_dec z (List.all_eq_true.mp h z hz)
theorem inV_strs (z : Str) (ns : List Str) : inV (V.str z) (ns.map V.str) = decide (z ∈ ns) := by
  unfold inV
  rw [List.any_map, Bool.eq_iff_iff, List.any_eq_true, decide_eq_true_iff]
  constructor
  · rintro ⟨y, hy, e⟩
    have : y = z := eq_of_beq (show (y == z) = true from e)
    rw [← this]; exact hy
  · intro h
    exact ⟨z, h, show (z == z) = true from beq_self_eq_true z⟩
theorem op_notInK {X : Cx} (K : PySem.W.Frag) (h : X.K = K := by rfl) : OpR X (compareOp .NotIn) (rIn K true) := by subst h; exact op_notIn_seq
def spFree (K : PySem.W.Frag) : Sp := fun vs H Q _ => ∃ (a : Addr) (ns : List Str), vs = [.ref a] ∧ SqL K H a (ns.map V.str) ∧ ns.length ≤ 50 ∧ ∀ (H' : Hp) (z : Str), Same H H' → NameOk z → z ∉ ns → Q (.str z) H'
section
variable {P : Program} {w : World} {K : PySem.W.Frag} {mg : Str → Option Value} {base : Heap} {cL cM cH cR cB : Addr}
theorem scFree : FnScope ["_law_names", "_law_some", "_law_sign", "_law_name_here"] ["_law_names"] (defScope sFree) := ⟨rfl, rfl, rfl, by decide +kernel, rfl, by decide +kernel, by decide +kernel⟩
theorem ok_free {f : Addr} {fd : FuncData} (F0 : Fun K "_law_free" "_law_free" sFree f fd) (T : Txt K mg cL cM cH cR) :
    FnOk P w K mg base CX0 1 f fd ["_law_names"] (spFree K) := by
  refine F0.ok scFree (fun vs H Q E h => ?_) (fun cdv A outer s H vs Q E hr h => ?_)
  · obtain ⟨a, ns, rfl, _⟩ := h
    rfl
  · obtain ⟨a, ns, rfl, ha, hns, k⟩ := h
    have nd := scFree.nd
    refine ⟨_, (pss_cons (ps_setLc (i := 1) (own := [("_law_sign", 2)]) (g := gName 2) (tt := tYes) rfl nd rfl rfl (sw_true rfl rfl rfl (by decide +kernel)) (pi_str pe_str) (blkOk_by (own := [("_law_sign", 2)]) (N := ["_law_names", "_law_some", "_law_sign", "_law_name_here"]) (sc := (defScope sFree)) (by decide +kernel)) (fun _ _ _ _ _ => (pg_name (i := 2) nd rfl (.inl rfl))) (fun _ _ _ _ _ => pts_nil) (fun _ _ _ _ _ => (pe_op op_add_str pe_str (pv 2))))
      (pss_cons (ps_set (i := 1) nd rfl (.inl rfl) (pe_op op_cat (pv 1) (pe_lc (own := [("_law_sign", 2)]) (g := gName 2) (tt := tYes) rfl nd (pi_str pe_str) (blkOk_by (own := [("_law_sign", 2)]) (N := ["_law_names", "_law_some", "_law_sign", "_law_name_here"]) (sc := (defScope sFree)) (by decide +kernel)) (fun _ _ _ _ _ => (pg_name (i := 2) nd rfl (.inl rfl))) (fun _ _ _ _ _ => pts_nil) (fun _ _ _ _ _ => (pe_op op_add_str pe_str (pv 2))))))
      (pss_one (ps_ret (pe_ix ix_list (pe_lc (own := [("_law_name_here", 3)]) (g := gName 3) (tt := _) rfl nd (pi_list (pv 1)) (blkOk_by (own := [("_law_name_here", 3)]) (N := ["_law_names", "_law_some", "_law_sign", "_law_name_here"]) (sc := (defScope sFree)) (by decide +kernel)) (fun _ _ _ _ _ => (pg_name (i := 3) nd rfl (.inl rfl))) (fun _ _ _ _ _ => pts_one (pt_cmpR (op_notInK K) (pv 3) (pv 0) rfl)) (fun _ _ _ _ _ => (pv 3))) pe_int (fun _ _ => rfl)))))), ?_⟩
    have turn : ∀ (p : Str), p.length ≤ 10 → ∀ (H1 : Hp) (D : Addr), H1 D = none → ∀ (σ : L2.St) (Qd : Hp → Prop), (wipe σ [2]).length = 4 → (∀ c, wipe ((wipe σ [2]).set 2 (some c)) [2] = wipe σ [2]) → (∀ c, ((wipe σ [2]).set 2 (some c))[2]? = some (some c)) →
        (∀ H', Same H1 H' → H' D = some (.lst ((signs1 p).map V.str)) → Qd H') →
        ∃ W : Nat → Nat → Hp → Prop, (∃ m, W 0 m (upd H1 D (.lst []))) ∧ ∀ i m H, W i m H →
          ((Its HLET).stop i H ∧ Qd H) ∨ ((Its HLET).go i H ∧ ∃ Nx : Hp → Prop, (∀ H', Nx H' → ∃ m', m' < m ∧ W (i + 1) m' H') ∧ ∀ x H', (Its HLET).yld i H x H' → gName 2 x (wipe σ [2]) H' fun σ2 H2 => wipe σ2 [2] = wipe σ [2] ∧ tYes σ2 H2 fun b H3 =>
            if b = true then tOp (fun x y H Q => ∃ i j, x = .str i ∧ y = .str j ∧ i.length + j.length ≤ sizeLine ∧ Q (.str (i ++ j)) H) (tC (.str p)) (tVar 2) σ2 H3 fun y H4 => ∃ acc, H4 D = some (.lst acc) ∧ acc.length < sizeLine ∧ Nx (upd H4 D (.lst (acc ++ [y]))) else Nx H3) := by
      intro p hp H1 D hD σ Qd hσ hw hget hQ
      refine lc_it walk_str (fun i H' => Same H1 H' ∧ H' D = some (.lst (((HLET.cps.toList.take i).map fun c => p ++ (⟨#[c]⟩ : Str)).map V.str))) ⟨same_upd hD, upd_same⟩ (fun _ _ _ _ => trivial) ?_ ?_
      · rintro i x H2 H3 hi ⟨s2, hd2⟩ ⟨eH, c, hc, rfl⟩
        subst eH
        refine ⟨hw _, ?_⟩
        show ∃ v, _ ∧ _
        refine ⟨_, hget _, p, ⟨#[c]⟩, rfl, rfl, small_sz' (by show p.length + 1 ≤ _; omega), ?_⟩
        have hc2 : HLET.cps.toList[i]? = some c := by rw [Array.getElem?_toList]; exact hc
        have e1 : HLET.cps.toList.take (i + 1) = HLET.cps.toList.take i ++ [c] := by
          obtain ⟨hi, e⟩ := List.getElem?_eq_some_iff.mp hc2
          rw [List.take_succ_eq_append_getElem hi, e]
        have hi3 : i < 26 := by have := hlet_len; rw [Array.length_toList] at this; omega
        refine ⟨_, hd2, small_sz (by rw [List.length_map, List.length_map, List.length_take]; omega), same_wr s2 hD, ?_⟩
        rw [upd_same, e1, List.map_append, List.map_append]; rfl
      · rintro H2 ⟨s2, hd2⟩
        rw [show HLET.cps.toList.take HLET.cps.size = HLET.cps.toList by rw [← Array.length_toList, List.take_length]] at hd2
        exact hQ H2 s2 hd2
    refine ⟨HLET, rfl, fun D hD => ?_⟩
    refine turn "zzzzzzz" (by decide +kernel) _ D hD _ _ rfl (fun _ => rfl) (fun _ => rfl) fun H1 s1 d1 => ?_
    refine ⟨_, rfl, HLET, rfl, fun D2 hD2 => ?_⟩
    refine turn "zzzzzzy" (by decide +kernel) _ D2 hD2 _ _ rfl (fun _ => rfl) (fun _ => rfl) fun H2 s2 d2 => ?_
    refine ⟨D, D2, _, _, rfl, rfl, s2 _ _ d1, d2, small_sz' (by rw [List.length_map, List.length_map]; decide +kernel), fun q hq => ?_⟩
    have e0 : (signs1 "zzzzzzz").map V.str ++ (signs1 "zzzzzzy").map V.str = FREES.map V.str := by unfold FREES; rw [List.map_append]
    rw [e0]
    have s3 := same_upd (o := .lst (FREES.map V.str)) hq
    have q3 : (upd H2 q (.lst (FREES.map V.str))) q = some (.lst (FREES.map V.str)) := upd_same
    have s03 := Same.trans s1 (Same.trans s2 s3)
    generalize upd H2 q (.lst (FREES.map V.str)) = H3 at q3 s03 ⊢
    refine ⟨_, rfl, q, rfl, ⟨_, SqL.of q3⟩, fun D3 hD3 => ?_⟩
    have ha3 := Same.seq s03 ha
    refine lc_list (K := K) (a := q) (xs := FREES.map V.str) (fun i H' => Same H3 H' ∧ H' D3 = some (.lst (((FREES.take i).filter fun z => decide (z ∉ ns)).map V.str)))
      ⟨same_upd hD3, upd_same⟩ (fun i H' _ q' => SqL.of (q'.1 _ _ q3)) ?_ ?_
    · rintro i x H4 hx ⟨s4, d4⟩
      rw [List.getElem?_map] at hx
      obtain ⟨z, hz1, rfl⟩ : ∃ z, FREES[i]? = some z ∧ x = V.str z := by
        cases e : FREES[i]? with
        | none => rw [e] at hx; cases hx
        | some z => rw [e] at hx; exact ⟨z, rfl, (Option.some.inj hx).symm⟩
      have e1 : FREES.take (i + 1) = FREES.take i ++ [z] := by
        obtain ⟨hi, e⟩ := List.getElem?_eq_some_iff.mp hz1
        rw [List.take_succ_eq_append_getElem hi, e]
      have hi := (List.getElem?_eq_some_iff.mp hz1).1
      have hl := frees_len
      refine ⟨rfl, ?_⟩
      refine ⟨_, rfl, _, rfl, a, _, rfl, .inl (Same.seq s4 ha3), rfl, by rw [List.all_map]; exact List.all_eq_true.mpr fun _ _ => rfl, _, rfl, ?_⟩
      rw [if_pos rfl, inV_strs]
      by_cases hm : z ∈ ns
      · refine ifnF hm ?_
        refine ⟨s4, ?_⟩
        rw [e1, List.filter_append, List.filter_cons_of_neg (by simpa using hm)]
        simpa using d4
      · refine ifnT hm ?_
        refine ⟨_, rfl, _, d4, small_sz ?_, same_wr s4 hD3, ?_⟩
        · rw [List.length_map]
          have h1 := List.length_filter_le (fun z => decide (z ∉ ns)) (FREES.take i)
          rw [List.length_take] at h1
          omega
        · rw [upd_same, e1, List.filter_append, List.filter_cons_of_pos (by simpa using hm), List.map_append]
          rfl
    · rintro H4 ⟨s4, d4⟩
      rw [show (FREES.map V.str).length = FREES.length by simp, List.take_length] at d4
      cases hF : FREES.filter fun z => decide (z ∉ ns) with
      | nil =>
        exfalso
        have hsub : FREES ⊆ ns := fun z hz => by
          by_cases hm : z ∈ ns
          · exact hm
          · have : z ∈ FREES.filter fun z => decide (z ∉ ns) := List.mem_filter.mpr ⟨hz, decide_eq_true hm⟩
            rw [hF] at this; cases this
        have := frees_nd.length_le_of_subset hsub
        rw [frees_len] at this
        omega
      | cons z zs =>
        rw [hF] at d4
        have hz : z ∈ FREES.filter fun z => decide (z ∉ ns) := by rw [hF]; exact List.mem_cons_self
        obtain ⟨h1, h2⟩ := List.mem_filter.mp hz
        refine ⟨D3, _, 0, .str z, rfl, rfl, SqL.of d4, atI_nat (j := 0) rfl, k H4 z (Same.trans s03 s4) (frees_ok z h1) (of_decide_eq_true h2)⟩
end
end KR
set_option maxHeartbeats 1000000
namespace KR
open PySem PySem.Spec PyProof.Rows L2
theorem part_dec (w : Str) (h : (decide (w.length ≤ 1000) && w.cps.toList.all fun c => decide (c ∈ HSIG.cps.toList)) = true) : PartOk w := by
  simp only [Bool.and_eq_true, decide_eq_true_eq, List.all_eq_true] at h
  exact ⟨h.1, h.2⟩
theorem parts_dec (a b c : Str) (h1 : (decide (a.length ≤ 1000) && a.cps.toList.all fun c => decide (c ∈ HSIG.cps.toList)) = true) (h2 : (decide (b.length ≤ 1000) && b.cps.toList.all fun c => decide (c ∈ HSIG.cps.toList)) = true) (h3 : (decide (c.length ≤ 1000) && c.cps.toList.all fun c => decide (c ∈ HSIG.cps.toList)) = true) : PartsOk [a, b, c] := by
  refine ⟨rfl, fun z hz => ?_⟩
  rcases List.mem_cons.mp hz with e | hz
  · rw [e]; exact part_dec _ h1
  · rcases List.mem_cons.mp hz with e | hz
    · rw [e]; exact part_dec _ h2
    · rw [List.mem_singleton.mp hz]; exact part_dec _ h3
theorem litA : PartsOk ["other cats", "", "the"] := parts_dec _ _ _ (by decide +kernel) (by decide +kernel) (by decide +kernel)
theorem litB : PartsOk ["zz", "the zz", "zzs"] := parts_dec _ _ _ (by decide +kernel) (by decide +kernel) (by decide +kernel)
theorem litC : PartsOk ["cat", "", ""] := parts_dec _ _ _ (by decide +kernel) (by decide +kernel) (by decide +kernel)
theorem litD : PartsOk ["", "cat", ""] := parts_dec _ _ _ (by decide +kernel) (by decide +kernel) (by decide +kernel)
def resM (m : List Tx) (ns : List Str) : Mp := fun k => if k ∈ ns then aget m k else none
theorem resM_nil (m : List Tx) : resM m [] = noMp := by funext k; simp [resM, noMp]
theorem resM_snoc (m : List Tx) (ns : List Str) (z : Str) (ps : List Str) (h : aget m z = some ps) : upM (resM m ns) z (some ps) = resM m (ns ++ [z]) := by
  funext k
  unfold upM resM
  by_cases e : k = z
  · subst e; simp [h]
  · rw [if_neg e]
    by_cases q : k ∈ ns
    · rw [if_pos q, if_pos (List.mem_append_left _ q)]
    · rw [if_neg q, if_neg (by simp [q, e])]
theorem upM_up (mp : Mp) (z : Str) (a b : Option (List Str)) : upM (upM mp z a) z b = upM mp z b := by
  funext k
  unfold upM
  by_cases e : k = z
  · rw [if_pos e, if_pos e]
  · rw [if_neg e, if_neg e, if_neg e]
theorem upM_three (mp : Mp) (z f : Str) (a b : Option (List Str)) (hf : mp f = none) (hne : f ≠ z) : upM (upM (upM mp f a) z b) f none = upM mp z b := by
  funext k
  unfold upM
  by_cases e : k = f
  · rw [if_pos e]
    by_cases e2 : k = z
    · exact absurd (e.symm.trans e2) hne
    · rw [if_neg e2, e, hf]
  · rw [if_neg e]
    by_cases e2 : k = z
    · rw [if_pos e2, if_pos e2]
    · rw [if_neg e2, if_neg e2, if_neg e]
theorem upM_at (mp : Mp) (z : Str) (a : Option (List Str)) : upM mp z a z = a := by unfold upM; rw [if_pos rfl]
theorem cut_from (xs : List V) (k : Nat) : cutV xs (some (k : Int)) none = xs.drop k := by
  unfold cutV
  rw [HT.sIx_none, HT.sIx_nat]
  rw [List.take_of_length_le (by rw [List.length_drop]; exact Nat.le_refl _)]
  by_cases h : k ≤ xs.length
  · rw [Nat.min_eq_left h]
  · rw [Nat.min_eq_right (by omega), List.drop_of_length_le (by omega), List.drop_of_length_le (by omega)]
theorem cut_to (xs : List V) (k : Nat) : cutV xs none (some (k : Int)) = xs.take k := by
  unfold cutV
  rw [HT.sIx_none, HT.sIx_nat, List.drop_zero, Nat.sub_zero]
  by_cases h : k ≤ xs.length
  · rw [Nat.min_eq_left h]
  · rw [Nat.min_eq_right (by omega), List.take_of_length_le (Nat.le_refl _), List.take_of_length_le (by omega)]
theorem ifb_nx {b : Bool} {N : L2.St → Hp → Prop} {σ : L2.St} {H : Hp} {A : Prop} (C : L2.St → Hp → Prop) (hC : C σ H) (hA : (∀ σ H, C σ H → N σ H) → A) (hN : ∀ σ H, C σ H → N σ H) : if b = true then A else N σ H := by
  cases b
  · exact iteF (hN _ _ hC)
  · exact iteT (hA hN)
def spRoad (K : PySem.W.Frag) (cH cL : Addr) : Sp := fun vs H Q _ => ∃ (R : Hp) (p g r t : Addr) (c : Int) (m : List Tx) (kv : List (Key × V)), vs = [.ref p, .ref t, .int c] ∧ Hou K cH cL H R p g r 0 noMp ∧ H t = some (.dK kv) ∧ DkAll K R kv (txD m) ∧ MapOk m 40 ∧
  ∀ (H' : Hp) (n : Nat), Same (d2 p g H) H' → n ≤ 200 → Hou K cH cL H' (join R (nw H H')) p g r n (aget m) → Q .non H'
/-- a step of the house: the region grows, the base stays -/
structure Hj (K : PySem.W.Frag) (cH cL : Addr) (H0 R : Hp) (p g r : Addr) (H : Hp) (n : Nat) (mp : Mp) : Prop where
  s : Same (d2 p g H0) H
  ho : Hou K cH cL H (join R (nw H0 H)) p g r n mp
theorem Hj.start {K : PySem.W.Frag} {cH cL : Addr} {H0 R : Hp} {p g r : Addr} {n : Nat} {mp : Mp} (h : Hou K cH cL H0 R p g r n mp) : Hj K cH cL H0 R p g r H0 n mp := by
  obtain ⟨_, _, _, _, _, _, hp, hg, _⟩ := h.ex
  exact ⟨d2_sub, h.ext (fun a o e => join_l _ _ e) (joinS h.sub nw_sub) (join_no h.rp (nw_at hp)) (join_no h.rg (nw_at hg))⟩
theorem Hj.grow {K : PySem.W.Frag} {cH cL : Addr} {H0 R H H' : Hp} {p g r : Addr} {n : Nat} {mp : Mp} (sR : Same R H0) (h0 : Hou K cH cL H0 R p g r 0 noMp) (h : Hj K cH cL H0 R p g r H n mp) (s : Same H H') : Hj K cH cL H0 R p g r H' n mp := by
  obtain ⟨_, _, _, _, _, _, hp, hg, _⟩ := h0.ex
  have sR' : Same R H := fun a o e => h.s _ _ (d2_of (sR _ _ e) (ne_of_none e h0.rp) (ne_of_none e h0.rg))
  exact ⟨Same.trans h.s s, (h.ho.mono s).ext (join_mono (nw_same s)) (joinS (Same.trans sR' s) nw_sub) (join_no h0.rp (nw_at hp)) (join_no h0.rg (nw_at hg))⟩
theorem Hj.step {K : PySem.W.Frag} {cH cL : Addr} {H0 R H H' : Hp} {p g r : Addr} {n k : Nat} {mp mq : Mp} (sR : Same R H0) (h0 : Hou K cH cL H0 R p g r 0 noMp) (h : Hj K cH cL H0 R p g r H n mp) (s : Same (d2 p g H) H') (ho : Hou K cH cL H' (join (join R (nw H0 H)) (nw H H')) p g r k mq) : Hj K cH cL H0 R p g r H' k mq := by
  obtain ⟨_, _, _, _, _, _, hp0, hg0, _⟩ := h0.ex
  obtain ⟨_, _, _, _, _, _, hp, hg, _⟩ := h.ho.ex
  exact ⟨Same.trans (d2_up h.s) s, ho.base hp0 hg0 hp hg h.s s sR h0.rp h0.rg⟩
section
variable {P : Program} {w : World} {K : PySem.W.Frag} {mg : Str → Option Value} {base : Heap} {cL cM cH cR cB : Addr}
theorem scRoad : FnScope ["_law_house", "_law_texts", "_law_cell", "_law_names", "_law_free_here", "_law_spot", "_law_k", "_law_name_here", "_law_way"] ["_law_house", "_law_texts", "_law_cell"] (defScope sRoad) := ⟨rfl, rfl, rfl, by decide +kernel, rfl, by decide +kernel, by decide +kernel⟩
theorem ok_road {f : Addr} {fd : FuncData} (F0 : Fun K "_law_by_another_road" "_law_by_another_road" sRoad f fd) (T : Txt K mg cL cM cH cR)
    (mPut : Mth P w K mg base cH 5 "put" ["self", "name", "parts"] (spPut K cH cL)) (mTake : Mth P w K mg base cH 5 "take" ["self", "name"] (spTake K cH cL))
    (cFree : Cal P w K mg base 1 "_law_free" ["_law_names"] (spFree K)) :
    FnOk P w K mg base CX0 6 f fd ["_law_house", "_law_texts", "_law_cell"] (spRoad K cH cL) := by
  refine F0.ok scRoad (fun vs H Q E h => ?_) (fun cdv A outer s H vs Q E hr h => ?_)
  · obtain ⟨R, p, g, r, t, c, m, kv, rfl, _⟩ := h
    rfl
  · obtain ⟨R, p, g, r, t, c, m, kv, rfl, Ho, ht, hk, hm, k⟩ := h
    have hu := hu_of hr
    have nd := scRoad.nd
    refine ⟨_, (pss_cons (ps_set (i := 3) nd rfl (.inl rfl) (pe_callB (cr_sortDS rfl) (by rfl) T.sorted (by decide +kernel) (pa_cons (pv 1) pa_nil)))
      (pss_cons (ps_set (i := 4) nd rfl (.inl rfl) (pe_cal cFree (hr.mono (by decide)) (pa_cons (pv 3) pa_nil)))
      (pss_cons (ps_set (i := 5) nd rfl (.inl rfl) (pe_op op_mod (pe_op op_fdiv (pv 2) pe_int) (pe_op op_add (pe_callB (call_lenK K) (by rfl) T.len PySem.boot_len (pa_cons (pv 3) pa_nil)) pe_int)))
      (pss_cons (ps_set (i := 3) nd rfl (.inl rfl) (pe_op op_cat (pe_slice sl_list (pv 3) (po_some (pv 5)) po_none) (pe_slice sl_list (pv 3) po_none (po_some (pv 5)))))
      (pss_cons (ps_if (pt_cmpR op_eq (pe_op op_mod (pv 2) pe_int) pe_int (nomark _)) (pss_one (ps_expr (pe_bm0 PySem.F.plainAttrs_list PySem.F.slot_list_reverse PySem.F.type_list_reverse mt_reverse (pv 3)))) pss_nil)
      (pss_one (ps_for PassesOwn.never rfl (pi_enum (by rfl) T.enumerate (pa_cons (pv 3) pa_nil)) (pg_tup rfl (pgs_cons (pg_name (i := 6) nd rfl (.inl rfl)) (pgs_cons (pg_name (i := 7) nd rfl (.inl rfl)) pgs_nil)))
          (pss_cons (ps_set (i := 8) nd rfl (.inl rfl) (pe_op op_mod (pe_op op_fdiv (pv 2) (pe_op op_mul pe_int (pe_op op_add (pv 6) pe_int))) pe_int))
          (pss_cons (ps_if (pt_cmpR op_eq (pv 8) pe_int (nomark _)) (pss_one (ps_expr (pe_mth (pv 0) T.hC mPut hr (pa_cons (pv 7) (pa_cons (pe_tup (pa_cons pe_str (pa_cons pe_str (pa_cons pe_str pa_nil)))) pa_nil))))) pss_nil)
          (pss_cons (ps_if (pt_cmpR op_eq (pv 8) pe_int (nomark _)) (pss_cons (ps_expr (pe_mth (pv 0) T.hC mPut hr (pa_cons (pv 7) (pa_cons (pe_dget hu (pv 1) (pv 7) (fun _ _ => rfl)) pa_nil))))
              (pss_one (ps_expr (pe_mth (pv 0) T.hC mTake hr (pa_cons (pv 7) pa_nil))))) pss_nil)
          (pss_cons (ps_if (pt_cmpR op_eq (pv 8) pe_int (nomark _)) (pss_one (ps_expr (pe_mth (pv 0) T.hC mPut hr (pa_cons (pv 4) (pa_cons (pe_tup (pa_cons pe_str (pa_cons pe_str (pa_cons pe_str pa_nil)))) pa_nil))))) pss_nil)
          (pss_cons (ps_expr (pe_mth (pv 0) T.hC mPut hr (pa_cons (pv 7) (pa_cons (pe_dget hu (pv 1) (pv 7) (fun _ _ => rfl)) pa_nil))))
          (pss_one (ps_if (pt_cmpR op_eq (pv 8) pe_int (nomark _)) (pss_one (ps_expr (pe_mth (pv 0) T.hC mTake hr (pa_cons (pv 4) pa_nil)))) pss_nil)))))))))))))), ?_⟩
    obtain ⟨dx, e, gs, L, lv, lys, hp, hg, _⟩ := Ho.ex
    have hmf := hm.few
    -- names = sorted(texts)
    refine ⟨_, rfl, t, kv, m.map (·.1), rfl, .inl ht, keysR hk, fun a0 ha0 => ?_⟩
    have s1 := same_upd (o := .lst ((ssort (m.map (·.1))).map V.str)) ha0
    have a1 : (upd H a0 (.lst ((ssort (m.map (·.1))).map V.str))) a0 = some (.lst ((ssort (m.map (·.1))).map V.str)) := upd_same
    generalize upd H a0 (.lst ((ssort (m.map (·.1))).map V.str)) = H1 at s1 a1 ⊢
    have hnl : (ssort (m.map (·.1))).length = m.length := by rw [(ssort_perm _).length_eq, List.length_map]
    have hnp := ssort_perm (m.map (·.1))
    generalize ssort (m.map (·.1)) = n0 at a1 hnl hnp ⊢
    refine ⟨_, rfl, a0, n0, rfl, SqL.of a1, by omega, fun H2 fz s2 okf hfz => ?_⟩
    have a2 := s2 _ _ a1
    have s02 := Same.trans s1 s2
    -- spot
    refine ⟨_, rfl, _, _, rfl, rfl, ⟨by decide, by decide⟩, ?_⟩
    refine ⟨_, rfl, a0, _, rfl, .inl (SqL.of a2), _, _, rfl, rfl, ?_⟩
    refine ⟨_, _, rfl, rfl, by show (0 : Int) < _; rw [List.length_map]; omega, ?_⟩
    obtain ⟨sp, hsp⟩ : ∃ sp : Nat, c / 2 % (((n0.map V.str).length : Nat) + 1 : Int) = (sp : Int) := ⟨(c / 2 % (((n0.map V.str).length : Nat) + 1 : Int)).toNat, by
      have := Int.emod_nonneg (c / 2) (show ((((n0.map V.str).length : Nat) : Int) + 1) ≠ 0 by omega)
      omega⟩
    show (gName 5 (V.int (c / 2 % (((n0.map V.str).length : Nat) + 1 : Int))) _ H2 _ : Prop)
    rw [hsp]
    -- names = names[spot:] + names[:spot]
    refine ⟨_, rfl, _, rfl, (sp : Int), rfl, a0, _, rfl, SqL.of a2, fun q1 hq1 => ?_⟩
    have sq1 := same_upd (o := .lst (cutV (n0.map V.str) (some (sp : Int)) none)) hq1
    have hq11 : (upd H2 q1 (.lst (cutV (n0.map V.str) (some (sp : Int)) none))) q1 = some (.lst (cutV (n0.map V.str) (some (sp : Int)) none)) := upd_same
    refine ⟨_, rfl, _, rfl, (sp : Int), rfl, a0, _, rfl, SqL.of (sq1 _ _ a2), fun q2 hq2 => ?_⟩
    have sq2 := same_upd (o := .lst (cutV (n0.map V.str) none (some (sp : Int)))) hq2
    refine ⟨q1, q2, _, _, rfl, rfl, sq2 _ _ hq11, upd_same, small_sz' (by rw [cut_from, cut_to, List.length_drop, List.length_take, List.length_map]; omega), fun q3 hq3 => ?_⟩
    have e3 : cutV (n0.map V.str) (some (sp : Int)) none ++ cutV (n0.map V.str) none (some (sp : Int)) = (n0.drop sp ++ n0.take sp).map V.str := by
      rw [cut_from, cut_to, List.map_append, List.map_drop, List.map_take]
    rw [e3]
    have sq3 := same_upd (o := .lst ((n0.drop sp ++ n0.take sp).map V.str)) hq3
    have q33 : (upd (upd (upd H2 q1 (.lst (cutV (n0.map V.str) (some (sp : Int)) none))) q2 (.lst (cutV (n0.map V.str) none (some (sp : Int))))) q3 (.lst ((n0.drop sp ++ n0.take sp).map V.str))) q3 = some (.lst ((n0.drop sp ++ n0.take sp).map V.str)) := upd_same
    have s03 : Same H (upd (upd (upd H2 q1 (.lst (cutV (n0.map V.str) (some (sp : Int)) none))) q2 (.lst (cutV (n0.map V.str) none (some (sp : Int))))) q3 (.lst ((n0.drop sp ++ n0.take sp).map V.str))) := Same.trans s02 (Same.trans sq1 (Same.trans sq2 sq3))
    have zq3 : H q3 = none := Same.free (Same.trans s02 (Same.trans sq1 sq2)) hq3
    have np1 : (n0.drop sp ++ n0.take sp).Perm (m.map (·.1)) := by
      refine List.Perm.trans List.perm_append_comm ?_
      rw [List.take_append_drop]; exact hnp
    generalize upd (upd (upd H2 q1 (.lst (cutV (n0.map V.str) (some (sp : Int)) none))) q2 (.lst (cutV (n0.map V.str) none (some (sp : Int))))) q3 (.lst ((n0.drop sp ++ n0.take sp).map V.str)) = H3' at q33 s03 ⊢
    generalize n0.drop sp ++ n0.take sp = n1 at q33 np1
    -- if cell % 2 == 1: names.reverse()
    refine ⟨_, rfl, _, _, rfl, rfl, by show (0 : Int) < 2; decide, rfl, _, rfl, ?_⟩
    refine ifb_nx (fun σ' H' => σ' = [some (.ref p), some (.ref t), some (.int c), some (.ref q3), some (.str fz), some (.int sp), none, none, none] ∧ Same H H' ∧ ∃ ns : List Str, H' q3 = some (.lst (ns.map V.str)) ∧ ns.Perm (m.map (·.1)))
      ⟨rfl, s03, n1, q33, np1⟩ (fun hN => ?_) ?_
    · refine ⟨_, rfl, .inl ⟨rfl, _, SqL.of q33⟩, q3, _, rfl, rfl, q33, hN _ _ ⟨rfl, same_wr s03 zq3, n1.reverse, ?_, n1.reverse_perm.trans np1⟩⟩
      rw [upd_same, List.map_reverse]
    rintro σ' H3 ⟨rfl, s3, ns, hq3, hperm⟩
    have Ho3 := Ho.mono s3
    have hp3 := s3 _ _ hp
    have hg3 := s3 _ _ hg
    have ht3 := s3 _ _ ht
    have sR3 := Ho3.sub
    have htd : (d2 p g H3) t = some (.dK kv) := d2_of ht3 (fun z => by rw [z, hp3] at ht3; cases ht3) (fun z => by rw [z, hg3] at ht3; cases ht3)
    have hqd : (d2 p g H3) q3 = some (.lst (ns.map V.str)) := d2_of hq3 (fun z => by rw [z, hp3] at hq3; cases hq3) (fun z => by
      have h9 := Same.free (Same.refl H) zq3
      rw [z, hg] at h9; cases h9)
    have hnd : ns.Nodup := hperm.nodup_iff.mpr hm.nd
    have hlen : ns.length ≤ 40 := by rw [hperm.length_eq, List.length_map]; exact hmf
    have hfn : fz ∉ ns := fun h => hfz ((hnp.mem_iff).mpr (hperm.mem_iff.mp h))
    refine ⟨_, rfl, q3, _, rfl, SqL.of hq3, ?_⟩
    refine for_it (walk_enum (xs := ns.map V.str)) (fun i σ H' => ∃ (x6 x7 x8 : Option V), σ = [some (.ref p), some (.ref t), some (.int c), some (.ref q3), some (.str fz), some (.int sp), x6, x7, x8] ∧ ∃ n, n ≤ 3 * i ∧ Hj K cH cL H3 R p g r H' n (resM m (ns.take i)))
      ⟨none, none, none, rfl, 0, Nat.le_refl _, by rw [List.take_zero, resM_nil]; exact Hj.start Ho3⟩ (fun i σ H' _ ⟨_, _, _, _, _, _, q⟩ => SqL.of (q.s _ _ hqd)) ?_ ?_
    · rintro i x σ H' H4 hi ⟨x6, x7, x8, rfl, n, hn, HoH⟩ ⟨T1, kx, vx, rfl, hT1, rfl, ek, ev⟩
      dsimp only at ek ev
      rw [List.getElem?_map] at ev
      obtain ⟨z, hz1, rfl⟩ : ∃ z, ns[i]? = some z ∧ vx = V.str z := by
        cases e : ns[i]? with
        | none => rw [e] at ev; cases ev
        | some z => rw [e] at ev; exact ⟨z, rfl, (Option.some.inj ev).symm⟩
      cases ek
      have hi2 : i < ns.length := (List.getElem?_eq_some_iff.mp hz1).1
      have e1 : ns.take (i + 1) = ns.take i ++ [z] := by
        obtain ⟨hi, e⟩ := List.getElem?_eq_some_iff.mp hz1
        rw [List.take_succ_eq_append_getElem hi, e]
      have hzm : z ∈ m.map (·.1) := hperm.mem_iff.mp (List.mem_of_getElem? hz1)
      obtain ⟨ps, hps, hpm⟩ := aget_some hzm
      have okz : NameOk z := hm.nm _ hpm
      have okps : PartsOk ps := hm.pt _ hpm
      obtain ⟨v, hv, dv⟩ : ∃ v, valV kv (.inr z) = some v ∧ Dp K R v (partsD ps) := by
        rcases hk.val z with ⟨_, g2⟩ | ⟨v1, dt, g1, g2, g3⟩
        · unfold txD at g2; rw [aget_map, hps] at g2; cases g2
        · unfold txD at g2; rw [aget_map, hps] at g2; cases g2; exact ⟨v1, g1, g3⟩
      have hget : ∀ H', Same (d2 p g H3) H' → DGet H' t (V.str z) (some v) := fun H' s => by
        have := DGet.k (k := Sum.inr z) (s _ _ htd)
        rw [hv] at this
        exact this
      have hfz2 : fz ≠ z := fun e => hfn (e ▸ List.mem_of_getElem? hz1)
      have hff : resM m (ns.take i) fz = none := by
        unfold resM
        rw [if_neg (fun h => hfn (List.mem_of_mem_take h))]
      have sT := same_upd (o := .tup [.int (i : Nat), .str z]) hT1
      have Ho5 := HoH.grow sR3 Ho3 sT
      have tT : (upd H' T1 (.tup [.int (i : Nat), .str z])) T1 = some (.tup [.int (i : Nat), .str z]) := upd_same
      refine ⟨T1, _, rfl, SqT.of tT, rfl, _, _, rfl, _, _, rfl, rfl, ?_⟩
      generalize upd H' T1 (.tup [.int (i : Nat), .str z]) = H5 at Ho5 tT ⊢
      refine ⟨_, rfl, _, rfl, _, _, rfl, rfl, _, _, rfl, rfl, .inl ⟨by decide, by decide⟩, _, _, rfl, rfl, ⟨by omega, by omega⟩, _, _, rfl, rfl, by show (0 : Int) < 4; decide, ?_⟩
      show (gName 8 (V.int (c / (64 * ((i : Nat) + 1 : Int)) % 4)) _ H5 _ : Prop)
      generalize c / (64 * ((i : Nat) + 1 : Int)) % 4 = way
      have hup : upM (resM m (ns.take i)) z (some ps) = resM m (ns.take (i + 1)) := by rw [e1]; exact resM_snoc m _ z ps hps
      have okp : (upM (resM m (ns.take i)) z (some ps) z).isSome = true := by rw [upM_at]; rfl
      refine ⟨_, rfl, rfl, _, rfl, ?_⟩
      by_cases w1 : V.int way = V.int 1
      · refine ifdT w1 ?_
        obtain ⟨dxA1, eA1, _, _, _, _, hpA1, hgA1, _⟩ := Ho5.ho.ex
        refine ⟨_, rfl, p, dxA1, _, rfl, hpA1, hF_no _ _ _ (by decide +kernel) (by decide +kernel) (by decide +kernel), _, rfl, by show 3 ≤ sizeLine; decide, fun qA1 hqA1 => ?_⟩
        have sqA1 := same_upd (o := .tup [.str "other cats", .str "", .str "the"]) hqA1
        have HqA1 := Ho5.grow sR3 Ho3 sqA1
        have lqA1 : Dp K (join R (nw H3 (upd H5 qA1 (.tup [.str "other cats", .str "", .str "the"])))) (.ref qA1) (partsD ["other cats", "", "the"]) := .tup (SqT.of (in_new sR3 (by
          cases z3 : H3 qA1 with
          | none => rfl
          | some w =>
            have := Ho5.s _ _ (d2_of z3 (ne_of_none hpA1 hqA1).symm (ne_of_none hgA1 hqA1).symm)
            rw [hqA1] at this; cases this) upd_same)) (.cons (.str _) (.cons (.str _) (.cons (.str _) .nil)))
        refine ⟨_, p, g, r, _, _, z, _, ["other cats", "", "the"], rfl, HqA1.ho, okz, lqA1, litA, by omega, fun HHA1 iA1 sA1' GA1 => ?_⟩
        have HoA1 := HqA1.step sR3 Ho3 sA1' GA1
        refine ⟨_, rfl, rfl, _, rfl, ?_⟩
        refine ifdF (by rw [w1]; intro e; cases e) ?_
        refine ⟨_, rfl, rfl, _, rfl, ?_⟩
        refine ifdF (by rw [w1]; intro e; cases e) ?_
        obtain ⟨dxA2, eA2, _, _, _, _, hpA2, _⟩ := HoA1.ho.ex
        refine ⟨_, rfl, p, dxA2, _, rfl, hpA2, hF_no _ _ _ (by decide +kernel) (by decide +kernel) (by decide +kernel), _, rfl, _, rfl, _, rfl, t, v, rfl, hget _ HoA1.s, ?_⟩
        refine ⟨_, p, g, r, _, _, z, v, ps, rfl, HoA1.ho, okz, Dp.mono (fun _ _ e => join_l _ _ e) dv, okps, by omega, fun HHA2 iA2 sA2' GA2 => ?_⟩
        have HoA2 := HoA1.step sR3 Ho3 sA2' GA2
        refine ⟨_, rfl, rfl, _, rfl, ?_⟩
        refine ifdF (by rw [w1]; intro e; cases e) ?_
        rw [upM_up, hup] at HoA2
        exact ⟨_, _, _, rfl, _, by omega, HoA2⟩
      · refine ifdF w1 ?_
        refine ⟨_, rfl, rfl, _, rfl, ?_⟩
        by_cases w2 : V.int way = V.int 2
        · refine ifdT w2 ?_
          obtain ⟨dxB1, eB1, _, _, _, _, hpB1, _⟩ := Ho5.ho.ex
          refine ⟨_, rfl, p, dxB1, _, rfl, hpB1, hF_no _ _ _ (by decide +kernel) (by decide +kernel) (by decide +kernel), _, rfl, _, rfl, _, rfl, t, v, rfl, hget _ Ho5.s, ?_⟩
          refine ⟨_, p, g, r, _, _, z, v, ps, rfl, Ho5.ho, okz, Dp.mono (fun _ _ e => join_l _ _ e) dv, okps, by omega, fun HHB1 iB1 sB1' GB1 => ?_⟩
          have HoB1 := Ho5.step sR3 Ho3 sB1' GB1
          obtain ⟨dxB2, eB2, _, _, _, _, hpB2, _⟩ := HoB1.ho.ex
          refine ⟨_, rfl, p, dxB2, _, rfl, hpB2, hF_no _ _ _ (by decide +kernel) (by decide +kernel) (by decide +kernel), _, rfl, ?_⟩
          refine ⟨_, p, g, r, _, _, z, rfl, HoB1.ho, okp, by omega, fun HHB2 iB2 sB2' GB2 => ?_⟩
          have HoB2 := HoB1.step sR3 Ho3 sB2' GB2
          refine ⟨_, rfl, rfl, _, rfl, ?_⟩
          refine ifdF (by rw [w2]; intro e; cases e) ?_
          obtain ⟨dxB3, eB3, _, _, _, _, hpB3, _⟩ := HoB2.ho.ex
          refine ⟨_, rfl, p, dxB3, _, rfl, hpB3, hF_no _ _ _ (by decide +kernel) (by decide +kernel) (by decide +kernel), _, rfl, _, rfl, _, rfl, t, v, rfl, hget _ HoB2.s, ?_⟩
          refine ⟨_, p, g, r, _, _, z, v, ps, rfl, HoB2.ho, okz, Dp.mono (fun _ _ e => join_l _ _ e) dv, okps, by omega, fun HHB3 iB3 sB3' GB3 => ?_⟩
          have HoB3 := HoB2.step sR3 Ho3 sB3' GB3
          refine ⟨_, rfl, rfl, _, rfl, ?_⟩
          refine ifdF (by rw [w2]; intro e; cases e) ?_
          rw [upM_up, upM_up, hup] at HoB3
          exact ⟨_, _, _, rfl, _, by omega, HoB3⟩
        · refine ifdF w2 ?_
          refine ⟨_, rfl, rfl, _, rfl, ?_⟩
          by_cases w3 : V.int way = V.int 3
          · refine ifdT w3 ?_
            obtain ⟨dxC1, eC1, _, _, _, _, hpC1, hgC1, _⟩ := Ho5.ho.ex
            refine ⟨_, rfl, p, dxC1, _, rfl, hpC1, hF_no _ _ _ (by decide +kernel) (by decide +kernel) (by decide +kernel), _, rfl, by show 3 ≤ sizeLine; decide, fun qC1 hqC1 => ?_⟩
            have sqC1 := same_upd (o := .tup [.str "zz", .str "the zz", .str "zzs"]) hqC1
            have HqC1 := Ho5.grow sR3 Ho3 sqC1
            have lqC1 : Dp K (join R (nw H3 (upd H5 qC1 (.tup [.str "zz", .str "the zz", .str "zzs"])))) (.ref qC1) (partsD ["zz", "the zz", "zzs"]) := .tup (SqT.of (in_new sR3 (by
              cases z3 : H3 qC1 with
              | none => rfl
              | some w =>
                have := Ho5.s _ _ (d2_of z3 (ne_of_none hpC1 hqC1).symm (ne_of_none hgC1 hqC1).symm)
                rw [hqC1] at this; cases this) upd_same)) (.cons (.str _) (.cons (.str _) (.cons (.str _) .nil)))
            refine ⟨_, p, g, r, _, _, fz, _, ["zz", "the zz", "zzs"], rfl, HqC1.ho, okf, lqC1, litB, by omega, fun HHC1 iC1 sC1' GC1 => ?_⟩
            have HoC1 := HqC1.step sR3 Ho3 sC1' GC1
            obtain ⟨dxC2, eC2, _, _, _, _, hpC2, _⟩ := HoC1.ho.ex
            refine ⟨_, rfl, p, dxC2, _, rfl, hpC2, hF_no _ _ _ (by decide +kernel) (by decide +kernel) (by decide +kernel), _, rfl, _, rfl, _, rfl, t, v, rfl, hget _ HoC1.s, ?_⟩
            refine ⟨_, p, g, r, _, _, z, v, ps, rfl, HoC1.ho, okz, Dp.mono (fun _ _ e => join_l _ _ e) dv, okps, by omega, fun HHC2 iC2 sC2' GC2 => ?_⟩
            have HoC2 := HoC1.step sR3 Ho3 sC2' GC2
            refine ⟨_, rfl, rfl, _, rfl, ?_⟩
            refine ifdT w3 ?_
            obtain ⟨dxC3, eC3, _, _, _, _, hpC3, _⟩ := HoC2.ho.ex
            refine ⟨_, rfl, p, dxC3, _, rfl, hpC3, hF_no _ _ _ (by decide +kernel) (by decide +kernel) (by decide +kernel), _, rfl, ?_⟩
            refine ⟨_, p, g, r, _, _, fz, rfl, HoC2.ho, (by unfold upM; rw [if_neg hfz2, if_pos rfl]; rfl), by omega, fun HHC3 iC3 sC3' GC3 => ?_⟩
            have HoC3 := HoC2.step sR3 Ho3 sC3' GC3
            rw [upM_three _ _ _ _ _ hff hfz2, hup] at HoC3
            exact ⟨_, _, _, rfl, _, by omega, HoC3⟩
          · refine ifdF w3 ?_
            obtain ⟨dxD1, eD1, _, _, _, _, hpD1, _⟩ := Ho5.ho.ex
            refine ⟨_, rfl, p, dxD1, _, rfl, hpD1, hF_no _ _ _ (by decide +kernel) (by decide +kernel) (by decide +kernel), _, rfl, _, rfl, _, rfl, t, v, rfl, hget _ Ho5.s, ?_⟩
            refine ⟨_, p, g, r, _, _, z, v, ps, rfl, Ho5.ho, okz, Dp.mono (fun _ _ e => join_l _ _ e) dv, okps, by omega, fun HHD1 iD1 sD1' GD1 => ?_⟩
            have HoD1 := Ho5.step sR3 Ho3 sD1' GD1
            refine ⟨_, rfl, rfl, _, rfl, ?_⟩
            refine ifdF w3 ?_
            rw [hup] at HoD1
            exact ⟨_, _, _, rfl, _, by omega, HoD1⟩
    · rintro σ H' ⟨x6, x7, x8, rfl, n, hn, HoH⟩
      rw [show (ns.map V.str).length = ns.length by simp, List.take_length] at HoH
      have hn2 : n ≤ 3 * ns.length := by rw [List.length_map] at hn; exact hn
      have e : resM m ns = aget m := by
        funext k
        unfold resM
        by_cases h : k ∈ ns
        · rw [if_pos h]
        · rw [if_neg h]
          exact ((aget_none_iff m k).mpr fun q => h (hperm.mem_iff.mpr q)).symm
      rw [e] at HoH
      exact k H' n (Same.trans (d2_mono s3) HoH.s) (by omega) (HoH.ho.shrink s3 HoH.s Ho.sub Ho.rp Ho.rg ⟨_, hp⟩ ⟨_, hg⟩)
end
end KR
set_option maxHeartbeats 1000000
namespace KR
open PySem PySem.Spec PyProof.Rows L2
def Asc (z : Str) : Prop := ∀ c ∈ z.cps.toList, c < 128
def Sh (n : Nat) (d : PyData) : Prop := d.canLay0 = true ∧ d.depth ≤ n
theorem Sh.mono {n k : Nat} {d : PyData} (h : Sh n d) (q : n ≤ k) : Sh k d := ⟨h.1, Nat.le_trans h.2 q⟩
theorem Sh.int (i : Int) : Sh 0 (.int i) := ⟨by simp only [PyData.canLay0], by simp only [PyData.depth]; exact Nat.le_refl _⟩
theorem Sh.str {z : Str} (h : Asc z) : Sh 0 (.str z) := by
  refine ⟨?_, by simp only [PyData.depth]; exact Nat.le_refl _⟩
  simp only [PyData.canLay0]
  unfold PyData.strOk
  rw [Array.all_eq_true]
  intro i hi
  have := h z.cps[i] (Array.mem_toList_iff.mpr (Array.getElem_mem hi))
  exact decide_eq_true (by omega)
theorem layAll : ∀ {ds : List PyData} {n : Nat}, (∀ d ∈ ds, Sh n d) → PyData.canLayAll0 ds = true ∧ PyData.depthAll ds ≤ n
  | [], n, _ => ⟨by simp only [PyData.canLayAll0], by simp only [PyData.depthAll]; exact Nat.zero_le _⟩
  | d :: ds, n, h => by
    obtain ⟨h1, h2⟩ := layAll fun x hx => h x (List.mem_cons_of_mem _ hx)
    obtain ⟨h3, h4⟩ := h d List.mem_cons_self
    refine ⟨?_, ?_⟩
    · simp only [PyData.canLayAll0, h1, h3, Bool.and_self]
    · simp only [PyData.depthAll]
      exact Nat.max_le.mpr ⟨h4, h2⟩
theorem Sh.lst {n : Nat} {ds : List PyData} (h : ∀ d ∈ ds, Sh n d) : Sh (n + 1) (.list ds) := by
  obtain ⟨h1, h2⟩ := layAll h
  exact ⟨by simp only [PyData.canLay0, h1], by simp only [PyData.depth]; exact Nat.succ_le_succ h2⟩
theorem Sh.tup {n : Nat} {ds : List PyData} (h : ∀ d ∈ ds, Sh n d) : Sh (n + 1) (.tuple ds) := by
  obtain ⟨h1, h2⟩ := layAll h
  exact ⟨by simp only [PyData.canLay0, h1], by simp only [PyData.depth]; exact Nat.succ_le_succ h2⟩
theorem Sh.map {α : Type} {n : Nat} {xs : List α} {f : α → PyData} (h : ∀ x ∈ xs, Sh n (f x)) : Sh (n + 1) (.list (xs.map f)) := Sh.lst fun d hd => by
  obtain ⟨x, hx, e⟩ := List.mem_map.mp hd
  rw [← e]; exact h x hx
theorem Sh.ok {n : Nat} {d : PyData} (h : Sh n d) (q : n ≤ 64) : SeqAt.shaped d = true := by
  unfold SeqAt.shaped
  rw [h.1, decide_eq_true (Nat.le_trans h.2 q)]; rfl
theorem hsig_asc : ∀ c ∈ HSIG.cps.toList, c < 128 := by decide +kernel
theorem hlet_asc : ∀ c ∈ HLET.cps.toList, c < 128 := by decide +kernel
theorem PartOk.asc {z : Str} (h : PartOk z) : Asc z := fun c hc => hsig_asc c (h.sgn c hc)
theorem NameOk.asc {z : Str} (h : NameOk z) : Asc z := fun c hc => hlet_asc c (h.sgn c hc)
theorem lo1_asc : ∀ c, c < 128 → lo1 c < 128 := by decide +kernel
theorem low_asc {z : Str} (h : Asc z) : Asc (lowOf z) := by
  unfold lowOf
  rw [lower_ascii h]
  intro c hc
  have hc2 : c ∈ (z.cps.map lo1).toList := hc
  rw [Array.toList_map] at hc2
  obtain ⟨d, hd, e⟩ := List.mem_map.mp hc2
  rw [← e]; exact lo1_asc d (h d hd)
theorem cut_asc {z : Str} (h : Asc z) (lo hi : Option Int) : Asc (cutS z lo hi) := by
  intro c hc
  unfold cutS at hc
  exact h c (List.mem_of_mem_drop (List.mem_of_mem_take hc))
theorem app_asc {a b : Str} (h : Asc a) (q : Asc b) : Asc (a ++ b) := by
  intro c hc
  rw [app_list] at hc
  rcases List.mem_append.mp hc with e | e
  · exact h c e
  · exact q c e
theorem runSt_asc {small : Str} (h : Asc small) (all : Str) : ∀ i, ∀ r ∈ (runSt small all i).1, Asc r.1
  | 0 => fun r h => by cases h
  | i + 1 => fun r q => by
    have ih := runSt_asc h all i
    unfold runSt at q
    dsimp only at q
    split at q
    · exact ih r q
    · dsimp only at q
      split at q
      · rcases List.mem_append.mp q with q | q
        · exact ih r q
        · rw [List.mem_singleton.mp q]; exact cut_asc h _ _
      · exact ih r q
theorem runs_asc {z : Str} (h : Asc z) : ∀ r ∈ runsOf z, Asc r.1 := runSt_asc (low_asc h) _ _
def Rb.Asc (rb : Rb) : Prop := ∀ x i n, rb.tail x = some (i, n) → KR.Asc i
theorem brought_asc {rb : Rb} (hr : rb.Asc) {run : Str} (h : Asc run) : ∀ m, Asc (broughtFrom rb run m)
  | 0 => h
  | m + 1 => by
    unfold broughtFrom
    cases e : rb.tail (restOf run (m + 1)) with
    | none => exact brought_asc hr h m
    | some p =>
      obtain ⟨ins, least⟩ := p
      dsimp only
      split
      · exact app_asc (cut_asc h _ _) (hr _ _ _ e)
      · exact brought_asc hr h m
theorem wordSt_asc {rb : Rb} (hr : rb.Asc) {rs : List (Str × Nat × Nat)} (h : ∀ r ∈ rs, Asc r.1) : ∀ i, ∀ w ∈ wordSt rb rs i, Asc w.1
  | 0 => fun w q => by cases q
  | i + 1 => fun w q => by
    have ih := wordSt_asc hr h i
    unfold wordSt at q
    split at q
    · rename_i r e
      split at q
      · exact ih w q
      · rcases List.mem_append.mp q with q | q
        · exact ih w q
        · rw [List.mem_singleton.mp q]
          exact brought_asc hr (h r (List.mem_of_getElem? e)) _
    · exact ih w q
theorem words_asc {rb : Rb} (hr : rb.Asc) {z : Str} (h : Asc z) : ∀ w ∈ wordsOf rb z, Asc w.1 := wordSt_asc hr (runs_asc h) _
def AscK {α : Type} (P : α → Prop) (m : List (Str × List α)) : Prop := ∀ p ∈ m, Asc p.1 ∧ ∀ x ∈ p.2, P x
theorem AscK.push {α : Type} {P : α → Prop} {m : List (Str × List α)} {k : Str} {x : α} (h : AscK P m) (hk : Asc k) (hx : P x) : AscK P (pushA m k x) := by
  have h1 : AscK P (ensure m k) := by
    unfold ensure
    split
    · exact h
    · intro p hp
      rcases List.mem_append.mp hp with q | q
      · exact h p q
      · rw [List.mem_singleton.mp q]; exact ⟨hk, fun y hy => by cases hy⟩
  unfold pushA pushM
  intro p hp
  obtain ⟨q, hq, e⟩ := List.mem_map.mp hp
  have := h1 q hq
  by_cases eq : q.1 = k
  · rw [if_pos eq] at e
    rw [← e]
    refine ⟨this.1, fun y hy => ?_⟩
    rcases List.mem_append.mp hy with z | z
    · exact this.2 y z
    · rw [List.mem_singleton.mp z]; exact hx
  · rw [if_neg eq] at e
    rw [← e]; exact this
theorem fold_inv {α β : Type} {I : β → Prop} {f : β → α → β} : ∀ (l : List α) (b : β), I b → (∀ a ∈ l, ∀ b, I b → I (f b a)) → I (l.foldl f b)
  | [], b, h, _ => h
  | a :: l, b, h, q => fold_inv l (f b a) (q a List.mem_cons_self b h) fun x hx => q x (List.mem_cons_of_mem _ hx)
theorem spots_asc {rb : Rb} (hr : rb.Asc) {z : Str} (h : Asc z) : AscK (fun _ : Nat => True) (spotsOf (wordsOf rb z)) := by
  unfold spotsOf
  exact fold_inv (I := AscK fun _ : Nat => True) _ _ (fun p hp => by cases hp) fun w hw b hb => hb.push (words_asc hr h w hw) trivial
theorem stands_asc {rb : Rb} (hr : rb.Asc) {ts : List Tx} (h : ∀ t ∈ ts, Asc t.1 ∧ ∀ z ∈ t.2, Asc z) : AscK (fun r : Row => Asc r.1) (standsOf rb ts) := by
  unfold standsOf
  refine fold_inv (I := AscK fun r : Row => Asc r.1) _ _ (fun p hp => by cases hp) fun t ht b hb => ?_
  unfold layText layParts
  refine fold_inv (I := AscK fun r : Row => Asc r.1) _ _ hb fun zp hzp b hb => ?_
  unfold layPart
  have hz : Asc zp.1 := (h t ht).2 _ (List.mem_of_getElem? (List.mk_mem_zipIdx_iff_getElem?.mp hzp))
  exact fold_inv (I := AscK fun r : Row => Asc r.1) _ _ hb fun s hs b hb => hb.push (spots_asc hr hz s hs).1 (h t ht).1
theorem wordsL_asc {rb : Rb} (hr : rb.Asc) {ts : List Tx} (h : ∀ t ∈ ts, Asc t.1 ∧ ∀ z ∈ t.2, Asc z) : ∀ z ∈ wordsL rb ts, Asc z := fun z hz => by
  unfold wordsL at hz
  have hz2 := (ssort_perm _).mem_iff.mp hz
  obtain ⟨p, hp, e⟩ := List.mem_map.mp hz2
  rw [← e]; exact (stands_asc hr h p hp).1
theorem partsD_sh {ps : List Str} (h : ∀ z ∈ ps, Asc z) : Sh 1 (partsD ps) := Sh.tup fun d hd => by
  obtain ⟨z, hz, e⟩ := List.mem_map.mp hd
  rw [← e]; exact Sh.str (h z hz)
theorem namesD_sh {ts : List Tx} (h : ∀ t ∈ ts, Asc t.1) : Sh 1 (namesD ts) := Sh.map fun t ht => Sh.str (h t ht)
theorem told_sh {rb : Rb} (hr : rb.Asc) {ts : List Tx} (h : ∀ t ∈ ts, Asc t.1 ∧ ∀ z ∈ t.2, Asc z) : Sh 10 (toldD rb ts) := by
  have hw := wordsL_asc hr h
  have two : ∀ {a b : PyData} {n : Nat}, Sh n a → Sh n b → Sh (n + 1) (.tuple [a, b]) := fun ha hb => Sh.tup fun d hd => by
    rcases List.mem_cons.mp hd with e | hd
    · rw [e]; exact ha
    · rw [List.mem_singleton.mp hd]; exact hb
  have three : ∀ {a b c : PyData} {n : Nat}, Sh n a → Sh n b → Sh n c → Sh (n + 1) (.tuple [a, b, c]) := fun ha hb hc => Sh.tup fun d hd => by
    rcases List.mem_cons.mp hd with e | hd
    · rw [e]; exact ha
    · rcases List.mem_cons.mp hd with e | hd
      · rw [e]; exact hb
      · rw [List.mem_singleton.mp hd]; exact hc
  have hwh : ∀ z, Sh 3 (whereD rb ts z) := fun z => by
    refine Sh.map fun r hr2 => ?_
    have hrow : Asc r.1 := by
      unfold whereL at hr2
      cases e : aget (standsOf rb ts) z with
      | none => rw [e] at hr2; cases hr2
      | some y =>
        rw [e] at hr2
        have hk : z ∈ (standsOf rb ts).map (·.1) := by
          by_cases q : z ∈ (standsOf rb ts).map (·.1)
          · exact q
          · rw [(aget_none_iff _ _).mpr q] at e; cases e
        obtain ⟨x, h1, h2⟩ := aget_some hk
        rw [h1] at e
        cases e
        exact (stands_asc hr h _ h2).2 r hr2
    exact three ((Sh.str hrow).mono (by decide)) ((Sh.int _).mono (by decide)) (Sh.map fun n _ => Sh.int _)
  have hbeg : ∀ s, Sh 1 (begunD rb ts s) := fun s => Sh.map fun z hz => Sh.str (hw z (List.mem_filter.mp hz).1)
  refine Sh.lst fun d hd => ?_
  rcases List.mem_append.mp hd with hd | hd
  · rcases List.mem_append.mp hd with hd | hd
    · rcases List.mem_append.mp hd with hd | hd
      · rcases List.mem_cons.mp hd with e | hd
        · rw [e]; exact (namesD_sh fun t ht => (h t ht).1).mono (by decide)
        · rcases List.mem_cons.mp hd with e | hd
          · rw [e]; exact Sh.mono (n := 1) (Sh.map fun z hz => Sh.str (hw z hz)) (by decide)
          · rcases List.mem_cons.mp hd with e | hd
            · rw [e]; exact (Sh.int _).mono (by decide)
            · rcases List.mem_cons.mp hd with e | hd
              · rw [e]; exact (hbeg _).mono (by decide)
              · rw [List.mem_singleton.mp hd]; exact (hbeg _).mono (by decide)
      · rw [List.mem_singleton.mp hd]
        exact Sh.mono (n := 5) (Sh.map fun z hz => two ((Sh.str (hw z hz)).mono (by decide)) (hwh z)) (by decide)
    · rw [List.mem_singleton.mp hd]
      exact Sh.mono (n := 3) (Sh.map fun t ht => three ((Sh.str (h t ht).1).mono (by decide)) ((Sh.int _).mono (by decide)) (partsD_sh (h t ht).2)) (by decide)
  · obtain ⟨t, ht, e⟩ := List.mem_map.mp hd
    rw [← e]
    refine Sh.mono (n := 3) (Sh.map fun z hz => ?_) (by decide)
    refine Sh.map fun w hw2 => ?_
    refine Sh.tup fun d hd => ?_
    rcases List.mem_cons.mp hd with e | hd
    · rw [e]; exact Sh.str (words_asc hr ((h t ht).2 z hz) w hw2)
    · rcases List.mem_cons.mp hd with e | hd
      · rw [e]; exact Sh.int _
      · rcases List.mem_cons.mp hd with e | hd
        · rw [e]; exact Sh.int _
        · rw [List.mem_singleton.mp hd]; exact Sh.int _
theorem rbOf_asc {es : List En} {ws : List Str} (h : ∀ e ∈ es, EnOk e) : (rbOf es ws).Asc := fun x i n e => by
  have hk : x ∈ es.map (·.1) := by
    by_cases z : x ∈ es.map (·.1)
    · exact z
    · rw [show (rbOf es ws).tail x = aget es x from rfl, (aget_none_iff es x).mpr z] at e; cases e
  obtain ⟨y, h1, h2⟩ := aget_some hk
  rw [show (rbOf es ws).tail x = aget es x from rfl, h1] at e
  cases e
  have hl : ∀ c ∈ RLET.cps.toList, c < 128 := by decide +kernel
  exact fun c hc => hl c ((h _ h2).b.sgn c hc)
end KR
set_option maxHeartbeats 1000000
namespace KR
open PySem PySem.Spec PyProof.Rows L2
theorem hu64_of {k : Nat} {A : Around} (hr : Room k A) : A.units + 64 < cLine := by have := hr.un; omega
theorem Hou.base2 {K : PySem.W.Frag} {cH cL : Addr} {H0 H H' R : Hp} {p g r : Addr} {n : Nat} {mp : Mp} {u v : HO} (hp0 : H0 p = some u) (hg0 : H0 g = some v) (dm : ∀ a o, H0 a = some o → ∃ u, H a = some u) (s : Same (d2 p g H) H') (sRH : Same R H) (rp : R p = none) (rg : R g = none)
    (h : Hou K cH cL H' (join (join R (nw H0 H)) (nw H H')) p g r n mp) : Hou K cH cL H' (join R (nw H0 H')) p g r n mp := by
  have sR' : Same R H' := fun a o e => s _ _ (d2_of (sRH _ _ e) (ne_of_none e rp) (ne_of_none e rg))
  refine h.ext (fun a o e => ?_) (joinS sR' nw_sub) (join_no rp (nw_at hp0)) (join_no rg (nw_at hg0))
  rcases join_some e with e | ⟨e0, e⟩
  · rcases join_some e with e | ⟨e0, e⟩
    · exact join_l _ _ e
    · obtain ⟨e1, e2⟩ := nw_some e
      unfold join
      rw [e0]
      show nw H0 H' a = some o
      rw [nw_none e1]
      exact s _ _ (d2_of e2 (fun z => by rw [z, hp0] at e1; cases e1) (fun z => by rw [z, hg0] at e1; cases e1))
  · obtain ⟨e1, e2⟩ := nw_some e
    have z0 : H0 a = none := by
      cases q : H0 a with
      | none => rfl
      | some w =>
        obtain ⟨x, hx⟩ := dm _ _ q
        rw [hx] at e1; cases e1
    have zR : R a = none := by
      cases q : R a with
      | none => rfl
      | some w => rw [sRH _ _ q] at e1; cases e1
    unfold join
    rw [zR]
    show nw H0 H' a = some o
    rw [nw_none z0]; exact e2
theorem Hou.wr {K : PySem.W.Frag} {cH cL : Addr} {H0 H R : Hp} {p g r t : Addr} {n : Nat} {mp : Mp} {u v o x : HO} (hp0 : H0 p = some u) (hg0 : H0 g = some v) (ht0 : H0 t = some o) (npt : p ≠ t) (ngt : g ≠ t) (rt : R t = none) (rp : R p = none) (rg : R g = none) (sRH : Same R H)
    (h : Hou K cH cL H (join R (nw H0 H)) p g r n mp) : Hou K cH cL (upd H t x) (join R (nw H0 (upd H t x))) p g r n mp := by
  have s : Same (d2 t t H) (upd H t x) := fun a w e => by
    obtain ⟨e1, e2, _⟩ := d2_some e
    rw [upd_ne e2]; exact e1
  have h2 := h.other s npt npt ngt ngt (join_no rt (nw_at ht0)) (join_no rt (nw_at ht0))
  exact h2.ext (join_mono (nw_upd ht0)) (joinS (fun a w e => by rw [upd_ne (ne_of_none e rt)]; exact sRH _ _ e) nw_sub) (join_no rp (nw_at hp0)) (join_no rg (nw_at hg0))
theorem upM_step (m : List Tx) (z : Str) (x : Option (List Str)) : upM (aget m) z x = aget (stepM m (z, x)) := by
  funext k
  unfold upM stepM
  cases x with
  | none =>
    show _ = aget (dropA m z) k
    rw [aget_dropA]
  | some ps =>
    show _ = aget (putA m z ps) k
    rw [aget_putA]
theorem dropK_put (kv : List (Key × V)) (k : Key) (v : V) : dropK (putK kv k v) k = dropK kv k := by
  unfold putK dropK
  split
  · induction kv with
    | nil => rfl
    | cons p kv ih =>
      rename_i h
      rw [List.map_cons, List.filter_cons, List.filter_cons]
      have hm : ∀ l : List (Key × V), (l.map fun kv => if kv.1 = k then (kv.1, v) else kv).filter (fun kv => decide (kv.1 ≠ k)) = l.filter fun kv => decide (kv.1 ≠ k) := by
        intro l
        induction l with
        | nil => rfl
        | cons q l ih =>
          rw [List.map_cons, List.filter_cons, List.filter_cons, ih]
          by_cases e : q.1 = k
          · simp [e]
          · simp [e]
      rw [hm]
      by_cases e : p.1 = k
      · simp [e]
      · simp [e]
  · rw [List.filter_append]
    simp
theorem mo_of (b : Bool) : ∃ mo : Int, atI [V.int 12, V.int 33] (if b = true then 1 else 0) = some (.int mo) ∧ 1 ≤ mo := by
  cases b
  · exact ⟨12, rfl, by decide⟩
  · exact ⟨33, rfl, by decide⟩
theorem cut_ints (ns : List Int) (lo hi : Nat) : ∃ cs : List Int, cutV (ns.map V.int) (some (lo : Int)) (some (hi : Int)) = cs.map V.int ∧ cs.length ≤ hi - lo ∧ ∀ c ∈ cs, c ∈ ns := by
  unfold cutV
  rw [HT.sIx_nat, HT.sIx_nat, ← List.map_drop, ← List.map_take]
  refine ⟨_, rfl, ?_, fun c hc => List.mem_of_mem_drop (List.mem_of_mem_take hc)⟩
  rw [List.length_take]
  omega
def spLaw (K : PySem.W.Frag) : Sp := fun vs H Q _ => ∃ (a : Addr) (ns : List Int), vs = [.ref a] ∧ SqL K H a (ns.map V.int) ∧ (∀ c ∈ ns, CellOk c) ∧ ns.length ≤ 63 ∧ ∀ H', Q (.bl true) H'
section
variable {P : Program} {w : World} {K : PySem.W.Frag} {mg : Str → Option Value} {base : Heap} {cL cM cH cR cB : Addr}
theorem scLaw : FnScope ["_law_script", "_law_plain", "_law_endings", "_law_silent", "_law_rulebook", "_law_house", "_law_texts", "_law_row", "_law_other", "_law_makes", "_law_due"] ["_law_script"] (defScope sLaw) := ⟨rfl, rfl, rfl, by decide +kernel, rfl, by decide +kernel, by decide +kernel⟩
theorem ok_law {f : Addr} {fd : FuncData} (F0 : Fun K "law" "law" sLaw f fd) (T : Txt K mg cL cM cH cR)
    (cNth : Cal P w K mg base 1 "_law_nth" ["_law_script", "_law_k"] (spNth K)) (cRules : Cal P w K mg base 1 "_law_rules" ["_law_cell"] (spRules K))
    (cRulebook : Mkc P w K mg base cR 3 "Rulebook" ["self", "endings", "silent"] (spRInit K cR)) (cHouse : Mkc P w K mg base cH 1 "House" ["self", "rulebook"] (spHInit K cH cL))
    (cChanges : Cal P w K mg base 4 "_law_changes" ["_law_cells", "_law_plain", "_law_most"] (spChanges K)) (cDone : Cal P w K mg base 6 "_law_done" ["_law_house", "_law_row"] (spDone K cH cL))
    (cRoad : Cal P w K mg base 6 "_law_by_another_road" ["_law_house", "_law_texts", "_law_cell"] (spRoad K cH cL)) (cTold : Cal P w K mg base 4 "_law_told" ["_law_make"] (spTold K cM cR))
    (mMake : Mth P w K mg base cH 7 "make" ["self", "number"] (spMake K cH cL cM cR)) (mNewest : Mth P w K mg base cH 1 "newest" ["self"] (spNewest K cH)) (mPut : Mth P w K mg base cH 5 "put" ["self", "name", "parts"] (spPut K cH cL)) :
    FnOk P w K mg base CX0 8 f fd ["_law_script"] (spLaw K) := by
  refine F0.ok scLaw (fun vs H Q E h => ?_) (fun cdv A outer s H vs Q E hr h => ?_)
  · obtain ⟨a, ns, rfl, _⟩ := h
    rfl
  · obtain ⟨a, ns, rfl, hS, hcs, hlen, k⟩ := h
    have hu := hu_of hr
    have hu64 := hu64_of hr
    have nd := scLaw.nd
    refine ⟨_, (pss_cons (ps_set (i := 1) nd rfl (.inl rfl) (pe_cmpR op_eq (pe_op op_mod (pe_cal cNth (hr.mono (by decide)) (pa_cons (pv 0) (pa_cons pe_int pa_nil))) pe_int) pe_int (nomark _)))
      (pss_cons (ps_asg (pe_cal cRules (hr.mono (by decide)) (pa_cons (pe_cal cNth (hr.mono (by decide)) (pa_cons (pv 0) (pa_cons pe_int pa_nil))) pa_nil)) (pg_tup rfl (pgs_cons (pg_name (i := 2) nd rfl (.inl rfl)) (pgs_cons (pg_name (i := 3) nd rfl (.inl rfl)) pgs_nil))))
      (pss_cons (ps_set (i := 4) nd rfl (.inl rfl) (pe_mkc cRulebook (hr.mono (by decide)) (pa_cons (pv 2) (pa_cons (pv 3) pa_nil))))
      (pss_cons (ps_set (i := 5) nd rfl (.inl rfl) (pe_mkc cHouse (hr.mono (by decide)) (pa_cons (pv 4) pa_nil)))
      (pss_cons (ps_set (i := 6) nd rfl (.inl rfl) pe_dnewK)
      (pss_cons (ps_for PassesOwn.never rfl (pi_list (pe_cal cChanges (hr.mono (by decide)) (pa_cons (pe_slice sl_list (pv 0) (po_some pe_int) (po_some pe_int)) (pa_cons (pv 1) (pa_cons (pe_ix ix_list (pe_lst (pa_cons pe_int (pa_cons pe_int pa_nil))) (pe_callTy call_int1 (by rfl) T.int (by decide +kernel) (pa_cons (pe_cmpR op_eq (pe_op op_mod (pe_op op_fdiv (pe_cal cNth (hr.mono (by decide)) (pa_cons (pv 0) (pa_cons pe_int pa_nil))) pe_int) pe_int) pe_int (nomark _)) pa_nil)) (fun _ _ => rfl)) pa_nil))))) (pg_name (i := 7) nd rfl (.inl rfl))
          (pss_cons (ps_expr (pe_cal cDone (hr.mono (by decide)) (pa_cons (pv 5) (pa_cons (pv 7) pa_nil))))
          (pss_cons (ps_dput hu (pv 6) (pe_ix ix_tup (pv 7) pe_int (fun _ _ => rfl)) (pe_ix ix_tup (pv 7) pe_int (fun _ _ => rfl)) rfl)
          (pss_one (ps_if (pt_cmpR op_isN (pe_ix ix_tup (pv 7) pe_int (fun _ _ => rfl)) pe_non (nomark _)) (pss_one (ps_expr (pe_dpop1 (pv 6) (pe_ix ix_tup (pv 7) pe_int (fun _ _ => rfl)) ⟨rfl, rfl, rfl, rfl⟩))) pss_nil)))))
      (pss_cons (ps_set (i := 8) nd rfl (.inl rfl) (pe_mkc cHouse (hr.mono (by decide)) (pa_cons (pv 4) pa_nil)))
      (pss_cons (ps_expr (pe_cal cRoad (hr.mono (by decide)) (pa_cons (pv 8) (pa_cons (pv 6) (pa_cons (pe_op op_add (pe_cal cNth (hr.mono (by decide)) (pa_cons (pv 0) (pa_cons pe_int pa_nil))) (pe_cal cNth (hr.mono (by decide)) (pa_cons (pv 0) (pa_cons pe_int pa_nil)))) pa_nil)))))
      (pss_cons (ps_set (i := 9) nd rfl (.inl rfl) (pe_lst (pa_cons (pe_mth (pv 5) T.hC mMake hr (pa_cons (pe_mth0 (pv 5) T.hC mNewest (hr.mono (by decide))) pa_nil)) (pa_cons (pe_mth (pv 8) T.hC mMake hr (pa_cons (pe_mth0 (pv 8) T.hC mNewest (hr.mono (by decide))) pa_nil)) pa_nil))))
      (pss_cons (ps_set (i := 10) nd rfl (.inl rfl) (pe_cal cTold (hr.mono (by decide)) (pa_cons (pe_ix ix_list (pv 9) pe_int (fun _ _ => rfl)) pa_nil)))
      (pss_cons (ps_if (PW.pt (pw_or (pt_cmpR (op_neD hu64) (pe_ix ix_list (pv 10) pe_int (fun _ _ => rfl)) (pe_callB (cr_sortDS rfl) (by rfl) T.sorted (by decide +kernel) (pa_cons (pv 6) pa_nil)) (nomark _)) (pw_or1 (pt_cmpR (op_neD hu64) (pe_cal cTold (hr.mono (by decide)) (pa_cons (pe_ix ix_list (pv 9) pe_int (fun _ _ => rfl)) pa_nil)) (pv 10) (nomark _))))) (pss_one (ps_ret pe_bl)) pss_nil)
      (pss_cons (ps_expr (pe_mth (pv 8) T.hC mPut (hr.mono (by decide)) (pa_cons pe_str (pa_cons (pe_tup (pa_cons pe_str (pa_cons pe_str (pa_cons pe_str pa_nil)))) pa_nil))))
      (pss_cons (ps_expr (pe_mth (pv 5) T.hC mPut (hr.mono (by decide)) (pa_cons pe_str (pa_cons (pe_tup (pa_cons pe_str (pa_cons pe_str (pa_cons pe_str pa_nil)))) pa_nil))))
      (pss_one (ps_ret (pe_and (pe_cmpR (op_eqD hu64) (pe_cal cTold (hr.mono (by decide)) (pa_cons (pe_ix ix_list (pv 9) pe_int (fun _ _ => rfl)) pa_nil)) (pv 10) (nomark _)) (pe_one (pe_cmpR (op_eqD hu64) (pe_cal cTold (hr.mono (by decide)) (pa_cons (pe_ix ix_list (pv 9) pe_int (fun _ _ => rfl)) pa_nil)) (pv 10) (nomark _))))))))))))))))))), ?_⟩
    -- plain
    refine ⟨_, rfl, a, ns, 0, rfl, hS, _, _, rfl, rfl, by show (0 : Int) < 2; decide, rfl, ?_⟩
    show (gName 1 (V.bl (decide (V.int (ns.getD 0 0 % 2) = V.int 1))) _ H _ : Prop)
    generalize decide (V.int (ns.getD 0 0 % 2) = V.int 1) = b
    -- rules
    refine ⟨_, rfl, a, ns, 1, rfl, hS, _, rfl, fun H1 tt sx sy es ws xs s1 ht1 hx dx hy oke nde ndw okw hle hlw => ?_⟩
    refine ⟨tt, _, rfl, SqT.of ht1, rfl, _, _, rfl, _, _, rfl, rfl, ?_⟩
    -- the rulebook
    refine ⟨_, rfl, _, rfl, ?_⟩
    intro r dr nr ndr ner
    have sm1 : Same H1 (upd (upd H1 dr (.own r)) r (.ins cR dr [])) := fun b o e => by
      rw [upd_ne (ne_of_none e nr), upd_ne (ne_of_none e ndr)]
      exact e
    refine ⟨H1, r, dr, sx, sy, xs, es, ws, rfl, sm1, nr, upd_same, hx, dx, hy, oke, nde, ndw, okw, hle, hlw, fun H2 s2 RB => ⟨rfl, ?_⟩⟩
    have okrb : (rbOf es ws).Ok := rbOf_ok oke
    have ascrb : (rbOf es ws).Asc := rbOf_asc oke
    have RB2 := RB.mono nw_sub
    generalize rbOf es ws = rb at okrb ascrb RB2
    have s02 := Same.trans s1 s2
    clear RB sm1 nr ndr ner hx dx hy oke nde ndw okw hle hlw
    -- the house
    refine ⟨_, rfl, ?_⟩
    intro p1 dp1 np1 ndp1 nep1
    have sm2 : Same H2 (upd (upd H2 dp1 (.own p1)) p1 (.ins cH dp1 [])) := fun b o e => by
      rw [upd_ne (ne_of_none e np1), upd_ne (ne_of_none e ndp1)]
      exact e
    refine ⟨H2, p1, dp1, r, rfl, sm2, np1, upd_same, fun H3 g1 s3 zg1 Ho => ⟨rfl, ?_⟩⟩
    clear sm2 ndp1 nep1
    have s23 : Same H2 H3 := Same.trans s3 d2_sub
    have s03 := Same.trans s02 s23
    -- texts = {}
    intro t ht3
    have s4 := same_upd (o := .dK []) ht3
    have t4 : (upd H3 t (.dK [])) t = some (.dK []) := upd_same
    have zt2 : H2 t = none := Same.free s23 ht3
    have Ho4 := (Ho 0).mono s4
    obtain ⟨_, _, _, _, _, _, hp3, hg3, _⟩ := (Ho 0).ex
    have npt : p1 ≠ t := ne_of_none hp3 ht3
    have ngt : g1 ≠ t := ne_of_none hg3 ht3
    have hp4 := s4 _ _ hp3
    have hg4 := s4 _ _ hg3
    have s04 := Same.trans s03 s4
    have s24 := Same.trans s23 s4
    have zR4 : (d2 p1 g1 (nw H2 H3)) t = none := Same.free (Same.trans d2_sub nw_sub) ht3
    generalize upd H3 t (.dK []) = H4 at s4 t4 Ho4 hp4 hg4 s04 s24 ⊢
    clear Ho s3 s23 s03
    -- the changes
    obtain ⟨cs, ecs, hcl, hcm⟩ := cut_ints ns 2 42
    refine ⟨_, rfl, 2, rfl, 42, rfl, a, _, rfl, Same.seq s04 hS, fun c0 hc0 => ?_⟩
    show (tCons _ _ _ (upd H4 c0 (.lst (cutV (ns.map V.int) (some ((2 : Nat) : Int)) (some ((42 : Nat) : Int))))) _ : Prop)
    rw [ecs]
    have s5 := same_upd (o := .lst (cs.map V.int)) hc0
    have c5 : (upd H4 c0 (.lst (cs.map V.int))) c0 = some (.lst (cs.map V.int)) := upd_same
    generalize upd H4 c0 (.lst (cs.map V.int)) = H5 at s5 c5 ⊢
    refine ⟨_, rfl, ?_⟩
    refine ⟨by show 2 ≤ sizeLine; decide, fun q hq => ?_⟩
    have s6 := same_upd (o := .lst [.int 12, .int 33]) hq
    have q6 : (upd H5 q (.lst [.int 12, .int 33])) q = some (.lst [.int 12, .int 33]) := upd_same
    have c6 := s6 _ _ c5
    have s46 := Same.trans s5 s6
    refine ⟨_, rfl, a, ns, 0, rfl, Same.seq (Same.trans s04 s46) hS, ?_⟩
    refine ⟨_, _, rfl, rfl, ⟨by decide, by decide⟩, ?_⟩
    refine ⟨_, _, rfl, rfl, by show (0 : Int) < 8; decide, ?_⟩
    refine ⟨rfl, .inr ⟨_, rfl, ?_⟩⟩
    obtain ⟨mo, hmo, hmo1⟩ := mo_of (decide (V.int (ns.getD 0 0 / 2 % 8) = V.int 3))
    refine ⟨q, _, _, .int mo, rfl, rfl, SqL.of q6, hmo, ?_⟩
    refine ⟨c0, cs, b, mo, rfl, SqL.of c6, fun c hc => hcs c (hcm c hc), by omega, hmo1, fun H6 v6 rows s6' okr hlr D6 => ?_⟩
    have s4b : Same H4 H6 := Same.trans s46 s6'
    have hlr40 : rows.length ≤ 40 := by omega
    -- what lies beside the house and the texts
    have hp6 := s4b _ _ hp4
    have hg6 := s4b _ _ hg4
    have t6 := s4b _ _ t4
    have D6' : Dp K (d3 p1 g1 t H6) v6 (.list (rows.map rwD)) := Dp.mono (fun a o e => by
      obtain ⟨e1, e2⟩ := nw_some e
      have s56 := Same.trans s5 s6
      exact d3_of e2 (fun z => by rw [z, s56 _ _ hp4] at e1; cases e1) (fun z => by rw [z, s56 _ _ hg4] at e1; cases e1) (fun z => by rw [z, s56 _ _ t4] at e1; cases e1)) D6
    have RB6 : RbAt cR (d3 p1 g1 t H6) r rb := RB2.mono fun a o e => d3_of (s4b _ _ (s24 _ _ e)) (ne_of_none e np1) (ne_of_none e zg1) (ne_of_none e zt2)
    have R1p : (d3 p1 g1 t H6) p1 = none := by unfold d3; rw [del_ne npt]; exact d2_at1
    have R1g : (d3 p1 g1 t H6) g1 = none := by unfold d3; rw [del_ne ngt]; exact d2_at2
    have R1t : (d3 p1 g1 t H6) t = none := del_same
    have R1s : Same (d3 p1 g1 t H6) H6 := fun a o e => (d3_some e).1
    have Ho6 : Hou K cH cL H6 (d3 p1 g1 t H6) p1 g1 r 0 noMp := (Ho4.mono s4b).ext (fun a o e => by
      obtain ⟨e1, e2, e3⟩ := d2_some e
      have e4 := (Ho4.mono s4b).sub _ _ e
      exact d3_of e4 e2 e3 (ne_of_none e zR4)) R1s R1p R1g
    have hSR : SqL K (d3 p1 g1 t H6) a (ns.map V.int) := Same.seq (fun a o e => d3_of (s4b _ _ (s24 _ _ (s02 _ _ e))) (ne_of_none (s02 _ _ e) np1) (ne_of_none (s02 _ _ e) zg1) (ne_of_none (s02 _ _ e) zt2)) hS
    clear Ho4 D6 RB2 s6' s46 s6 q6 c6 s5 c5 s4 s4b s24 s04 s02 s1 s2 zR4 hp3 hg3 hp4 hg4 t4
    generalize hR1 : d3 p1 g1 t H6 = R1 at D6' RB6 R1p R1g R1t R1s Ho6 hSR
    obtain ⟨rl1, rxs, rfl, qr, dr6⟩ := dp_list D6'
    have hrx : rxs.length = rows.length := by rw [DpAll.length dr6, List.length_map]
    refine ⟨rl1, rfl, ⟨_, Same.seq R1s qr⟩, ?_⟩
    refine for_it (walk_list (xs := rxs)) (fun i σ H' => ∃ (x7 : Option V) (kv : List (Key × V)), σ = [some (.ref a), some (.bl b), some (.ref sx), some (.ref sy), some (.ref r), some (.ref p1), some (.ref t), x7, none, none, none] ∧ (∀ a o, H6 a = some o → ∃ u, H' a = some u) ∧ Same R1 H' ∧ Hou K cH cL H' (join R1 (nw H6 H')) p1 g1 r i (aget (mOf (rows.take i))) ∧ H' t = some (.dK kv) ∧ DkAll K R1 kv (txD (mOf (rows.take i))))
      ⟨none, [], rfl, fun a o e => ⟨o, e⟩, R1s, ?_, t6, .nil⟩ (fun i σ H' _ ⟨_, _, _, _, q, _⟩ => Same.seq q qr) ?_ ?_
    · have e : aget (mOf (rows.take 0)) = noMp := rfl
      rw [e]
      exact Ho6.ext (fun a o e => join_l _ _ e) (joinS R1s nw_sub) (join_no R1p (nw_at hp6)) (join_no R1g (nw_at hg6))
    · rintro i x σ H7 H8 hi ⟨x7, kv, rfl, dm, sR, HoH, tH, dkH⟩ ⟨eH, ex⟩
      subst eH
      obtain ⟨rw1, er, drw⟩ := dpall_map dr6 ex
      obtain ⟨z, opt⟩ := rw1
      obtain ⟨ar, ys, rfl, qa, da⟩ := dp_tup drw
      obtain ⟨v, rfl, dv⟩ : ∃ v, ys = [.str z, v] ∧ Dp K R1 v (optD opt) := by
        cases da with
        | cons d1 da =>
          cases da with
          | cons d2' da =>
            cases da
            cases d1
            exact ⟨_, rfl, d2'⟩
      have hm := List.mem_of_getElem? er
      have okz : NameOk z := okr.nm _ hm
      have okp : ∀ ps, opt = some ps → PartsOk ps := okr.pt _ hm
      have hi2 : i < rows.length := (List.getElem?_eq_some_iff.mp er).1
      have hmi := mOf_ok okr i (Nat.le_of_lt hi2)
      have hkl : kv.length ≤ i := by rw [dkH.len]; unfold txD; rw [List.length_map]; exact hmi.few
      have e1 : rows.take (i + 1) = rows.take i ++ [(z, opt)] := by
        obtain ⟨hi, e⟩ := List.getElem?_eq_some_iff.mp er
        rw [List.take_succ_eq_append_getElem hi, e]
      refine ⟨_, rfl, _, rfl, join R1 (nw H6 H8), p1, g1, r, ar, i, _, z, v, opt, rfl, Same.tup sR qa, HoH, okz, Dp.mono (fun _ _ e => join_l _ _ e) dv, okp, (fun e => by subst e; exact okr.tk i z er), by omega, fun H9 j s9 Ho9 => ?_⟩
      obtain ⟨_, _, _, _, _, _, hp9, hg9, _⟩ := Ho9.ex
      have Ho9' := Ho9.base2 hp6 hg6 dm s9 sR R1p R1g
      have t9 : H9 t = some (.dK kv) := s9 _ _ (d2_of tH npt.symm ngt.symm)
      have sR9 : Same R1 H9 := fun a o e => s9 _ _ (d2_of (sR _ _ e) (ne_of_none e R1p) (ne_of_none e R1g))
      have dm9 : ∀ a o, H6 a = some o → ∃ u, H9 a = some u := fun a o e => by
        by_cases ap : a = p1
        · exact ⟨_, ap ▸ hp9⟩
        · by_cases ag : a = g1
          · exact ⟨_, ag ▸ hg9⟩
          · obtain ⟨u, hu⟩ := dm a o e
            exact ⟨u, s9 _ _ (d2_of hu ap ag)⟩
      refine ⟨_, rfl, ar, _, 1, v, rfl, rfl, Same.tup sR9 qa, rfl, _, rfl, _, rfl, ar, _, 0, .str z, rfl, rfl, Same.tup sR9 qa, rfl, t, _, rfl, DPut.k (k := Sum.inr z) t9 (small_sz (by omega)), ?_⟩
      have Ho10 := Ho9'.wr (x := .dK (putK kv (.inr z) v)) hp6 hg6 t6 npt ngt R1t R1p R1g sR9
      have t10 : (upd H9 t (.dK (putK kv (.inr z) v))) t = some (.dK (putK kv (.inr z) v)) := upd_same
      have sR10 : Same R1 (upd H9 t (.dK (putK kv (.inr z) v))) := same_wr sR9 R1t
      have dm10 : ∀ a o, H6 a = some o → ∃ u, (upd H9 t (.dK (putK kv (.inr z) v))) a = some u := dm_upd dm9
      generalize upd H9 t (.dK (putK kv (.inr z) v)) = H10 at Ho10 t10 sR10 dm10 ⊢
      rw [upM_step, ← mOf_snoc, ← e1] at Ho10
      refine ⟨_, rfl, ar, _, 1, v, rfl, rfl, Same.tup sR10 qa, rfl, rfl, _, rfl, ?_⟩
      cases opt with
      | none =>
        cases dv
        refine ifdT rfl ?_
        refine ⟨_, rfl, t, rfl, .inl ⟨_, .inl t10⟩, _, rfl, ar, _, 0, .str z, rfl, rfl, Same.tup sR10 qa, rfl, _, .inr z, .non, t10, rfl, by rw [valV_put, if_pos rfl], ?_⟩
        rw [dropK_put]
        have Ho11 := Ho10.wr (x := .dK (dropK kv (.inr z))) hp6 hg6 t6 npt ngt R1t R1p R1g sR10
        refine ⟨_, dropK kv (.inr z), rfl, dm_upd dm10, same_wr sR10 R1t, Ho11, upd_same, ?_⟩
        rw [e1, mOf_snoc]
        show DkAll K R1 _ (txD (dropA _ z))
        unfold txD
        rw [← dropA_map partsD]
        exact dkH.drop z
      | some ps =>
        obtain ⟨vb, vys, rfl, _, _⟩ := dp_tup (show Dp K R1 v (.tuple (ps.map PyData.str)) from dv)
        refine ifdF (by intro e; cases e) ?_
        refine ⟨_, _, rfl, dm10, sR10, Ho10, t10, ?_⟩
        rw [e1, mOf_snoc]
        show DkAll K R1 _ (txD (putA _ z ps))
        unfold txD
        rw [← putA_map partsD]
        exact dkH.put z dv
    · rintro σ H7 ⟨x7, kv, rfl, dm, sR7, HoA, t7, dk7⟩
      rw [hrx, List.take_length] at HoA dk7
      have hmk := mOf_all okr
      generalize mOf rows = m at HoA dk7 hmk
      generalize rows.length = n7 at HoA hmk hlr40
      have hmk40 : MapOk m 40 := ⟨hmk.nd, hmk.nm, hmk.pt, Nat.le_trans hmk.few hlr40⟩
      have okt : TxOk m := ⟨hmk.nd, by have := hmk.few; omega, hmk.pt⟩
      have Rap : (join R1 (nw H6 H7)) p1 = none := HoA.rp
      have Rag : (join R1 (nw H6 H7)) g1 = none := HoA.rg
      have Ras : Same (join R1 (nw H6 H7)) H7 := HoA.sub
      have RBa : RbAt cR (join R1 (nw H6 H7)) r rb := RB6.mono fun _ _ e => join_l _ _ e
      generalize join R1 (nw H6 H7) = Ra at HoA Rap Rag Ras RBa
      obtain ⟨_, _, _, _, _, _, hp7, hg7, _⟩ := HoA.ex
      -- the other house
      refine ⟨_, rfl, ?_⟩
      intro p2 dp2 np2 ndp2 nep2
      have sm : Same H7 (upd (upd H7 dp2 (.own p2)) p2 (.ins cH dp2 [])) := fun b o e => by
        rw [upd_ne (ne_of_none e np2), upd_ne (ne_of_none e ndp2)]
        exact e
      refine ⟨H7, p2, dp2, r, rfl, sm, np2, upd_same, fun H8 g2 s8 zg2 Ho2 => ⟨rfl, ?_⟩⟩
      have s78 : Same H7 H8 := Same.trans s8 d2_sub
      have n12 : p1 ≠ p2 := ne_of_none hp7 np2
      have n1g : p1 ≠ g2 := ne_of_none hp7 zg2
      have ng2 : g1 ≠ p2 := ne_of_none hg7 np2
      have ngg : g1 ≠ g2 := ne_of_none hg7 zg2
      have Ra2 : Ra p2 = none := Same.free Ras np2
      have Rag2 : Ra g2 = none := Same.free Ras zg2
      have R1p2 : R1 p2 = none := Same.free sR7 np2
      have R1g2 : R1 g2 = none := Same.free sR7 zg2
      have HoA8 := HoA.mono s78
      have hp8 := s78 _ _ hp7
      have hg8 := s78 _ _ hg7
      have t8 := s78 _ _ t7
      have sR8 := Same.trans sR7 s78
      -- the other house's region
      have HoB8 : Hou K cH cL H8 (join R1 (d2 p2 g2 (nw H7 H8))) p2 g2 r 0 noMp := (Ho2 0).ext (join_r fun a o u e1 e2 => by
        obtain ⟨e3, _⟩ := d2_some e2
        rw [nw_at (sR7 _ _ e1)] at e3; cases e3) (joinS sR8 (Same.trans d2_sub nw_sub)) (join_no R1p2 d2_at1) (join_no R1g2 d2_at2)
      have Rbp1 : (join R1 (d2 p2 g2 (nw H7 H8))) p1 = none := join_no R1p (by
        cases q : d2 p2 g2 (nw H7 H8) p1 with
        | none => rfl
        | some u => obtain ⟨e3, _⟩ := d2_some q; rw [nw_at hp7] at e3; cases e3)
      have Rbg1 : (join R1 (d2 p2 g2 (nw H7 H8))) g1 = none := join_no R1g (by
        cases q : d2 p2 g2 (nw H7 H8) g1 with
        | none => rfl
        | some u => obtain ⟨e3, _⟩ := d2_some q; rw [nw_at hg7] at e3; cases e3)
      have dkb : DkAll K (join R1 (d2 p2 g2 (nw H7 H8))) kv (txD m) := dk7.mono fun _ _ e => join_l _ _ e
      have RBb : RbAt cR (join R1 (d2 p2 g2 (nw H7 H8))) r rb := RB6.mono fun _ _ e => join_l _ _ e
      generalize join R1 (d2 p2 g2 (nw H7 H8)) = Rb0 at HoB8 Rbp1 Rbg1 dkb RBb
      refine ⟨_, rfl, _, rfl, _, rfl, a, ns, 42, rfl, Same.seq sR8 hSR, _, rfl, a, ns, 1, rfl, Same.seq sR8 hSR, _, _, rfl, rfl, ?_⟩
      refine ⟨Rb0, p2, g2, r, t, _, m, kv, rfl, HoB8, t8, dkb, hmk40, fun H9 n9 s9 hn9 HoB => ?_⟩
      have HoA9 := HoA8.other s9 n12 n1g ng2 ngg Ra2 Rag2
      have RBb9 : RbAt cR (join Rb0 (nw H8 H9)) r rb := RBb.mono fun _ _ e => join_l _ _ e
      have Rcp1 : (join Rb0 (nw H8 H9)) p1 = none := join_no Rbp1 (nw_at hp8)
      have Rcg1 : (join Rb0 (nw H8 H9)) g1 = none := join_no Rbg1 (nw_at hg8)
      have t9 : H9 t = some (.dK kv) := s9 _ _ (d2_of t8 (ne_of_none t7 np2) (ne_of_none t7 zg2))
      generalize join Rb0 (nw H8 H9) = Rc at HoB RBb9 Rcp1 Rcg1
      have Rcp2 : Rc p2 = none := HoB.rp
      have Rcg2 : Rc g2 = none := HoB.rg
      clear HoA8 HoB8 Ho2 HoA Ho6 s8 s78 sm
      -- the makes
      obtain ⟨dxa, ea, gsa, La, _, _, hp9, hg9, _⟩ := HoA9.ex
      refine ⟨_, rfl, p1, dxa, _, rfl, hp9, hF_no _ _ _ (by decide +kernel) (by decide +kernel) (by decide +kernel), _, rfl, p1, dxa, _, rfl, hp9, hF_no _ _ _ (by decide +kernel) (by decide +kernel) (by decide +kernel), p1, dxa, r, g1, ea, _, rfl, hp9, hg9, ?_⟩
      refine ⟨Ra, p1, g1, r, n7, rb, m, _, rfl, HoA9, hg9, RBa, okrb, okt, by omega, fun H10 b1 s10 B1 => ?_⟩
      have HoB10 := HoB.mono s10
      obtain ⟨dxb, eb, gsb, Lb, _, _, hp10, hg10, _⟩ := HoB10.ex
      refine ⟨_, rfl, p2, dxb, _, rfl, hp10, hF_no _ _ _ (by decide +kernel) (by decide +kernel) (by decide +kernel), _, rfl, p2, dxb, _, rfl, hp10, hF_no _ _ _ (by decide +kernel) (by decide +kernel) (by decide +kernel), p2, dxb, r, g2, eb, _, rfl, hp10, hg10, ?_⟩
      refine ⟨Rc, p2, g2, r, n9, rb, m, _, rfl, HoB10, hg10, RBb9, okrb, okt, by omega, fun H11 b2 s11 B2 => ?_⟩
      obtain ⟨_, _, _, _, _, _, hq9, hh9, _⟩ := HoB.ex
      have G1s : Same (join Ra (nw H9 H10)) H10 := joinS (Same.trans HoA9.sub s10) nw_sub
      have G1p1 : (join Ra (nw H9 H10)) p1 = none := join_no Rap (nw_at hp9)
      have G1g1 : (join Ra (nw H9 H10)) g1 = none := join_no Rag (nw_at hg9)
      have G1p2 : (join Ra (nw H9 H10)) p2 = none := join_no Ra2 (nw_at hq9)
      have G1g2 : (join Ra (nw H9 H10)) g2 = none := join_no Rag2 (nw_at hh9)
      have G2s : Same (join Rc (nw H10 H11)) H11 := joinS (Same.trans HoB10.sub s11) nw_sub
      have G2p1 : (join Rc (nw H10 H11)) p1 = none := join_no Rcp1 (nw_at (s10 _ _ hp9))
      have G2g1 : (join Rc (nw H10 H11)) g1 = none := join_no Rcg1 (nw_at (s10 _ _ hg9))
      have G2p2 : (join Rc (nw H10 H11)) p2 = none := join_no Rcp2 (nw_at hp10)
      have G2g2 : (join Rc (nw H10 H11)) g2 = none := join_no Rcg2 (nw_at hg10)
      generalize join Ra (nw H9 H10) = G1 at B1 G1s G1p1 G1g1 G1p2 G1g2
      generalize join Rc (nw H10 H11) = G2 at B2 G2s G2p1 G2g1 G2p2 G2g2
      have s911 := Same.trans s10 s11
      have HoA11 := HoA9.mono s911
      have HoB11 := HoB10.mono s11
      have t11 := s911 _ _ t9
      have G1s11 := Same.trans G1s s11
      refine ⟨by show 2 ≤ sizeLine; decide, fun lm hlm => ?_⟩
      have s12 := same_upd (o := .lst [.ref b1, .ref b2]) hlm
      have l12 : (upd H11 lm (.lst [.ref b1, .ref b2])) lm = some (.lst [.ref b1, .ref b2]) := upd_same
      have HoA12 := HoA11.mono s12
      have HoB12 := HoB11.mono s12
      have t12 := s12 _ _ t11
      have G1s12 := Same.trans G1s11 s12
      have G2s12 := Same.trans G2s s12
      have lmp1 : lm ≠ p1 := by obtain ⟨_, _, _, _, _, _, h, _⟩ := HoA11.ex; exact (ne_of_none h hlm).symm
      have lmg1 : lm ≠ g1 := by obtain ⟨_, _, _, _, _, _, _, h, _⟩ := HoA11.ex; exact (ne_of_none h hlm).symm
      have lmp2 : lm ≠ p2 := by obtain ⟨_, _, _, _, _, _, h, _⟩ := HoB11.ex; exact (ne_of_none h hlm).symm
      have lmg2 : lm ≠ g2 := by obtain ⟨_, _, _, _, _, _, _, h, _⟩ := HoB11.ex; exact (ne_of_none h hlm).symm
      show (gName 9 (V.ref lm) _ (upd H11 lm (.lst [.ref b1, .ref b2])) _ : Prop)
      generalize upd H11 lm (.lst [.ref b1, .ref b2]) = H12 at l12 HoA12 HoB12 t12 G1s12 G2s12 ⊢
      clear HoA9 HoA11 HoB10 HoB11 HoB s12 s911 s10 s11 G1s G1s11 G2s t11 t9 t8 t7 hp9 hg9 hp10 hg10 hq9 hh9
      have okts : TsOk (sortedTx m) := TsOk.of okt
      have ascts : ∀ t ∈ sortedTx m, Asc t.1 ∧ ∀ z ∈ t.2, Asc z := fun t ht => by
        have hm := sortedTx_mem ht
        exact ⟨(hmk.nm t hm).asc, fun z hz => ((hmk.pt t hm).each z hz).asc⟩
      have hsh := (told_sh ascrb ascts).ok (by decide)
      have heq : PyData.eqv (toldD rb (sortedTx m)) (toldD rb (sortedTx m)) = true := SeqAt.eqv_refl _ (told_sh ascrb ascts).1
      -- due
      refine ⟨_, rfl, lm, _, 0, .ref b1, rfl, rfl, SqL.of l12, rfl, G1, b1, rb, sortedTx m, rfl, G1s12, B1, okrb, okts, fun H13 due s13 D13 => ?_⟩
      have GDs : Same (join G1 (nw H12 H13)) H13 := joinS (Same.trans G1s12 s13) nw_sub
      obtain ⟨_, _, _, _, _, _, hp12, hg12, _⟩ := HoA12.ex
      obtain ⟨_, _, _, _, _, _, hq12, hh12, _⟩ := HoB12.ex
      have GDp1 : (join G1 (nw H12 H13)) p1 = none := join_no G1p1 (nw_at hp12)
      have GDg1 : (join G1 (nw H12 H13)) g1 = none := join_no G1g1 (nw_at hg12)
      have GDp2 : (join G1 (nw H12 H13)) p2 = none := join_no G1p2 (nw_at hq12)
      have GDg2 : (join G1 (nw H12 H13)) g2 = none := join_no G1g2 (nw_at hh12)
      generalize join G1 (nw H12 H13) = GD at D13 GDs GDp1 GDg1 GDp2 GDg2
      have G1s13 := Same.trans G1s12 s13
      have G2s13 := Same.trans G2s12 s13
      have HoA13 := HoA12.mono s13
      have HoB13 := HoB12.mono s13
      have t13 := s13 _ _ t12
      have l13 := s13 _ _ l12
      clear HoA12 HoB12 t12 l12 hp12 hg12 hq12 hh12
      -- due[0] != sorted(texts)
      obtain ⟨ld, lds, rfl, qld, dld⟩ := dp_list (show Dp K GD due (.list _) from D13)
      obtain ⟨v0, hv0, dv0⟩ : ∃ v0, lds[0]? = some v0 ∧ Dp K GD v0 (namesD (sortedTx m)) := by
        cases dld with
        | cons h _ => exact ⟨_, rfl, h⟩
      refine ⟨_, rfl, ld, _, 0, v0, rfl, rfl, Same.seq GDs qld, atI_nat (j := 0) hv0, ?_⟩
      refine ⟨_, rfl, t, kv, m.map (·.1), rfl, .inl t13, keysR dk7, fun sq hsq => ?_⟩
      have s14 := same_upd (o := .lst ((ssort (m.map (·.1))).map V.str)) hsq
      have e14 : namesD (sortedTx m) = .list ((ssort (m.map (·.1))).map PyData.str) := by
        unfold namesD
        rw [← sortedTx_names, List.map_map]; rfl
      have D14 : Dp K (upd H13 sq (.lst ((ssort (m.map (·.1))).map V.str))) (.ref sq) (namesD (sortedTx m)) := by
        rw [e14]
        exact .lst (SqL.of upd_same) (DpAll.strs _)
      have hnsh := namesD_sh (ts := sortedTx m) fun t ht => (ascts t ht).1
      refine ⟨_, _, Dp.mono (Same.trans GDs s14) dv0, D14, hnsh.ok (by decide), hnsh.ok (by decide), _, rfl, ?_⟩
      refine ifbF (by rw [SeqAt.eqv_refl _ hnsh.1]; rfl) ?_
      generalize upd H13 sq (.lst ((ssort (m.map (·.1))).map V.str)) = H14 at s14
      -- told(makes[1]) != due
      refine ⟨_, rfl, lm, _, 1, .ref b2, rfl, rfl, SqL.of (s14 _ _ l13), rfl, G2, b2, rb, sortedTx m, rfl, Same.trans G2s13 s14, B2, okrb, okts, fun H15 v15 s15 D15 => ?_⟩
      have s1315 := Same.trans s14 s15
      have G2s15 := Same.trans G2s13 s1315
      refine ⟨_, rfl, _, _, Dp.mono (joinS G2s15 nw_sub) D15, Dp.mono (Same.trans GDs s1315) D13, hsh, hsh, _, rfl, ?_⟩
      refine ifbF (by rw [heq]; rfl) ?_
      have G1s15 := Same.trans G1s13 s1315
      have GDs15 := Same.trans GDs s1315
      have HoA15 := HoA13.mono s1315
      have HoB15 := HoB13.mono s1315
      have l15 := s1315 _ _ l13
      clear HoA13 HoB13 l13 t13 D14 D15 s14 s15 s1315 qld dld G1s13 G2s13 G1s12 G2s12 s13
      -- other.put
      obtain ⟨dx5, e5, _, _, _, _, hq15, hh15, _⟩ := HoB15.ex
      refine ⟨_, rfl, p2, dx5, _, rfl, hq15, hF_no _ _ _ (by decide +kernel) (by decide +kernel) (by decide +kernel), by show 3 ≤ sizeLine; decide, fun q5 hq5 => ?_⟩
      have s16 := same_upd (o := .tup [.str "cat", .str "", .str ""]) hq5
      have HoB16 : Hou K cH cL (upd H15 q5 (.tup [.str "cat", .str "", .str ""])) (join Rc (nw H15 (upd H15 q5 (.tup [.str "cat", .str "", .str ""])))) p2 g2 r n9 (aget m) := (HoB15.mono s16).ext (fun _ _ e => join_l _ _ e) (joinS (Same.trans HoB15.sub s16) nw_sub) (join_no Rcp2 (nw_at hq15)) (join_no Rcg2 (nw_at hh15))
      have lq5 : Dp K (join Rc (nw H15 (upd H15 q5 (.tup [.str "cat", .str "", .str ""])))) (.ref q5) (partsD ["cat", "", ""]) := .tup (SqT.of (in_new HoB15.sub hq5 upd_same)) (.cons (.str _) (.cons (.str _) (.cons (.str _) .nil)))
      refine ⟨_, p2, g2, r, n9, _, "zzzzzzzy", _, ["cat", "", ""], rfl, HoB16, frees_ok _ (by decide +kernel), lq5, litC, by omega, fun H17 i17 s17 _ => ?_⟩
      have s1517 : Same (d2 p2 g2 H15) H17 := Same.trans (d2_mono s16) s17
      have HoA17 := HoA15.other s1517 n12 n1g ng2 ngg Ra2 Rag2
      have up17 : ∀ {G : Hp}, Same G H15 → G p2 = none → G g2 = none → Same G H17 := fun s h1 h2 => fun a o e => s1517 _ _ (d2_of (s _ _ e) (ne_of_none e h1) (ne_of_none e h2))
      have G1s17 := up17 G1s15 G1p2 G1g2
      have G2s17 := up17 G2s15 G2p2 G2g2
      have GDs17 := up17 GDs15 GDp2 GDg2
      have l17 : H17 lm = some (.lst [.ref b1, .ref b2]) := s1517 _ _ (d2_of l15 lmp2 lmg2)
      clear HoA15 HoB15 HoB16 lq5 s16 s17 s1517 up17 G1s15 G2s15 GDs15 l15
      -- house.put
      obtain ⟨dx6, e6, _, _, _, _, hp17, hg17, _⟩ := HoA17.ex
      refine ⟨_, rfl, p1, dx6, _, rfl, hp17, hF_no _ _ _ (by decide +kernel) (by decide +kernel) (by decide +kernel), by show 3 ≤ sizeLine; decide, fun q6 hq6 => ?_⟩
      have s18 := same_upd (o := .tup [.str "", .str "cat", .str ""]) hq6
      have HoA18 : Hou K cH cL (upd H17 q6 (.tup [.str "", .str "cat", .str ""])) (join Ra (nw H17 (upd H17 q6 (.tup [.str "", .str "cat", .str ""])))) p1 g1 r n7 (aget m) := (HoA17.mono s18).ext (fun _ _ e => join_l _ _ e) (joinS (Same.trans HoA17.sub s18) nw_sub) (join_no Rap (nw_at hp17)) (join_no Rag (nw_at hg17))
      have lq6 : Dp K (join Ra (nw H17 (upd H17 q6 (.tup [.str "", .str "cat", .str ""])))) (.ref q6) (partsD ["", "cat", ""]) := .tup (SqT.of (in_new HoA17.sub hq6 upd_same)) (.cons (.str _) (.cons (.str _) (.cons (.str _) .nil)))
      refine ⟨_, p1, g1, r, n7, _, "zzzzzzzx", _, ["", "cat", ""], rfl, HoA18, frees_ok _ (by decide +kernel), lq6, litD, by omega, fun H19 i19 s19 _ => ?_⟩
      have s1719 : Same (d2 p1 g1 H17) H19 := Same.trans (d2_mono s18) s19
      have up19 : ∀ {G : Hp}, Same G H17 → G p1 = none → G g1 = none → Same G H19 := fun s h1 h2 => fun a o e => s1719 _ _ (d2_of (s _ _ e) (ne_of_none e h1) (ne_of_none e h2))
      have G1s19 := up19 G1s17 G1p1 G1g1
      have G2s19 := up19 G2s17 G2p1 G2g1
      have GDs19 := up19 GDs17 GDp1 GDg1
      have l19 : H19 lm = some (.lst [.ref b1, .ref b2]) := s1719 _ _ (d2_of l17 lmp1 lmg1)
      -- the answer
      refine ⟨_, rfl, lm, _, 0, .ref b1, rfl, rfl, SqL.of l19, rfl, G1, b1, rb, sortedTx m, rfl, G1s19, B1, okrb, okts, fun H20 v20 s20 D20 => ?_⟩
      refine ⟨_, rfl, _, _, Dp.mono (joinS (Same.trans G1s19 s20) nw_sub) D20, Dp.mono (Same.trans GDs19 s20) D13, hsh, hsh, _, rfl, ?_⟩
      refine ifbT heq ?_
      refine ⟨_, rfl, lm, _, 1, .ref b2, rfl, rfl, SqL.of (s20 _ _ l19), rfl, G2, b2, rb, sortedTx m, rfl, Same.trans G2s19 s20, B2, okrb, okts, fun H21 v21 s21 D21 => ?_⟩
      have s1921 := Same.trans s20 s21
      refine ⟨_, rfl, _, _, Dp.mono (joinS (Same.trans G2s19 s1921) nw_sub) D21, Dp.mono (Same.trans GDs19 s1921) D13, hsh, hsh, ?_⟩
      rw [heq]
      exact k H21
end
end KR
set_option maxHeartbeats 4000000
namespace KR
open PySem PySem.Spec PyProof.Rows L2
theorem all_mk {l : PySem.W.OpenLaw} {w : World} {K : PySem.W.Frag} {h : Heap} {mg : Str → Option Value} {fa cL cM cH cR cB : Addr} (X : K.In h) (G : h.Ns mainGlobals mg) (hfa : mg "law" = some (.ref fa))
    {f_runs : Addr} {od_runs an_runs : Option Addr} {sl_runs : Array (Option Value)} {oc_runs kV_runs dc_runs pm_runs cd_runs ct_runs : Value}
    {f_sil : Addr} {od_sil an_sil : Option Addr} {sl_sil : Array (Option Value)} {oc_sil kV_sil dc_sil pm_sil cd_sil ct_sil : Value}
    {f_bro : Addr} {od_bro an_bro : Option Addr} {sl_bro : Array (Option Value)} {oc_bro kV_bro dc_bro pm_bro cd_bro ct_bro : Value}
    {f_words : Addr} {od_words an_words : Option Addr} {sl_words : Array (Option Value)} {oc_words kV_words dc_words pm_words cd_words ct_words : Value}
    {f_lay : Addr} {od_lay an_lay : Option Addr} {sl_lay : Array (Option Value)} {oc_lay kV_lay dc_lay pm_lay cd_lay ct_lay : Value}
    {f_binit : Addr} {od_binit an_binit : Option Addr} {sl_binit : Array (Option Value)} {oc_binit kV_binit dc_binit pm_binit cd_binit ct_binit : Value}
    {f_minit : Addr} {od_minit an_minit : Option Addr} {sl_minit : Array (Option Value)} {oc_minit kV_minit dc_minit pm_minit cd_minit ct_minit : Value}
    {f_bnames : Addr} {od_bnames an_bnames : Option Addr} {sl_bnames : Array (Option Value)} {oc_bnames kV_bnames dc_bnames pm_bnames cd_bnames ct_bnames : Value}
    {f_bwords : Addr} {od_bwords an_bwords : Option Addr} {sl_bwords : Array (Option Value)} {oc_bwords kV_bwords dc_bwords pm_bwords cd_bwords ct_bwords : Value}
    {f_btotal : Addr} {od_btotal an_btotal : Option Addr} {sl_btotal : Array (Option Value)} {oc_btotal kV_btotal dc_btotal pm_btotal cd_btotal ct_btotal : Value}
    {f_bbegun : Addr} {od_bbegun an_bbegun : Option Addr} {sl_bbegun : Array (Option Value)} {oc_bbegun kV_bbegun dc_bbegun pm_bbegun cd_bbegun ct_bbegun : Value}
    {f_want : Addr} {od_want an_want : Option Addr} {sl_want : Array (Option Value)} {oc_want kV_want dc_want pm_want cd_want ct_want : Value}
    {f_blength : Addr} {od_blength an_blength : Option Addr} {sl_blength : Array (Option Value)} {oc_blength kV_blength dc_blength pm_blength cd_blength ct_blength : Value}
    {f_bparts : Addr} {od_bparts an_bparts : Option Addr} {sl_bparts : Array (Option Value)} {oc_bparts kV_bparts dc_bparts pm_bparts cd_bparts ct_bparts : Value}
    {f_bwin : Addr} {od_bwin an_bwin : Option Addr} {sl_bwin : Array (Option Value)} {oc_bwin kV_bwin dc_bwin pm_bwin cd_bwin ct_bwin : Value}
    {f_bwhere : Addr} {od_bwhere an_bwhere : Option Addr} {sl_bwhere : Array (Option Value)} {oc_bwhere kV_bwhere dc_bwhere pm_bwhere cd_bwhere ct_bwhere : Value}
    {f_linit : Addr} {od_linit an_linit : Option Addr} {sl_linit : Array (Option Value)} {oc_linit kV_linit dc_linit pm_linit cd_linit ct_linit : Value}
    {f_lnames : Addr} {od_lnames an_lnames : Option Addr} {sl_lnames : Array (Option Value)} {oc_lnames kV_lnames dc_lnames pm_lnames cd_lnames ct_lnames : Value}
    {f_lgone : Addr} {od_lgone an_lgone : Option Addr} {sl_lgone : Array (Option Value)} {oc_lgone kV_lgone dc_lgone pm_lgone cd_lgone ct_lgone : Value}
    {f_ltexts : Addr} {od_ltexts an_ltexts : Option Addr} {sl_ltexts : Array (Option Value)} {oc_ltexts kV_ltexts dc_ltexts pm_ltexts cd_ltexts ct_ltexts : Value}
    {f_pour : Addr} {od_pour an_pour : Option Addr} {sl_pour : Array (Option Value)} {oc_pour kV_pour dc_pour pm_pour cd_pour ct_pour : Value}
    {f_low : Addr} {od_low an_low : Option Addr} {sl_low : Array (Option Value)} {oc_low kV_low dc_low pm_low cd_low ct_low : Value}
    {f_isname : Addr} {od_isname an_isname : Option Addr} {sl_isname : Array (Option Value)} {oc_isname kV_isname dc_isname pm_isname cd_isname ct_isname : Value}
    {f_areparts : Addr} {od_areparts an_areparts : Option Addr} {sl_areparts : Array (Option Value)} {oc_areparts kV_areparts dc_areparts pm_areparts cd_areparts ct_areparts : Value}
    {f_htexts : Addr} {od_htexts an_htexts : Option Addr} {sl_htexts : Array (Option Value)} {oc_htexts kV_htexts dc_htexts pm_htexts cd_htexts ct_htexts : Value}
    {f_hinit : Addr} {od_hinit an_hinit : Option Addr} {sl_hinit : Array (Option Value)} {oc_hinit kV_hinit dc_hinit pm_hinit cd_hinit ct_hinit : Value}
    {f_newest : Addr} {od_newest an_newest : Option Addr} {sl_newest : Array (Option Value)} {oc_newest kV_newest dc_newest pm_newest cd_newest ct_newest : Value}
    {f_hlayers : Addr} {od_hlayers an_hlayers : Option Addr} {sl_hlayers : Array (Option Value)} {oc_hlayers kV_hlayers dc_hlayers pm_hlayers cd_hlayers ct_hlayers : Value}
    {f_changed : Addr} {od_changed an_changed : Option Addr} {sl_changed : Array (Option Value)} {oc_changed kV_changed dc_changed pm_changed cd_changed ct_changed : Value}
    {f_put : Addr} {od_put an_put : Option Addr} {sl_put : Array (Option Value)} {oc_put kV_put dc_put pm_put cd_put ct_put : Value}
    {f_take : Addr} {od_take an_take : Option Addr} {sl_take : Array (Option Value)} {oc_take kV_take dc_take pm_take cd_take ct_take : Value}
    {f_make : Addr} {od_make an_make : Option Addr} {sl_make : Array (Option Value)} {oc_make kV_make dc_make pm_make cd_make ct_make : Value}
    {f_ruleof : Addr} {od_ruleof an_ruleof : Option Addr} {sl_ruleof : Array (Option Value)} {oc_ruleof kV_ruleof dc_ruleof pm_ruleof cd_ruleof ct_ruleof : Value}
    {f_rulefits : Addr} {od_rulefits an_rulefits : Option Addr} {sl_rulefits : Array (Option Value)} {oc_rulefits kV_rulefits dc_rulefits pm_rulefits cd_rulefits ct_rulefits : Value}
    {f_rinit : Addr} {od_rinit an_rinit : Option Addr} {sl_rinit : Array (Option Value)} {oc_rinit kV_rinit dc_rinit pm_rinit cd_rinit ct_rinit : Value}
    {f_nth : Addr} {od_nth an_nth : Option Addr} {sl_nth : Array (Option Value)} {oc_nth kV_nth dc_nth pm_nth cd_nth ct_nth : Value}
    {f_tape : Addr} {od_tape an_tape : Option Addr} {sl_tape : Array (Option Value)} {oc_tape kV_tape dc_tape pm_tape cd_tape ct_tape : Value}
    {f_digit : Addr} {od_digit an_digit : Option Addr} {sl_digit : Array (Option Value)} {oc_digit kV_digit dc_digit pm_digit cd_digit ct_digit : Value}
    {f_name : Addr} {od_name an_name : Option Addr} {sl_name : Array (Option Value)} {oc_name kV_name dc_name pm_name cd_name ct_name : Value}
    {f_text : Addr} {od_text an_text : Option Addr} {sl_text : Array (Option Value)} {oc_text kV_text dc_text pm_text cd_text ct_text : Value}
    {f_parts : Addr} {od_parts an_parts : Option Addr} {sl_parts : Array (Option Value)} {oc_parts kV_parts dc_parts pm_parts cd_parts ct_parts : Value}
    {f_changes : Addr} {od_changes an_changes : Option Addr} {sl_changes : Array (Option Value)} {oc_changes kV_changes dc_changes pm_changes cd_changes ct_changes : Value}
    {f_done : Addr} {od_done an_done : Option Addr} {sl_done : Array (Option Value)} {oc_done kV_done dc_done pm_done cd_done ct_done : Value}
    {f_rules : Addr} {od_rules an_rules : Option Addr} {sl_rules : Array (Option Value)} {oc_rules kV_rules dc_rules pm_rules cd_rules ct_rules : Value}
    {f_told : Addr} {od_told an_told : Option Addr} {sl_told : Array (Option Value)} {oc_told kV_told dc_told pm_told cd_told ct_told : Value}
    {f_free : Addr} {od_free an_free : Option Addr} {sl_free : Array (Option Value)} {oc_free kV_free dc_free pm_free cd_free ct_free : Value}
    {f_road : Addr} {od_road an_road : Option Addr} {sl_road : Array (Option Value)} {oc_road kV_road dc_road pm_road cd_road ct_road : Value}
    {f_law : Addr} {od_law an_law : Option Addr} {sl_law : Array (Option Value)} {oc_law kV_law dc_law pm_law cd_law ct_law : Value}
    {t_gRUN t_gHL t_gHS t_gHN t_gHP t_gRL t_gRS t_gLE t_gLP t_gML : Tok}
    (aL : PySem.W.nsIn K mainGlobals "Layer" = some (some (.ref cL)))
    (aM : PySem.W.nsIn K mainGlobals "Make" = some (some (.ref cM)))
    (aH : PySem.W.nsIn K mainGlobals "House" = some (some (.ref cH)))
    (aR : PySem.W.nsIn K mainGlobals "Rulebook" = some (some (.ref cR)))
    (aB : PySem.W.nsIn K mainGlobals "Book" = some (some (.ref cB)))
    (a_runs : PySem.W.nsIn K mainGlobals "runs_of" = some (some (.ref f_runs)))
    (i_runs : PySem.W.isFn K (.ref f_runs) = true)
    (l_runs : K.lookup f_runs = some ⟨oc_runs, od_runs, .func (PySem.W.fnOf "runs_of" "runs_of" (defArgs sRuns) (defBody sRuns) (defScope sRuns) .none kV_runs dc_runs pm_runs an_runs cd_runs ct_runs), sl_runs⟩)
    (c_runs : PySem.W.codeIn K cd_runs "runs_of" = true)
    (k_runs : PySem.W.keepIn K (.ref f_runs) = true)
    (a_sil : PySem.W.findIn K (.ref cR) "is_silent" = some (some (.ref f_sil)))
    (i_sil : PySem.W.isFn K (.ref f_sil) = true)
    (l_sil : K.lookup f_sil = some ⟨oc_sil, od_sil, .func (PySem.W.fnOf "is_silent" "Rulebook.is_silent" (defArgs sRSilent) (defBody sRSilent) (defScope sRSilent) .none kV_sil dc_sil pm_sil an_sil cd_sil ct_sil), sl_sil⟩)
    (c_sil : PySem.W.codeIn K cd_sil "Rulebook.is_silent" = true)
    (k_sil : PySem.W.keepIn K (.ref f_sil) = true)
    (a_bro : PySem.W.findIn K (.ref cR) "brought" = some (some (.ref f_bro)))
    (i_bro : PySem.W.isFn K (.ref f_bro) = true)
    (l_bro : K.lookup f_bro = some ⟨oc_bro, od_bro, .func (PySem.W.fnOf "brought" "Rulebook.brought" (defArgs sRBrought) (defBody sRBrought) (defScope sRBrought) .none kV_bro dc_bro pm_bro an_bro cd_bro ct_bro), sl_bro⟩)
    (c_bro : PySem.W.codeIn K cd_bro "Rulebook.brought" = true)
    (k_bro : PySem.W.keepIn K (.ref f_bro) = true)
    (a_words : PySem.W.nsIn K mainGlobals "words_of" = some (some (.ref f_words)))
    (i_words : PySem.W.isFn K (.ref f_words) = true)
    (l_words : K.lookup f_words = some ⟨oc_words, od_words, .func (PySem.W.fnOf "words_of" "words_of" (defArgs sWords) (defBody sWords) (defScope sWords) .none kV_words dc_words pm_words an_words cd_words ct_words), sl_words⟩)
    (c_words : PySem.W.codeIn K cd_words "words_of" = true)
    (k_words : PySem.W.keepIn K (.ref f_words) = true)
    (a_lay : PySem.W.findIn K (.ref cM) "lay_text" = some (some (.ref f_lay)))
    (i_lay : PySem.W.isFn K (.ref f_lay) = true)
    (l_lay : K.lookup f_lay = some ⟨oc_lay, od_lay, .func (PySem.W.fnOf "lay_text" "Book.lay_text" (defArgs sBLay) (defBody sBLay) (defScope sBLay) .none kV_lay dc_lay pm_lay an_lay cd_lay ct_lay), sl_lay⟩)
    (c_lay : PySem.W.codeIn K cd_lay "Book.lay_text" = true)
    (k_lay : PySem.W.keepIn K (.ref f_lay) = true)
    (a_binit : PySem.W.findCls K (.ref cB) (.type "type") "__init__" = some (.val (.ref f_binit)))
    (i_binit : PySem.W.isFn K (.ref f_binit) = true)
    (l_binit : K.lookup f_binit = some ⟨oc_binit, od_binit, .func (PySem.W.fnOf "__init__" "Book.__init__" (defArgs sBInit) (defBody sBInit) (defScope sBInit) .none kV_binit dc_binit pm_binit an_binit cd_binit ct_binit), sl_binit⟩)
    (c_binit : PySem.W.codeIn K cd_binit "Book.__init__" = true)
    (k_binit : PySem.W.keepIn K (.ref f_binit) = true)
    (a_minit : PySem.W.findIn K (.ref cM) "__init__" = some (some (.ref f_minit)))
    (i_minit : PySem.W.isFn K (.ref f_minit) = true)
    (l_minit : K.lookup f_minit = some ⟨oc_minit, od_minit, .func (PySem.W.fnOf "__init__" "Make.__init__" (defArgs sMInit) (defBody sMInit) (defScope sMInit) .none kV_minit dc_minit pm_minit an_minit cd_minit ct_minit), sl_minit⟩)
    (c_minit : PySem.W.codeIn K cd_minit "Make.__init__" = true)
    (k_minit : PySem.W.keepIn K (.ref f_minit) = true)
    (a_bnames : PySem.W.findIn K (.ref cM) "names" = some (some (.ref f_bnames)))
    (i_bnames : PySem.W.isFn K (.ref f_bnames) = true)
    (l_bnames : K.lookup f_bnames = some ⟨oc_bnames, od_bnames, .func (PySem.W.fnOf "names" "Book.names" (defArgs sBNames) (defBody sBNames) (defScope sBNames) .none kV_bnames dc_bnames pm_bnames an_bnames cd_bnames ct_bnames), sl_bnames⟩)
    (c_bnames : PySem.W.codeIn K cd_bnames "Book.names" = true)
    (k_bnames : PySem.W.keepIn K (.ref f_bnames) = true)
    (a_bwords : PySem.W.findIn K (.ref cM) "words" = some (some (.ref f_bwords)))
    (i_bwords : PySem.W.isFn K (.ref f_bwords) = true)
    (l_bwords : K.lookup f_bwords = some ⟨oc_bwords, od_bwords, .func (PySem.W.fnOf "words" "Book.words" (defArgs sBWords) (defBody sBWords) (defScope sBWords) .none kV_bwords dc_bwords pm_bwords an_bwords cd_bwords ct_bwords), sl_bwords⟩)
    (c_bwords : PySem.W.codeIn K cd_bwords "Book.words" = true)
    (k_bwords : PySem.W.keepIn K (.ref f_bwords) = true)
    (a_btotal : PySem.W.findIn K (.ref cM) "total" = some (some (.ref f_btotal)))
    (i_btotal : PySem.W.isFn K (.ref f_btotal) = true)
    (l_btotal : K.lookup f_btotal = some ⟨oc_btotal, od_btotal, .func (PySem.W.fnOf "total" "Book.total" (defArgs sBTotal) (defBody sBTotal) (defScope sBTotal) .none kV_btotal dc_btotal pm_btotal an_btotal cd_btotal ct_btotal), sl_btotal⟩)
    (c_btotal : PySem.W.codeIn K cd_btotal "Book.total" = true)
    (k_btotal : PySem.W.keepIn K (.ref f_btotal) = true)
    (a_bbegun : PySem.W.findIn K (.ref cM) "begun" = some (some (.ref f_bbegun)))
    (i_bbegun : PySem.W.isFn K (.ref f_bbegun) = true)
    (l_bbegun : K.lookup f_bbegun = some ⟨oc_bbegun, od_bbegun, .func (PySem.W.fnOf "begun" "Book.begun" (defArgs sBBegun) (defBody sBBegun) (defScope sBBegun) .none kV_bbegun dc_bbegun pm_bbegun an_bbegun cd_bbegun ct_bbegun), sl_bbegun⟩)
    (c_bbegun : PySem.W.codeIn K cd_bbegun "Book.begun" = true)
    (k_bbegun : PySem.W.keepIn K (.ref f_bbegun) = true)
    (a_want : PySem.W.findIn K (.ref cM) "want_text" = some (some (.ref f_want)))
    (i_want : PySem.W.isFn K (.ref f_want) = true)
    (l_want : K.lookup f_want = some ⟨oc_want, od_want, .func (PySem.W.fnOf "want_text" "Book.want_text" (defArgs sBWant) (defBody sBWant) (defScope sBWant) .none kV_want dc_want pm_want an_want cd_want ct_want), sl_want⟩)
    (c_want : PySem.W.codeIn K cd_want "Book.want_text" = true)
    (k_want : PySem.W.keepIn K (.ref f_want) = true)
    (a_blength : PySem.W.findIn K (.ref cM) "length" = some (some (.ref f_blength)))
    (i_blength : PySem.W.isFn K (.ref f_blength) = true)
    (l_blength : K.lookup f_blength = some ⟨oc_blength, od_blength, .func (PySem.W.fnOf "length" "Book.length" (defArgs sBLength) (defBody sBLength) (defScope sBLength) .none kV_blength dc_blength pm_blength an_blength cd_blength ct_blength), sl_blength⟩)
    (c_blength : PySem.W.codeIn K cd_blength "Book.length" = true)
    (k_blength : PySem.W.keepIn K (.ref f_blength) = true)
    (a_bparts : PySem.W.findIn K (.ref cM) "parts" = some (some (.ref f_bparts)))
    (i_bparts : PySem.W.isFn K (.ref f_bparts) = true)
    (l_bparts : K.lookup f_bparts = some ⟨oc_bparts, od_bparts, .func (PySem.W.fnOf "parts" "Book.parts" (defArgs sBParts) (defBody sBParts) (defScope sBParts) .none kV_bparts dc_bparts pm_bparts an_bparts cd_bparts ct_bparts), sl_bparts⟩)
    (c_bparts : PySem.W.codeIn K cd_bparts "Book.parts" = true)
    (k_bparts : PySem.W.keepIn K (.ref f_bparts) = true)
    (a_bwin : PySem.W.findIn K (.ref cM) "words_in" = some (some (.ref f_bwin)))
    (i_bwin : PySem.W.isFn K (.ref f_bwin) = true)
    (l_bwin : K.lookup f_bwin = some ⟨oc_bwin, od_bwin, .func (PySem.W.fnOf "words_in" "Book.words_in" (defArgs sBWin) (defBody sBWin) (defScope sBWin) .none kV_bwin dc_bwin pm_bwin an_bwin cd_bwin ct_bwin), sl_bwin⟩)
    (c_bwin : PySem.W.codeIn K cd_bwin "Book.words_in" = true)
    (k_bwin : PySem.W.keepIn K (.ref f_bwin) = true)
    (a_bwhere : PySem.W.findIn K (.ref cM) "where" = some (some (.ref f_bwhere)))
    (i_bwhere : PySem.W.isFn K (.ref f_bwhere) = true)
    (l_bwhere : K.lookup f_bwhere = some ⟨oc_bwhere, od_bwhere, .func (PySem.W.fnOf "where" "Book.where" (defArgs sBWhere) (defBody sBWhere) (defScope sBWhere) .none kV_bwhere dc_bwhere pm_bwhere an_bwhere cd_bwhere ct_bwhere), sl_bwhere⟩)
    (c_bwhere : PySem.W.codeIn K cd_bwhere "Book.where" = true)
    (k_bwhere : PySem.W.keepIn K (.ref f_bwhere) = true)
    (a_linit : PySem.W.findIn K (.ref cL) "__init__" = some (some (.ref f_linit)))
    (i_linit : PySem.W.isFn K (.ref f_linit) = true)
    (l_linit : K.lookup f_linit = some ⟨oc_linit, od_linit, .func (PySem.W.fnOf "__init__" "Layer.__init__" (defArgs sLInit) (defBody sLInit) (defScope sLInit) .none kV_linit dc_linit pm_linit an_linit cd_linit ct_linit), sl_linit⟩)
    (c_linit : PySem.W.codeIn K cd_linit "Layer.__init__" = true)
    (k_linit : PySem.W.keepIn K (.ref f_linit) = true)
    (a_lnames : PySem.W.findIn K (.ref cL) "names" = some (some (.ref f_lnames)))
    (i_lnames : PySem.W.isFn K (.ref f_lnames) = true)
    (l_lnames : K.lookup f_lnames = some ⟨oc_lnames, od_lnames, .func (PySem.W.fnOf "names" "Layer.names" (defArgs sLNames) (defBody sLNames) (defScope sLNames) .none kV_lnames dc_lnames pm_lnames an_lnames cd_lnames ct_lnames), sl_lnames⟩)
    (c_lnames : PySem.W.codeIn K cd_lnames "Layer.names" = true)
    (k_lnames : PySem.W.keepIn K (.ref f_lnames) = true)
    (a_lgone : PySem.W.findIn K (.ref cL) "gone" = some (some (.ref f_lgone)))
    (i_lgone : PySem.W.isFn K (.ref f_lgone) = true)
    (l_lgone : K.lookup f_lgone = some ⟨oc_lgone, od_lgone, .func (PySem.W.fnOf "gone" "Layer.gone" (defArgs sLGone) (defBody sLGone) (defScope sLGone) .none kV_lgone dc_lgone pm_lgone an_lgone cd_lgone ct_lgone), sl_lgone⟩)
    (c_lgone : PySem.W.codeIn K cd_lgone "Layer.gone" = true)
    (k_lgone : PySem.W.keepIn K (.ref f_lgone) = true)
    (a_ltexts : PySem.W.findIn K (.ref cL) "texts" = some (some (.ref f_ltexts)))
    (i_ltexts : PySem.W.isFn K (.ref f_ltexts) = true)
    (l_ltexts : K.lookup f_ltexts = some ⟨oc_ltexts, od_ltexts, .func (PySem.W.fnOf "texts" "Layer.texts" (defArgs sLTexts) (defBody sLTexts) (defScope sLTexts) .none kV_ltexts dc_ltexts pm_ltexts an_ltexts cd_ltexts ct_ltexts), sl_ltexts⟩)
    (c_ltexts : PySem.W.codeIn K cd_ltexts "Layer.texts" = true)
    (k_ltexts : PySem.W.keepIn K (.ref f_ltexts) = true)
    (a_pour : PySem.W.nsIn K mainGlobals "poured" = some (some (.ref f_pour)))
    (i_pour : PySem.W.isFn K (.ref f_pour) = true)
    (l_pour : K.lookup f_pour = some ⟨oc_pour, od_pour, .func (PySem.W.fnOf "poured" "poured" (defArgs sPoured) (defBody sPoured) (defScope sPoured) .none kV_pour dc_pour pm_pour an_pour cd_pour ct_pour), sl_pour⟩)
    (c_pour : PySem.W.codeIn K cd_pour "poured" = true)
    (k_pour : PySem.W.keepIn K (.ref f_pour) = true)
    (a_low : PySem.W.nsIn K mainGlobals "lowest" = some (some (.ref f_low)))
    (i_low : PySem.W.isFn K (.ref f_low) = true)
    (l_low : K.lookup f_low = some ⟨oc_low, od_low, .func (PySem.W.fnOf "lowest" "lowest" (defArgs sLowest) (defBody sLowest) (defScope sLowest) .none kV_low dc_low pm_low an_low cd_low ct_low), sl_low⟩)
    (c_low : PySem.W.codeIn K cd_low "lowest" = true)
    (k_low : PySem.W.keepIn K (.ref f_low) = true)
    (a_isname : PySem.W.nsIn K mainGlobals "is_house_name" = some (some (.ref f_isname)))
    (i_isname : PySem.W.isFn K (.ref f_isname) = true)
    (l_isname : K.lookup f_isname = some ⟨oc_isname, od_isname, .func (PySem.W.fnOf "is_house_name" "is_house_name" (defArgs sIsName) (defBody sIsName) (defScope sIsName) .none kV_isname dc_isname pm_isname an_isname cd_isname ct_isname), sl_isname⟩)
    (c_isname : PySem.W.codeIn K cd_isname "is_house_name" = true)
    (k_isname : PySem.W.keepIn K (.ref f_isname) = true)
    (a_areparts : PySem.W.nsIn K mainGlobals "are_house_parts" = some (some (.ref f_areparts)))
    (i_areparts : PySem.W.isFn K (.ref f_areparts) = true)
    (l_areparts : K.lookup f_areparts = some ⟨oc_areparts, od_areparts, .func (PySem.W.fnOf "are_house_parts" "are_house_parts" (defArgs sAreParts) (defBody sAreParts) (defScope sAreParts) .none kV_areparts dc_areparts pm_areparts an_areparts cd_areparts ct_areparts), sl_areparts⟩)
    (c_areparts : PySem.W.codeIn K cd_areparts "are_house_parts" = true)
    (k_areparts : PySem.W.keepIn K (.ref f_areparts) = true)
    (a_htexts : PySem.W.nsIn K mainGlobals "house_texts" = some (some (.ref f_htexts)))
    (i_htexts : PySem.W.isFn K (.ref f_htexts) = true)
    (l_htexts : K.lookup f_htexts = some ⟨oc_htexts, od_htexts, .func (PySem.W.fnOf "house_texts" "house_texts" (defArgs sHTexts) (defBody sHTexts) (defScope sHTexts) .none kV_htexts dc_htexts pm_htexts an_htexts cd_htexts ct_htexts), sl_htexts⟩)
    (c_htexts : PySem.W.codeIn K cd_htexts "house_texts" = true)
    (k_htexts : PySem.W.keepIn K (.ref f_htexts) = true)
    (a_hinit : PySem.W.findIn K (.ref cH) "__init__" = some (some (.ref f_hinit)))
    (i_hinit : PySem.W.isFn K (.ref f_hinit) = true)
    (l_hinit : K.lookup f_hinit = some ⟨oc_hinit, od_hinit, .func (PySem.W.fnOf "__init__" "House.__init__" (defArgs sHInit) (defBody sHInit) (defScope sHInit) .none kV_hinit dc_hinit pm_hinit an_hinit cd_hinit ct_hinit), sl_hinit⟩)
    (c_hinit : PySem.W.codeIn K cd_hinit "House.__init__" = true)
    (k_hinit : PySem.W.keepIn K (.ref f_hinit) = true)
    (a_newest : PySem.W.findIn K (.ref cH) "newest" = some (some (.ref f_newest)))
    (i_newest : PySem.W.isFn K (.ref f_newest) = true)
    (l_newest : K.lookup f_newest = some ⟨oc_newest, od_newest, .func (PySem.W.fnOf "newest" "House.newest" (defArgs sHNewest) (defBody sHNewest) (defScope sHNewest) .none kV_newest dc_newest pm_newest an_newest cd_newest ct_newest), sl_newest⟩)
    (c_newest : PySem.W.codeIn K cd_newest "House.newest" = true)
    (k_newest : PySem.W.keepIn K (.ref f_newest) = true)
    (a_hlayers : PySem.W.findIn K (.ref cH) "layers_at" = some (some (.ref f_hlayers)))
    (i_hlayers : PySem.W.isFn K (.ref f_hlayers) = true)
    (l_hlayers : K.lookup f_hlayers = some ⟨oc_hlayers, od_hlayers, .func (PySem.W.fnOf "layers_at" "House.layers_at" (defArgs sHLayers) (defBody sHLayers) (defScope sHLayers) .none kV_hlayers dc_hlayers pm_hlayers an_hlayers cd_hlayers ct_hlayers), sl_hlayers⟩)
    (c_hlayers : PySem.W.codeIn K cd_hlayers "House.layers_at" = true)
    (k_hlayers : PySem.W.keepIn K (.ref f_hlayers) = true)
    (a_changed : PySem.W.findIn K (.ref cH) "changed" = some (some (.ref f_changed)))
    (i_changed : PySem.W.isFn K (.ref f_changed) = true)
    (l_changed : K.lookup f_changed = some ⟨oc_changed, od_changed, .func (PySem.W.fnOf "changed" "House.changed" (defArgs sHChanged) (defBody sHChanged) (defScope sHChanged) .none kV_changed dc_changed pm_changed an_changed cd_changed ct_changed), sl_changed⟩)
    (c_changed : PySem.W.codeIn K cd_changed "House.changed" = true)
    (k_changed : PySem.W.keepIn K (.ref f_changed) = true)
    (a_put : PySem.W.findIn K (.ref cH) "put" = some (some (.ref f_put)))
    (i_put : PySem.W.isFn K (.ref f_put) = true)
    (l_put : K.lookup f_put = some ⟨oc_put, od_put, .func (PySem.W.fnOf "put" "House.put" (defArgs sHPut) (defBody sHPut) (defScope sHPut) .none kV_put dc_put pm_put an_put cd_put ct_put), sl_put⟩)
    (c_put : PySem.W.codeIn K cd_put "House.put" = true)
    (k_put : PySem.W.keepIn K (.ref f_put) = true)
    (a_take : PySem.W.findIn K (.ref cH) "take" = some (some (.ref f_take)))
    (i_take : PySem.W.isFn K (.ref f_take) = true)
    (l_take : K.lookup f_take = some ⟨oc_take, od_take, .func (PySem.W.fnOf "take" "House.take" (defArgs sHTake) (defBody sHTake) (defScope sHTake) .none kV_take dc_take pm_take an_take cd_take ct_take), sl_take⟩)
    (c_take : PySem.W.codeIn K cd_take "House.take" = true)
    (k_take : PySem.W.keepIn K (.ref f_take) = true)
    (a_make : PySem.W.findIn K (.ref cH) "make" = some (some (.ref f_make)))
    (i_make : PySem.W.isFn K (.ref f_make) = true)
    (l_make : K.lookup f_make = some ⟨oc_make, od_make, .func (PySem.W.fnOf "make" "House.make" (defArgs sHMake) (defBody sHMake) (defScope sHMake) .none kV_make dc_make pm_make an_make cd_make ct_make), sl_make⟩)
    (c_make : PySem.W.codeIn K cd_make "House.make" = true)
    (k_make : PySem.W.keepIn K (.ref f_make) = true)
    (a_ruleof : PySem.W.nsIn K mainGlobals "rule_is_of" = some (some (.ref f_ruleof)))
    (i_ruleof : PySem.W.isFn K (.ref f_ruleof) = true)
    (l_ruleof : K.lookup f_ruleof = some ⟨oc_ruleof, od_ruleof, .func (PySem.W.fnOf "rule_is_of" "rule_is_of" (defArgs sRuleOf) (defBody sRuleOf) (defScope sRuleOf) .none kV_ruleof dc_ruleof pm_ruleof an_ruleof cd_ruleof ct_ruleof), sl_ruleof⟩)
    (c_ruleof : PySem.W.codeIn K cd_ruleof "rule_is_of" = true)
    (k_ruleof : PySem.W.keepIn K (.ref f_ruleof) = true)
    (a_rulefits : PySem.W.nsIn K mainGlobals "rule_fits" = some (some (.ref f_rulefits)))
    (i_rulefits : PySem.W.isFn K (.ref f_rulefits) = true)
    (l_rulefits : K.lookup f_rulefits = some ⟨oc_rulefits, od_rulefits, .func (PySem.W.fnOf "rule_fits" "rule_fits" (defArgs sRuleFits) (defBody sRuleFits) (defScope sRuleFits) .none kV_rulefits dc_rulefits pm_rulefits an_rulefits cd_rulefits ct_rulefits), sl_rulefits⟩)
    (c_rulefits : PySem.W.codeIn K cd_rulefits "rule_fits" = true)
    (k_rulefits : PySem.W.keepIn K (.ref f_rulefits) = true)
    (a_rinit : PySem.W.findIn K (.ref cR) "__init__" = some (some (.ref f_rinit)))
    (i_rinit : PySem.W.isFn K (.ref f_rinit) = true)
    (l_rinit : K.lookup f_rinit = some ⟨oc_rinit, od_rinit, .func (PySem.W.fnOf "__init__" "Rulebook.__init__" (defArgs sRInit) (defBody sRInit) (defScope sRInit) .none kV_rinit dc_rinit pm_rinit an_rinit cd_rinit ct_rinit), sl_rinit⟩)
    (c_rinit : PySem.W.codeIn K cd_rinit "Rulebook.__init__" = true)
    (k_rinit : PySem.W.keepIn K (.ref f_rinit) = true)
    (a_nth : PySem.W.nsIn K mainGlobals "_law_nth" = some (some (.ref f_nth)))
    (i_nth : PySem.W.isFn K (.ref f_nth) = true)
    (l_nth : K.lookup f_nth = some ⟨oc_nth, od_nth, .func (PySem.W.fnOf "_law_nth" "_law_nth" (defArgs sNth) (defBody sNth) (defScope sNth) .none kV_nth dc_nth pm_nth an_nth cd_nth ct_nth), sl_nth⟩)
    (c_nth : PySem.W.codeIn K cd_nth "_law_nth" = true)
    (k_nth : PySem.W.keepIn K (.ref f_nth) = true)
    (a_tape : PySem.W.nsIn K mainGlobals "_law_tape" = some (some (.ref f_tape)))
    (i_tape : PySem.W.isFn K (.ref f_tape) = true)
    (l_tape : K.lookup f_tape = some ⟨oc_tape, od_tape, .func (PySem.W.fnOf "_law_tape" "_law_tape" (defArgs sTape) (defBody sTape) (defScope sTape) .none kV_tape dc_tape pm_tape an_tape cd_tape ct_tape), sl_tape⟩)
    (c_tape : PySem.W.codeIn K cd_tape "_law_tape" = true)
    (k_tape : PySem.W.keepIn K (.ref f_tape) = true)
    (a_digit : PySem.W.nsIn K mainGlobals "_law_digit" = some (some (.ref f_digit)))
    (i_digit : PySem.W.isFn K (.ref f_digit) = true)
    (l_digit : K.lookup f_digit = some ⟨oc_digit, od_digit, .func (PySem.W.fnOf "_law_digit" "_law_digit" (defArgs sDigit) (defBody sDigit) (defScope sDigit) .none kV_digit dc_digit pm_digit an_digit cd_digit ct_digit), sl_digit⟩)
    (c_digit : PySem.W.codeIn K cd_digit "_law_digit" = true)
    (k_digit : PySem.W.keepIn K (.ref f_digit) = true)
    (a_name : PySem.W.nsIn K mainGlobals "_law_name" = some (some (.ref f_name)))
    (i_name : PySem.W.isFn K (.ref f_name) = true)
    (l_name : K.lookup f_name = some ⟨oc_name, od_name, .func (PySem.W.fnOf "_law_name" "_law_name" (defArgs sName) (defBody sName) (defScope sName) .none kV_name dc_name pm_name an_name cd_name ct_name), sl_name⟩)
    (c_name : PySem.W.codeIn K cd_name "_law_name" = true)
    (k_name : PySem.W.keepIn K (.ref f_name) = true)
    (a_text : PySem.W.nsIn K mainGlobals "_law_text" = some (some (.ref f_text)))
    (i_text : PySem.W.isFn K (.ref f_text) = true)
    (l_text : K.lookup f_text = some ⟨oc_text, od_text, .func (PySem.W.fnOf "_law_text" "_law_text" (defArgs sText) (defBody sText) (defScope sText) .none kV_text dc_text pm_text an_text cd_text ct_text), sl_text⟩)
    (c_text : PySem.W.codeIn K cd_text "_law_text" = true)
    (k_text : PySem.W.keepIn K (.ref f_text) = true)
    (a_parts : PySem.W.nsIn K mainGlobals "_law_parts" = some (some (.ref f_parts)))
    (i_parts : PySem.W.isFn K (.ref f_parts) = true)
    (l_parts : K.lookup f_parts = some ⟨oc_parts, od_parts, .func (PySem.W.fnOf "_law_parts" "_law_parts" (defArgs sParts) (defBody sParts) (defScope sParts) .none kV_parts dc_parts pm_parts an_parts cd_parts ct_parts), sl_parts⟩)
    (c_parts : PySem.W.codeIn K cd_parts "_law_parts" = true)
    (k_parts : PySem.W.keepIn K (.ref f_parts) = true)
    (a_changes : PySem.W.nsIn K mainGlobals "_law_changes" = some (some (.ref f_changes)))
    (i_changes : PySem.W.isFn K (.ref f_changes) = true)
    (l_changes : K.lookup f_changes = some ⟨oc_changes, od_changes, .func (PySem.W.fnOf "_law_changes" "_law_changes" (defArgs sChanges) (defBody sChanges) (defScope sChanges) .none kV_changes dc_changes pm_changes an_changes cd_changes ct_changes), sl_changes⟩)
    (c_changes : PySem.W.codeIn K cd_changes "_law_changes" = true)
    (k_changes : PySem.W.keepIn K (.ref f_changes) = true)
    (a_done : PySem.W.nsIn K mainGlobals "_law_done" = some (some (.ref f_done)))
    (i_done : PySem.W.isFn K (.ref f_done) = true)
    (l_done : K.lookup f_done = some ⟨oc_done, od_done, .func (PySem.W.fnOf "_law_done" "_law_done" (defArgs sDone) (defBody sDone) (defScope sDone) .none kV_done dc_done pm_done an_done cd_done ct_done), sl_done⟩)
    (c_done : PySem.W.codeIn K cd_done "_law_done" = true)
    (k_done : PySem.W.keepIn K (.ref f_done) = true)
    (a_rules : PySem.W.nsIn K mainGlobals "_law_rules" = some (some (.ref f_rules)))
    (i_rules : PySem.W.isFn K (.ref f_rules) = true)
    (l_rules : K.lookup f_rules = some ⟨oc_rules, od_rules, .func (PySem.W.fnOf "_law_rules" "_law_rules" (defArgs sRules) (defBody sRules) (defScope sRules) .none kV_rules dc_rules pm_rules an_rules cd_rules ct_rules), sl_rules⟩)
    (c_rules : PySem.W.codeIn K cd_rules "_law_rules" = true)
    (k_rules : PySem.W.keepIn K (.ref f_rules) = true)
    (a_told : PySem.W.nsIn K mainGlobals "_law_told" = some (some (.ref f_told)))
    (i_told : PySem.W.isFn K (.ref f_told) = true)
    (l_told : K.lookup f_told = some ⟨oc_told, od_told, .func (PySem.W.fnOf "_law_told" "_law_told" (defArgs sTold) (defBody sTold) (defScope sTold) .none kV_told dc_told pm_told an_told cd_told ct_told), sl_told⟩)
    (c_told : PySem.W.codeIn K cd_told "_law_told" = true)
    (k_told : PySem.W.keepIn K (.ref f_told) = true)
    (a_free : PySem.W.nsIn K mainGlobals "_law_free" = some (some (.ref f_free)))
    (i_free : PySem.W.isFn K (.ref f_free) = true)
    (l_free : K.lookup f_free = some ⟨oc_free, od_free, .func (PySem.W.fnOf "_law_free" "_law_free" (defArgs sFree) (defBody sFree) (defScope sFree) .none kV_free dc_free pm_free an_free cd_free ct_free), sl_free⟩)
    (c_free : PySem.W.codeIn K cd_free "_law_free" = true)
    (k_free : PySem.W.keepIn K (.ref f_free) = true)
    (a_road : PySem.W.nsIn K mainGlobals "_law_by_another_road" = some (some (.ref f_road)))
    (i_road : PySem.W.isFn K (.ref f_road) = true)
    (l_road : K.lookup f_road = some ⟨oc_road, od_road, .func (PySem.W.fnOf "_law_by_another_road" "_law_by_another_road" (defArgs sRoad) (defBody sRoad) (defScope sRoad) .none kV_road dc_road pm_road an_road cd_road ct_road), sl_road⟩)
    (c_road : PySem.W.codeIn K cd_road "_law_by_another_road" = true)
    (k_road : PySem.W.keepIn K (.ref f_road) = true)
    (a_law : PySem.W.nsIn K mainGlobals "law" = some (some (.ref f_law)))
    (i_law : PySem.W.isFn K (.ref f_law) = true)
    (l_law : K.lookup f_law = some ⟨oc_law, od_law, .func (PySem.W.fnOf "law" "law" (defArgs sLaw) (defBody sLaw) (defScope sLaw) .none kV_law dc_law pm_law an_law cd_law ct_law), sl_law⟩)
    (c_law : PySem.W.codeIn K cd_law "law" = true)
    (k_law : PySem.W.keepIn K (.ref f_law) = true)
    (pgL : PySem.W.plainGet K cL Str.empty = true)
    (hdL : PySem.W.hasDictIn K cL = true)
    (poL : PySem.W.plainOver K cL = true)
    (saL : PySem.W.findIn K (.ref cL) "__setattr__" = some (some (.builtin "object.__setattr__")))
    (mkL : PySem.W.makesIn K cL = true)
    (kcL : PySem.W.keepIn K (.ref cL) = true)
    (pgM : PySem.W.plainGet K cM Str.empty = true)
    (hdM : PySem.W.hasDictIn K cM = true)
    (poM : PySem.W.plainOver K cM = true)
    (saM : PySem.W.findIn K (.ref cM) "__setattr__" = some (some (.builtin "object.__setattr__")))
    (mkM : PySem.W.makesIn K cM = true)
    (kcM : PySem.W.keepIn K (.ref cM) = true)
    (pgH : PySem.W.plainGet K cH Str.empty = true)
    (hdH : PySem.W.hasDictIn K cH = true)
    (poH : PySem.W.plainOver K cH = true)
    (saH : PySem.W.findIn K (.ref cH) "__setattr__" = some (some (.builtin "object.__setattr__")))
    (mkH : PySem.W.makesIn K cH = true)
    (kcH : PySem.W.keepIn K (.ref cH) = true)
    (pgR : PySem.W.plainGet K cR Str.empty = true)
    (hdR : PySem.W.hasDictIn K cR = true)
    (poR : PySem.W.plainOver K cR = true)
    (saR : PySem.W.findIn K (.ref cR) "__setattr__" = some (some (.builtin "object.__setattr__")))
    (mkR : PySem.W.makesIn K cR = true)
    (kcR : PySem.W.keepIn K (.ref cR) = true)
    (rdB : PySem.W.readsIn K cB (.type "type") = true)
    (gaB : PySem.W.specialIn K (.ref cB) "__getattribute__" = some (some (.builtin "type.__getattribute__")))
    (n_l1 : PySem.W.findIn K (.ref cL) "rules" = some none)
    (n_l2 : PySem.W.findIn K (.ref cL) "standing" = some none)
    (n_l3 : PySem.W.findIn K (.ref cL) "gone_names" = some none)
    (n_m1 : PySem.W.findIn K (.ref cM) "book_rules" = some none)
    (n_m2 : PySem.W.findIn K (.ref cM) "book_texts" = some none)
    (n_m3 : PySem.W.findIn K (.ref cM) "book_lengths" = some none)
    (n_m4 : PySem.W.findIn K (.ref cM) "book_stands" = some none)
    (n_m5 : PySem.W.findIn K (.ref cM) "came" = some none)
    (n_h1 : PySem.W.findIn K (.ref cH) "rules" = some none)
    (n_h2 : PySem.W.findIn K (.ref cH) "grown" = some none)
    (n_h3 : PySem.W.findIn K (.ref cH) "entries" = some none)
    (n_r1 : PySem.W.findIn K (.ref cR) "tails" = some none)
    (n_r2 : PySem.W.findIn K (.ref cR) "hushed" = some none)
    (z_enumerate : PySem.W.nsIn K mainGlobals "enumerate" = some none)
    (z_len : PySem.W.nsIn K mainGlobals "len" = some none)
    (z_sum : PySem.W.nsIn K mainGlobals "sum" = some none)
    (z_tuple : PySem.W.nsIn K mainGlobals "tuple" = some none)
    (z_isinstance : PySem.W.nsIn K mainGlobals "isinstance" = some none)
    (z_str : PySem.W.nsIn K mainGlobals "str" = some none)
    (z_list : PySem.W.nsIn K mainGlobals "list" = some none)
    (z_sorted : PySem.W.nsIn K mainGlobals "sorted" = some none)
    (z_dict : PySem.W.nsIn K mainGlobals "dict" = some none)
    (z_all : PySem.W.nsIn K mainGlobals "all" = some none)
    (z_reversed : PySem.W.nsIn K mainGlobals "reversed" = some none)
    (z_range : PySem.W.nsIn K mainGlobals "range" = some none)
    (z_min : PySem.W.nsIn K mainGlobals "min" = some none)
    (z_int : PySem.W.nsIn K mainGlobals "int" = some none)
    (gRUN : PySem.W.nsIn K mainGlobals "RUN_SIGNS" = some (some (.str "abcdefghijklmnopqrstuvwxyz0123456789" t_gRUN)))
    (gHL : PySem.W.nsIn K mainGlobals "HOUSE_LETTERS" = some (some (.str "abcdefghijklmnopqrstuvwxyz" t_gHL)))
    (gHS : PySem.W.nsIn K mainGlobals "HOUSE_SIGNS" = some (some (.str " !\"#$&'()*+,-./0123456789:;<=>?@ABCDEFGHIJKLMNOPQRSTUVWXYZ[\\]^_`abcdefghijklmnopqrstuvwxyz{|}~" t_gHS)))
    (gHN : PySem.W.nsIn K mainGlobals "HOUSE_LONGEST" = some (some (.int 8 t_gHN)))
    (gHP : PySem.W.nsIn K mainGlobals "HOUSE_PARTS" = some (some (.int 3 t_gHP)))
    (gRL : PySem.W.nsIn K mainGlobals "RULE_LETTERS" = some (some (.str "abcdefghijklmnopqrstuvwxyz" t_gRL)))
    (gRS : PySem.W.nsIn K mainGlobals "RULE_SIGNS" = some (some (.str "abcdefghijklmnopqrstuvwxyz0123456789" t_gRS)))
    (gLE : PySem.W.nsIn K mainGlobals "LONGEST_ENDING" = some (some (.int 8 t_gLE)))
    (gLP : PySem.W.nsIn K mainGlobals "LONGEST_PLAIN" = some (some (.int 20 t_gLP)))
    (gML : PySem.W.nsIn K mainGlobals "MOST_LEFT" = some (some (.int 20 t_gML)))
    : ∃ fd : FuncData, (∀ (s : Shared) (v : Value), BindsTo s fd ⟨[v], []⟩ [("_law_script", v)]) ∧ ∀ base : Heap, K.In base → base.Ns mainGlobals mg → FnOk l.prog w K mg base CX0 8 fa fd ["_law_script"] (spLaw K) := by
  have e := hfa.symm.trans (PySem.W.mg_of X G a_law)
  cases e
  have T : Txt K mg cL cM cH cR := by
    exact ⟨⟨pgL, hdL, poL, saL⟩, ⟨pgM, hdM, poM, saM⟩, ⟨pgH, hdH, poH, saH⟩, ⟨pgR, hdR, poR, saR⟩, n_l1, n_l2, n_l3, n_m1, n_m2, n_m3, n_m4, n_m5, n_h1, n_h2, n_h3, n_r1, n_r2, PySem.W.mg_none_of X G z_enumerate, PySem.W.mg_none_of X G z_len, PySem.W.mg_none_of X G z_sum, PySem.W.mg_none_of X G z_tuple, PySem.W.mg_none_of X G z_isinstance, PySem.W.mg_none_of X G z_str, PySem.W.mg_none_of X G z_list, PySem.W.mg_none_of X G z_sorted, PySem.W.mg_none_of X G z_dict, PySem.W.mg_none_of X G z_all, PySem.W.mg_none_of X G z_reversed, PySem.W.mg_none_of X G z_range, PySem.W.mg_none_of X G z_min, PySem.W.mg_none_of X G z_int, ⟨_, PySem.W.mg_of X G gRUN⟩, ⟨_, PySem.W.mg_of X G gHL⟩, ⟨_, PySem.W.mg_of X G gHS⟩, ⟨_, PySem.W.mg_of X G gHN⟩, ⟨_, PySem.W.mg_of X G gHP⟩, ⟨_, PySem.W.mg_of X G gRL⟩, ⟨_, PySem.W.mg_of X G gRS⟩, ⟨_, PySem.W.mg_of X G gLE⟩, ⟨_, PySem.W.mg_of X G gLP⟩, ⟨_, PySem.W.mg_of X G gML⟩⟩
  have F_runs := fun_mk (st := sRuns) l_runs c_runs k_runs
  have b_runs := F_runs.binds (ps := ["text"]) fun _ _ _ _ _ _ us hl => match us, hl with | [_], _ => rfl
  have F_sil := fun_mk (st := sRSilent) l_sil c_sil k_sil
  have b_sil := F_sil.binds (ps := ["self", "run"]) fun _ _ _ _ _ _ us hl => match us, hl with | [_, _], _ => rfl
  have F_bro := fun_mk (st := sRBrought) l_bro c_bro k_bro
  have b_bro := F_bro.binds (ps := ["self", "run"]) fun _ _ _ _ _ _ us hl => match us, hl with | [_, _], _ => rfl
  have F_words := fun_mk (st := sWords) l_words c_words k_words
  have b_words := F_words.binds (ps := ["rulebook", "text"]) fun _ _ _ _ _ _ us hl => match us, hl with | [_, _], _ => rfl
  have F_lay := fun_mk (st := sBLay) l_lay c_lay k_lay
  have b_lay := F_lay.binds (ps := ["self", "name", "parts"]) fun _ _ _ _ _ _ us hl => match us, hl with | [_, _, _], _ => rfl
  have F_binit := fun_mk (st := sBInit) l_binit c_binit k_binit
  have b_binit := F_binit.binds (ps := ["self", "rulebook", "texts"]) fun _ _ _ _ _ _ us hl => match us, hl with | [_, _, _], _ => rfl
  have F_minit := fun_mk (st := sMInit) l_minit c_minit k_minit
  have b_minit := F_minit.binds (ps := ["self", "rulebook", "texts", "number"]) fun _ _ _ _ _ _ us hl => match us, hl with | [_, _, _, _], _ => rfl
  have F_bnames := fun_mk (st := sBNames) l_bnames c_bnames k_bnames
  have b_bnames := F_bnames.binds (ps := ["self"]) fun _ _ _ _ _ _ us hl => match us, hl with | [_], _ => rfl
  have F_bwords := fun_mk (st := sBWords) l_bwords c_bwords k_bwords
  have b_bwords := F_bwords.binds (ps := ["self"]) fun _ _ _ _ _ _ us hl => match us, hl with | [_], _ => rfl
  have F_btotal := fun_mk (st := sBTotal) l_btotal c_btotal k_btotal
  have b_btotal := F_btotal.binds (ps := ["self"]) fun _ _ _ _ _ _ us hl => match us, hl with | [_], _ => rfl
  have F_bbegun := fun_mk (st := sBBegun) l_bbegun c_bbegun k_bbegun
  have b_bbegun := F_bbegun.binds (ps := ["self", "start"]) fun _ _ _ _ _ _ us hl => match us, hl with | [_, _], _ => rfl
  have F_want := fun_mk (st := sBWant) l_want c_want k_want
  have b_want := F_want.binds (ps := ["self", "name"]) fun _ _ _ _ _ _ us hl => match us, hl with | [_, _], _ => rfl
  have F_blength := fun_mk (st := sBLength) l_blength c_blength k_blength
  have b_blength := F_blength.binds (ps := ["self", "name"]) fun _ _ _ _ _ _ us hl => match us, hl with | [_, _], _ => rfl
  have F_bparts := fun_mk (st := sBParts) l_bparts c_bparts k_bparts
  have b_bparts := F_bparts.binds (ps := ["self", "name"]) fun _ _ _ _ _ _ us hl => match us, hl with | [_, _], _ => rfl
  have F_bwin := fun_mk (st := sBWin) l_bwin c_bwin k_bwin
  have b_bwin := F_bwin.binds (ps := ["self", "name", "part"]) fun _ _ _ _ _ _ us hl => match us, hl with | [_, _, _], _ => rfl
  have F_bwhere := fun_mk (st := sBWhere) l_bwhere c_bwhere k_bwhere
  have b_bwhere := F_bwhere.binds (ps := ["self", "word"]) fun _ _ _ _ _ _ us hl => match us, hl with | [_, _], _ => rfl
  have F_linit := fun_mk (st := sLInit) l_linit c_linit k_linit
  have b_linit := F_linit.binds (ps := ["self", "rulebook", "texts", "gone"]) fun _ _ _ _ _ _ us hl => match us, hl with | [_, _, _, _], _ => rfl
  have F_lnames := fun_mk (st := sLNames) l_lnames c_lnames k_lnames
  have b_lnames := F_lnames.binds (ps := ["self"]) fun _ _ _ _ _ _ us hl => match us, hl with | [_], _ => rfl
  have F_lgone := fun_mk (st := sLGone) l_lgone c_lgone k_lgone
  have b_lgone := F_lgone.binds (ps := ["self"]) fun _ _ _ _ _ _ us hl => match us, hl with | [_], _ => rfl
  have F_ltexts := fun_mk (st := sLTexts) l_ltexts c_ltexts k_ltexts
  have b_ltexts := F_ltexts.binds (ps := ["self"]) fun _ _ _ _ _ _ us hl => match us, hl with | [_], _ => rfl
  have F_pour := fun_mk (st := sPoured) l_pour c_pour k_pour
  have b_pour := F_pour.binds (ps := ["lower", "upper"]) fun _ _ _ _ _ _ us hl => match us, hl with | [_, _], _ => rfl
  have F_low := fun_mk (st := sLowest) l_low c_low k_low
  have b_low := F_low.binds (ps := ["layer"]) fun _ _ _ _ _ _ us hl => match us, hl with | [_], _ => rfl
  have F_isname := fun_mk (st := sIsName) l_isname c_isname k_isname
  have b_isname := F_isname.binds (ps := ["thing"]) fun _ _ _ _ _ _ us hl => match us, hl with | [_], _ => rfl
  have F_areparts := fun_mk (st := sAreParts) l_areparts c_areparts k_areparts
  have b_areparts := F_areparts.binds (ps := ["thing"]) fun _ _ _ _ _ _ us hl => match us, hl with | [_], _ => rfl
  have F_htexts := fun_mk (st := sHTexts) l_htexts c_htexts k_htexts
  have b_htexts := F_htexts.binds (ps := ["layers"]) fun _ _ _ _ _ _ us hl => match us, hl with | [_], _ => rfl
  have F_hinit := fun_mk (st := sHInit) l_hinit c_hinit k_hinit
  have b_hinit := F_hinit.binds (ps := ["self", "rulebook"]) fun _ _ _ _ _ _ us hl => match us, hl with | [_, _], _ => rfl
  have F_newest := fun_mk (st := sHNewest) l_newest c_newest k_newest
  have b_newest := F_newest.binds (ps := ["self"]) fun _ _ _ _ _ _ us hl => match us, hl with | [_], _ => rfl
  have F_hlayers := fun_mk (st := sHLayers) l_hlayers c_hlayers k_hlayers
  have b_hlayers := F_hlayers.binds (ps := ["self", "number"]) fun _ _ _ _ _ _ us hl => match us, hl with | [_, _], _ => rfl
  have F_changed := fun_mk (st := sHChanged) l_changed c_changed k_changed
  have b_changed := F_changed.binds (ps := ["self", "texts", "gone"]) fun _ _ _ _ _ _ us hl => match us, hl with | [_, _, _], _ => rfl
  have F_put := fun_mk (st := sHPut) l_put c_put k_put
  have b_put := F_put.binds (ps := ["self", "name", "parts"]) fun _ _ _ _ _ _ us hl => match us, hl with | [_, _, _], _ => rfl
  have F_take := fun_mk (st := sHTake) l_take c_take k_take
  have b_take := F_take.binds (ps := ["self", "name"]) fun _ _ _ _ _ _ us hl => match us, hl with | [_, _], _ => rfl
  have F_make := fun_mk (st := sHMake) l_make c_make k_make
  have b_make := F_make.binds (ps := ["self", "number"]) fun _ _ _ _ _ _ us hl => match us, hl with | [_, _], _ => rfl
  have F_ruleof := fun_mk (st := sRuleOf) l_ruleof c_ruleof k_ruleof
  have b_ruleof := F_ruleof.binds (ps := ["word", "signs", "least", "most"]) fun _ _ _ _ _ _ us hl => match us, hl with | [_, _, _, _], _ => rfl
  have F_rulefits := fun_mk (st := sRuleFits) l_rulefits c_rulefits k_rulefits
  have b_rulefits := F_rulefits.binds (ps := ["ending", "instead", "least"]) fun _ _ _ _ _ _ us hl => match us, hl with | [_, _, _], _ => rfl
  have F_rinit := fun_mk (st := sRInit) l_rinit c_rinit k_rinit
  have b_rinit := F_rinit.binds (ps := ["self", "endings", "silent"]) fun _ _ _ _ _ _ us hl => match us, hl with | [_, _, _], _ => rfl
  have F_nth := fun_mk (st := sNth) l_nth c_nth k_nth
  have b_nth := F_nth.binds (ps := ["_law_script", "_law_k"]) fun _ _ _ _ _ _ us hl => match us, hl with | [_, _], _ => rfl
  have F_tape := fun_mk (st := sTape) l_tape c_tape k_tape
  have b_tape := F_tape.binds (ps := ["_law_cell", "_law_plain"]) fun _ _ _ _ _ _ us hl => match us, hl with | [_, _], _ => rfl
  have F_digit := fun_mk (st := sDigit) l_digit c_digit k_digit
  have b_digit := F_digit.binds (ps := ["_law_tape_here", "_law_many"]) fun _ _ _ _ _ _ us hl => match us, hl with | [_, _], _ => rfl
  have F_name := fun_mk (st := sName) l_name c_name k_name
  have b_name := F_name.binds (ps := ["_law_tape_here", "_law_old", "_law_most"]) fun _ _ _ _ _ _ us hl => match us, hl with | [_, _, _], _ => rfl
  have F_text := fun_mk (st := sText) l_text c_text k_text
  have b_text := F_text.binds (ps := ["_law_tape_here", "_law_plain"]) fun _ _ _ _ _ _ us hl => match us, hl with | [_, _], _ => rfl
  have F_parts := fun_mk (st := sParts) l_parts c_parts k_parts
  have b_parts := F_parts.binds (ps := ["_law_tape_here", "_law_plain"]) fun _ _ _ _ _ _ us hl => match us, hl with | [_, _], _ => rfl
  have F_changes := fun_mk (st := sChanges) l_changes c_changes k_changes
  have b_changes := F_changes.binds (ps := ["_law_cells", "_law_plain", "_law_most"]) fun _ _ _ _ _ _ us hl => match us, hl with | [_, _, _], _ => rfl
  have F_done := fun_mk (st := sDone) l_done c_done k_done
  have b_done := F_done.binds (ps := ["_law_house", "_law_row"]) fun _ _ _ _ _ _ us hl => match us, hl with | [_, _], _ => rfl
  have F_rules := fun_mk (st := sRules) l_rules c_rules k_rules
  have b_rules := F_rules.binds (ps := ["_law_cell"]) fun _ _ _ _ _ _ us hl => match us, hl with | [_], _ => rfl
  have F_told := fun_mk (st := sTold) l_told c_told k_told
  have b_told := F_told.binds (ps := ["_law_make"]) fun _ _ _ _ _ _ us hl => match us, hl with | [_], _ => rfl
  have F_free := fun_mk (st := sFree) l_free c_free k_free
  have b_free := F_free.binds (ps := ["_law_names"]) fun _ _ _ _ _ _ us hl => match us, hl with | [_], _ => rfl
  have F_road := fun_mk (st := sRoad) l_road c_road k_road
  have b_road := F_road.binds (ps := ["_law_house", "_law_texts", "_law_cell"]) fun _ _ _ _ _ _ us hl => match us, hl with | [_, _, _], _ => rfl
  have F_law := fun_mk (st := sLaw) l_law c_law k_law
  have b_law := F_law.binds (ps := ["_law_script"]) fun _ _ _ _ _ _ us hl => match us, hl with | [_], _ => rfl
  refine ⟨PySem.W.fnOf "law" "law" (defArgs sLaw) (defBody sLaw) (defScope sLaw) .none kV_law dc_law pm_law an_law cd_law ct_law, fun s v => .of_eq rfl, fun base _ _ => ?_⟩
  have g_runs : Cal l.prog w K mg base 1 "runs_of" ["text"] (spRuns K) := ⟨_, _, ok_runs F_runs T, PySem.W.mg_of X G a_runs, k_runs, b_runs⟩
  have g_sil : Mth l.prog w K mg base cR 1 "is_silent" ["self", "run"] (spSilent cR) := ⟨_, _, ok_silent F_sil T, ⟨a_sil, i_sil, k_sil⟩, b_sil⟩
  have g_bro : Mth l.prog w K mg base cR 1 "brought" ["self", "run"] (spBrought cR) := ⟨_, _, ok_brought F_bro T, ⟨a_bro, i_bro, k_bro⟩, b_bro⟩
  have g_words : Cal l.prog w K mg base 2 "words_of" ["rulebook", "text"] (spWords K cR) := ⟨_, _, ok_words F_words T g_runs g_sil g_bro, PySem.W.mg_of X G a_words, k_words, b_words⟩
  have g_lay : Mth l.prog w K mg base cM 3 "lay_text" ["self", "name", "parts"] (spLay K cM cR) := ⟨_, _, ok_lay F_lay T g_runs g_words, ⟨a_lay, i_lay, k_lay⟩, b_lay⟩
  have g_binit : ClsF l.prog w K mg base cB 4 "Book" "__init__" ["self", "rulebook", "texts"] (spBInit K cM cR) := ⟨_, _, _, ok_binit F_binit T g_lay, PySem.W.mg_of X G aB, ⟨rdB, gaB⟩, ⟨a_binit, rfl⟩, k_binit, b_binit⟩
  have g_minit : Mkc l.prog w K mg base cM 5 "Make" ["self", "rulebook", "texts", "number"] (spMInit K cM cR) := ⟨_, _, ok_minit F_minit T g_binit, PySem.W.mg_of X G aM, ⟨mkM, a_minit, i_minit, kcM⟩, b_minit⟩
  have g_bnames : Mth l.prog w K mg base cM 1 "names" ["self"] (spAsk0 K cM cR fun _ ts => namesD ts) := ⟨_, _, ok_bnames F_bnames T, ⟨a_bnames, i_bnames, k_bnames⟩, b_bnames⟩
  have g_bwords : Mth l.prog w K mg base cM 1 "words" ["self"] (spAsk0 K cM cR wordsD) := ⟨_, _, ok_bwords F_bwords T, ⟨a_bwords, i_bwords, k_bwords⟩, b_bwords⟩
  have g_btotal : Mth l.prog w K mg base cM 1 "total" ["self"] (spAsk0 K cM cR fun _ ts => .int (totalI ts)) := ⟨_, _, ok_btotal F_btotal T, ⟨a_btotal, i_btotal, k_btotal⟩, b_btotal⟩
  have g_bbegun : Mth l.prog w K mg base cM 2 "begun" ["self", "start"] (spBegun K cM cR) := ⟨_, _, ok_bbegun F_bbegun T g_bwords, ⟨a_bbegun, i_bbegun, k_bbegun⟩, b_bbegun⟩
  have g_want : Mth l.prog w K mg base cM 1 "want_text" ["self", "name"] (spWant K cM cR) := ⟨_, _, ok_want F_want T, ⟨a_want, i_want, k_want⟩, b_want⟩
  have g_blength : Mth l.prog w K mg base cM 2 "length" ["self", "name"] (spAsk1 K cM cR fun _ t => .int (lenOf t.2)) := ⟨_, _, ok_blength F_blength T g_want, ⟨a_blength, i_blength, k_blength⟩, b_blength⟩
  have g_bparts : Mth l.prog w K mg base cM 2 "parts" ["self", "name"] (spAsk1 K cM cR fun _ t => partsD t.2) := ⟨_, _, ok_bparts F_bparts T g_want, ⟨a_bparts, i_bparts, k_bparts⟩, b_bparts⟩
  have g_bwin : Mth l.prog w K mg base cM 3 "words_in" ["self", "name", "part"] (spWin K cM cR) := ⟨_, _, ok_bwin F_bwin T g_want g_words, ⟨a_bwin, i_bwin, k_bwin⟩, b_bwin⟩
  have g_bwhere : Mth l.prog w K mg base cM 1 "where" ["self", "word"] (spWhere K cM cR) := ⟨_, _, ok_bwhere F_bwhere T, ⟨a_bwhere, i_bwhere, k_bwhere⟩, b_bwhere⟩
  have g_linit : Mkc l.prog w K mg base cL 1 "Layer" ["self", "rulebook", "texts", "gone"] (spLInit K cL) := ⟨_, _, ok_linit F_linit T, PySem.W.mg_of X G aL, ⟨mkL, a_linit, i_linit, kcL⟩, b_linit⟩
  have g_lnames : Mth l.prog w K mg base cL 1 "names" ["self"] (spLNames K cL) := ⟨_, _, ok_lnames F_lnames T, ⟨a_lnames, i_lnames, k_lnames⟩, b_lnames⟩
  have g_lgone : Mth l.prog w K mg base cL 1 "gone" ["self"] (spLGone K cL) := ⟨_, _, ok_lgone F_lgone T, ⟨a_lgone, i_lgone, k_lgone⟩, b_lgone⟩
  have g_ltexts : Mth l.prog w K mg base cL 1 "texts" ["self"] (spLTexts K cL) := ⟨_, _, ok_ltexts F_ltexts T, ⟨a_ltexts, i_ltexts, k_ltexts⟩, b_ltexts⟩
  have g_pour : Cal l.prog w K mg base 3 "poured" ["lower", "upper"] (spPour K cL) := ⟨_, _, ok_poured F_pour T g_linit g_ltexts g_lgone, PySem.W.mg_of X G a_pour, k_pour, b_pour⟩
  have g_low : Cal l.prog w K mg base 3 "lowest" ["layer"] (spLow K cL) := ⟨_, _, ok_low F_low T g_linit g_ltexts, PySem.W.mg_of X G a_low, k_low, b_low⟩
  have g_isname : Cal l.prog w K mg base 1 "is_house_name" ["thing"] (spIsName) := ⟨_, _, ok_isname F_isname T, PySem.W.mg_of X G a_isname, k_isname, b_isname⟩
  have g_areparts : Cal l.prog w K mg base 1 "are_house_parts" ["thing"] (spAreParts K) := ⟨_, _, ok_areparts F_areparts T, PySem.W.mg_of X G a_areparts, k_areparts, b_areparts⟩
  have g_htexts : Cal l.prog w K mg base 2 "house_texts" ["layers"] (spHTexts K cL) := ⟨_, _, ok_htexts F_htexts T g_ltexts g_lgone, PySem.W.mg_of X G a_htexts, k_htexts, b_htexts⟩
  have g_hinit : Mkc l.prog w K mg base cH 1 "House" ["self", "rulebook"] (spHInit K cH cL) := ⟨_, _, ok_hinit F_hinit T, PySem.W.mg_of X G aH, ⟨mkH, a_hinit, i_hinit, kcH⟩, b_hinit⟩
  have g_newest : Mth l.prog w K mg base cH 1 "newest" ["self"] (spNewest K cH) := ⟨_, _, ok_hnewest F_newest T, ⟨a_newest, i_newest, k_newest⟩, b_newest⟩
  have g_hlayers : Mth l.prog w K mg base cH 2 "layers_at" ["self", "number"] (spLayersAt K cH) := ⟨_, _, ok_hlayers F_hlayers T g_newest, ⟨a_hlayers, i_hlayers, k_hlayers⟩, b_hlayers⟩
  have g_changed : Mth l.prog w K mg base cH 4 "changed" ["self", "texts", "gone"] (spChanged K cH cL) := ⟨_, _, ok_changed F_changed T g_linit g_lnames g_pour g_low g_newest, ⟨a_changed, i_changed, k_changed⟩, b_changed⟩
  have g_put : Mth l.prog w K mg base cH 5 "put" ["self", "name", "parts"] (spPut K cH cL) := ⟨_, _, ok_put F_put T g_isname g_areparts g_changed, ⟨a_put, i_put, k_put⟩, b_put⟩
  have g_take : Mth l.prog w K mg base cH 5 "take" ["self", "name"] (spTake K cH cL) := ⟨_, _, ok_take F_take T g_htexts g_changed, ⟨a_take, i_take, k_take⟩, b_take⟩
  have g_make : Mth l.prog w K mg base cH 7 "make" ["self", "number"] (spMake K cH cL cM cR) := ⟨_, _, ok_make F_make T g_htexts g_hlayers g_minit, ⟨a_make, i_make, k_make⟩, b_make⟩
  have g_ruleof : Cal l.prog w K mg base 1 "rule_is_of" ["word", "signs", "least", "most"] (spRuleOf) := ⟨_, _, ok_ruleof F_ruleof T, PySem.W.mg_of X G a_ruleof, k_ruleof, b_ruleof⟩
  have g_rulefits : Cal l.prog w K mg base 2 "rule_fits" ["ending", "instead", "least"] (spRuleFits) := ⟨_, _, ok_rulefits F_rulefits T g_ruleof, PySem.W.mg_of X G a_rulefits, k_rulefits, b_rulefits⟩
  have g_rinit : Mkc l.prog w K mg base cR 3 "Rulebook" ["self", "endings", "silent"] (spRInit K cR) := ⟨_, _, ok_rinit F_rinit T g_ruleof g_rulefits, PySem.W.mg_of X G aR, ⟨mkR, a_rinit, i_rinit, kcR⟩, b_rinit⟩
  have g_nth : Cal l.prog w K mg base 1 "_law_nth" ["_law_script", "_law_k"] (spNth K) := ⟨_, _, ok_nth F_nth T, PySem.W.mg_of X G a_nth, k_nth, b_nth⟩
  have g_tape : Cal l.prog w K mg base 1 "_law_tape" ["_law_cell", "_law_plain"] (spTape) := ⟨_, _, ok_tape F_tape T, PySem.W.mg_of X G a_tape, k_tape, b_tape⟩
  have g_digit : Cal l.prog w K mg base 1 "_law_digit" ["_law_tape_here", "_law_many"] (spDigit) := ⟨_, _, ok_digit F_digit T, PySem.W.mg_of X G a_digit, k_digit, b_digit⟩
  have g_name : Cal l.prog w K mg base 2 "_law_name" ["_law_tape_here", "_law_old", "_law_most"] (spName) := ⟨_, _, ok_name F_name T g_digit, PySem.W.mg_of X G a_name, k_name, b_name⟩
  have g_text : Cal l.prog w K mg base 2 "_law_text" ["_law_tape_here", "_law_plain"] (spText) := ⟨_, _, ok_text F_text T g_digit, PySem.W.mg_of X G a_text, k_text, b_text⟩
  have g_parts : Cal l.prog w K mg base 3 "_law_parts" ["_law_tape_here", "_law_plain"] (spParts K) := ⟨_, _, ok_parts F_parts T g_text, PySem.W.mg_of X G a_parts, k_parts, b_parts⟩
  have g_changes : Cal l.prog w K mg base 4 "_law_changes" ["_law_cells", "_law_plain", "_law_most"] (spChanges K) := ⟨_, _, ok_changes F_changes T g_digit g_tape g_name g_parts, PySem.W.mg_of X G a_changes, k_changes, b_changes⟩
  have g_done : Cal l.prog w K mg base 6 "_law_done" ["_law_house", "_law_row"] (spDone K cH cL) := ⟨_, _, ok_done F_done T g_put g_take, PySem.W.mg_of X G a_done, k_done, b_done⟩
  have g_rules : Cal l.prog w K mg base 1 "_law_rules" ["_law_cell"] (spRules K) := ⟨_, _, ok_rules F_rules T, PySem.W.mg_of X G a_rules, k_rules, b_rules⟩
  have g_told : Cal l.prog w K mg base 4 "_law_told" ["_law_make"] (spTold K cM cR) := ⟨_, _, ok_told F_told T g_bnames g_bwords g_btotal g_bbegun g_bwhere g_blength g_bparts g_bwin, PySem.W.mg_of X G a_told, k_told, b_told⟩
  have g_free : Cal l.prog w K mg base 1 "_law_free" ["_law_names"] (spFree K) := ⟨_, _, ok_free F_free T, PySem.W.mg_of X G a_free, k_free, b_free⟩
  have g_road : Cal l.prog w K mg base 6 "_law_by_another_road" ["_law_house", "_law_texts", "_law_cell"] (spRoad K cH cL) := ⟨_, _, ok_road F_road T g_put g_take g_free, PySem.W.mg_of X G a_road, k_road, b_road⟩
  exact ok_law F_law T g_nth g_rules g_rinit g_hinit g_changes g_done g_road g_told g_make g_newest g_put
theorem walk {l : PySem.W.OpenLaw} {q : Program} {loose : List Str} {XP : (Str → Option Value) → Heap → Prop} {YP : World → Heap → Prop} {d : DefRec} {K : Params → PySem.W.Frag} (hn : l.most = some 63) (hdf : d.params.defaults = [])
    (hY : ∀ (w : World) (h : Heap), YP w h → (K w.params).In h)
    (F : ∀ (w : World) (mg : Str → Option Value) (fa : Addr) (h : Heap), (K w.params).In h → h.Ns mainGlobals mg → mg d.name = some (.ref fa) →
      ∃ fd : FuncData, (∀ (s : Shared) (u : Value), BindsTo s fd ⟨[u], []⟩ [("_law_script", u)]) ∧ ∀ base : Heap, (K w.params).In base → base.Ns mainGlobals mg → FnOk l.prog w (K w.params) mg base CX0 8 fa fd ["_law_script"] (spLaw (K w.params))) :
    PySem.W.WalkO q loose XP YP l.row.toRowW d [] (fun f vs => PySem.call f vs) :=
  L2.walk_ofB (n := 63) (k := 8) (x := "_law_script") (CX := fun _ => CX0) (sp := fun w => spLaw (K w.params)) hn (by decide) hdf ⟨rfl, by decide, by decide⟩ hY F
    (fun _ _ a ns hl hb _ hS => ⟨a, ns, rfl, hS, fun c hc => Nat.le_trans (hb c hc) (by decide), hl, fun _ => rfl⟩) fun _ _ _ _ _ z => z
end KR

open PySem PySem.W PyProof.Rows in
set_option maxRecDepth 100000 in
set_option maxHeartbeats 0 in
theorem PySem.Challenge.cw_shownranks_k36_whole_two_roads_holds : PySem.Challenge.rw_shownranks_k36_whole_two_roads.Holds := by
  w_on; o_law; k_head; (case hw => w_witness2)
  k_fill
  refine KR.walk (l := PySem.Challenge.rw_shownranks_k36_whole_two_roads) rfl rfl (fun w h Y => PySem.W.kIn_of Y) ?F
  case F =>
    intro w mg fa h KX G hmg
    refine' KR.all_mk KX G hmg ?aL ?aM ?aH ?aR ?aB ?a_runs ?i_runs ?l_runs ?c_runs ?k_runs ?a_sil ?i_sil ?l_sil ?c_sil ?k_sil ?a_bro ?i_bro ?l_bro ?c_bro ?k_bro ?a_words ?i_words ?l_words ?c_words ?k_words ?a_lay ?i_lay ?l_lay ?c_lay ?k_lay ?a_binit ?i_binit ?l_binit ?c_binit ?k_binit ?a_minit ?i_minit ?l_minit ?c_minit ?k_minit ?a_bnames ?i_bnames ?l_bnames ?c_bnames ?k_bnames ?a_bwords ?i_bwords ?l_bwords ?c_bwords ?k_bwords ?a_btotal ?i_btotal ?l_btotal ?c_btotal ?k_btotal ?a_bbegun ?i_bbegun ?l_bbegun ?c_bbegun ?k_bbegun ?a_want ?i_want ?l_want ?c_want ?k_want ?a_blength ?i_blength ?l_blength ?c_blength ?k_blength ?a_bparts ?i_bparts ?l_bparts ?c_bparts ?k_bparts ?a_bwin ?i_bwin ?l_bwin ?c_bwin ?k_bwin ?a_bwhere ?i_bwhere ?l_bwhere ?c_bwhere ?k_bwhere ?a_linit ?i_linit ?l_linit ?c_linit ?k_linit ?a_lnames ?i_lnames ?l_lnames ?c_lnames ?k_lnames ?a_lgone ?i_lgone ?l_lgone ?c_lgone ?k_lgone ?a_ltexts ?i_ltexts ?l_ltexts ?c_ltexts ?k_ltexts ?a_pour ?i_pour ?l_pour ?c_pour ?k_pour ?a_low ?i_low ?l_low ?c_low ?k_low ?a_isname ?i_isname ?l_isname ?c_isname ?k_isname ?a_areparts ?i_areparts ?l_areparts ?c_areparts ?k_areparts ?a_htexts ?i_htexts ?l_htexts ?c_htexts ?k_htexts ?a_hinit ?i_hinit ?l_hinit ?c_hinit ?k_hinit ?a_newest ?i_newest ?l_newest ?c_newest ?k_newest ?a_hlayers ?i_hlayers ?l_hlayers ?c_hlayers ?k_hlayers ?a_changed ?i_changed ?l_changed ?c_changed ?k_changed ?a_put ?i_put ?l_put ?c_put ?k_put ?a_take ?i_take ?l_take ?c_take ?k_take ?a_make ?i_make ?l_make ?c_make ?k_make ?a_ruleof ?i_ruleof ?l_ruleof ?c_ruleof ?k_ruleof ?a_rulefits ?i_rulefits ?l_rulefits ?c_rulefits ?k_rulefits ?a_rinit ?i_rinit ?l_rinit ?c_rinit ?k_rinit ?a_nth ?i_nth ?l_nth ?c_nth ?k_nth ?a_tape ?i_tape ?l_tape ?c_tape ?k_tape ?a_digit ?i_digit ?l_digit ?c_digit ?k_digit ?a_name ?i_name ?l_name ?c_name ?k_name ?a_text ?i_text ?l_text ?c_text ?k_text ?a_parts ?i_parts ?l_parts ?c_parts ?k_parts ?a_changes ?i_changes ?l_changes ?c_changes ?k_changes ?a_done ?i_done ?l_done ?c_done ?k_done ?a_rules ?i_rules ?l_rules ?c_rules ?k_rules ?a_told ?i_told ?l_told ?c_told ?k_told ?a_free ?i_free ?l_free ?c_free ?k_free ?a_road ?i_road ?l_road ?c_road ?k_road ?a_law ?i_law ?l_law ?c_law ?k_law ?pgL ?hdL ?poL ?saL ?mkL ?kcL ?pgM ?hdM ?poM ?saM ?mkM ?kcM ?pgH ?hdH ?poH ?saH ?mkH ?kcH ?pgR ?hdR ?poR ?saR ?mkR ?kcR ?rdB ?gaB ?n_l1 ?n_l2 ?n_l3 ?n_m1 ?n_m2 ?n_m3 ?n_m4 ?n_m5 ?n_h1 ?n_h2 ?n_h3 ?n_r1 ?n_r2 ?z_enumerate ?z_len ?z_sum ?z_tuple ?z_isinstance ?z_str ?z_list ?z_sorted ?z_dict ?z_all ?z_reversed ?z_range ?z_min ?z_int ?gRUN ?gHL ?gHS ?gHN ?gHP ?gRL ?gRS ?gLE ?gLP ?gML
    (case aL => k_is)
    (case aM => k_is)
    (case aH => k_is)
    (case aR => k_is)
    (case aB => k_is)
    (case a_runs => k_is)
    (case i_runs => k_is)
    (case l_runs => k_is)
    (case c_runs => k_is)
    (case k_runs => k_is)
    (case a_sil => k_is)
    (case i_sil => k_is)
    (case l_sil => k_is)
    (case c_sil => k_is)
    (case k_sil => k_is)
    (case a_bro => k_is)
    (case i_bro => k_is)
    (case l_bro => k_is)
    (case c_bro => k_is)
    (case k_bro => k_is)
    (case a_words => k_is)
    (case i_words => k_is)
    (case l_words => k_is)
    (case c_words => k_is)
    (case k_words => k_is)
    (case a_lay => k_is)
    (case i_lay => k_is)
    (case l_lay => k_is)
    (case c_lay => k_is)
    (case k_lay => k_is)
    (case a_binit => k_is)
    (case i_binit => k_is)
    (case l_binit => k_is)
    (case c_binit => k_is)
    (case k_binit => k_is)
    (case a_minit => k_is)
    (case i_minit => k_is)
    (case l_minit => k_is)
    (case c_minit => k_is)
    (case k_minit => k_is)
    (case a_bnames => k_is)
    (case i_bnames => k_is)
    (case l_bnames => k_is)
    (case c_bnames => k_is)
    (case k_bnames => k_is)
    (case a_bwords => k_is)
    (case i_bwords => k_is)
    (case l_bwords => k_is)
    (case c_bwords => k_is)
    (case k_bwords => k_is)
    (case a_btotal => k_is)
    (case i_btotal => k_is)
    (case l_btotal => k_is)
    (case c_btotal => k_is)
    (case k_btotal => k_is)
    (case a_bbegun => k_is)
    (case i_bbegun => k_is)
    (case l_bbegun => k_is)
    (case c_bbegun => k_is)
    (case k_bbegun => k_is)
    (case a_want => k_is)
    (case i_want => k_is)
    (case l_want => k_is)
    (case c_want => k_is)
    (case k_want => k_is)
    (case a_blength => k_is)
    (case i_blength => k_is)
    (case l_blength => k_is)
    (case c_blength => k_is)
    (case k_blength => k_is)
    (case a_bparts => k_is)
    (case i_bparts => k_is)
    (case l_bparts => k_is)
    (case c_bparts => k_is)
    (case k_bparts => k_is)
    (case a_bwin => k_is)
    (case i_bwin => k_is)
    (case l_bwin => k_is)
    (case c_bwin => k_is)
    (case k_bwin => k_is)
    (case a_bwhere => k_is)
    (case i_bwhere => k_is)
    (case l_bwhere => k_is)
    (case c_bwhere => k_is)
    (case k_bwhere => k_is)
    (case a_linit => k_is)
    (case i_linit => k_is)
    (case l_linit => k_is)
    (case c_linit => k_is)
    (case k_linit => k_is)
    (case a_lnames => k_is)
    (case i_lnames => k_is)
    (case l_lnames => k_is)
    (case c_lnames => k_is)
    (case k_lnames => k_is)
    (case a_lgone => k_is)
    (case i_lgone => k_is)
    (case l_lgone => k_is)
    (case c_lgone => k_is)
    (case k_lgone => k_is)
    (case a_ltexts => k_is)
    (case i_ltexts => k_is)
    (case l_ltexts => k_is)
    (case c_ltexts => k_is)
    (case k_ltexts => k_is)
    (case a_pour => k_is)
    (case i_pour => k_is)
    (case l_pour => k_is)
    (case c_pour => k_is)
    (case k_pour => k_is)
    (case a_low => k_is)
    (case i_low => k_is)
    (case l_low => k_is)
    (case c_low => k_is)
    (case k_low => k_is)
    (case a_isname => k_is)
    (case i_isname => k_is)
    (case l_isname => k_is)
    (case c_isname => k_is)
    (case k_isname => k_is)
    (case a_areparts => k_is)
    (case i_areparts => k_is)
    (case l_areparts => k_is)
    (case c_areparts => k_is)
    (case k_areparts => k_is)
    (case a_htexts => k_is)
    (case i_htexts => k_is)
    (case l_htexts => k_is)
    (case c_htexts => k_is)
    (case k_htexts => k_is)
    (case a_hinit => k_is)
    (case i_hinit => k_is)
    (case l_hinit => k_is)
    (case c_hinit => k_is)
    (case k_hinit => k_is)
    (case a_newest => k_is)
    (case i_newest => k_is)
    (case l_newest => k_is)
    (case c_newest => k_is)
    (case k_newest => k_is)
    (case a_hlayers => k_is)
    (case i_hlayers => k_is)
    (case l_hlayers => k_is)
    (case c_hlayers => k_is)
    (case k_hlayers => k_is)
    (case a_changed => k_is)
    (case i_changed => k_is)
    (case l_changed => k_is)
    (case c_changed => k_is)
    (case k_changed => k_is)
    (case a_put => k_is)
    (case i_put => k_is)
    (case l_put => k_is)
    (case c_put => k_is)
    (case k_put => k_is)
    (case a_take => k_is)
    (case i_take => k_is)
    (case l_take => k_is)
    (case c_take => k_is)
    (case k_take => k_is)
    (case a_make => k_is)
    (case i_make => k_is)
    (case l_make => k_is)
    (case c_make => k_is)
    (case k_make => k_is)
    (case a_ruleof => k_is)
    (case i_ruleof => k_is)
    (case l_ruleof => k_is)
    (case c_ruleof => k_is)
    (case k_ruleof => k_is)
    (case a_rulefits => k_is)
    (case i_rulefits => k_is)
    (case l_rulefits => k_is)
    (case c_rulefits => k_is)
    (case k_rulefits => k_is)
    (case a_rinit => k_is)
    (case i_rinit => k_is)
    (case l_rinit => k_is)
    (case c_rinit => k_is)
    (case k_rinit => k_is)
    (case a_nth => k_is)
    (case i_nth => k_is)
    (case l_nth => k_is)
    (case c_nth => k_is)
    (case k_nth => k_is)
    (case a_tape => k_is)
    (case i_tape => k_is)
    (case l_tape => k_is)
    (case c_tape => k_is)
    (case k_tape => k_is)
    (case a_digit => k_is)
    (case i_digit => k_is)
    (case l_digit => k_is)
    (case c_digit => k_is)
    (case k_digit => k_is)
    (case a_name => k_is)
    (case i_name => k_is)
    (case l_name => k_is)
    (case c_name => k_is)
    (case k_name => k_is)
    (case a_text => k_is)
    (case i_text => k_is)
    (case l_text => k_is)
    (case c_text => k_is)
    (case k_text => k_is)
    (case a_parts => k_is)
    (case i_parts => k_is)
    (case l_parts => k_is)
    (case c_parts => k_is)
    (case k_parts => k_is)
    (case a_changes => k_is)
    (case i_changes => k_is)
    (case l_changes => k_is)
    (case c_changes => k_is)
    (case k_changes => k_is)
    (case a_done => k_is)
    (case i_done => k_is)
    (case l_done => k_is)
    (case c_done => k_is)
    (case k_done => k_is)
    (case a_rules => k_is)
    (case i_rules => k_is)
    (case l_rules => k_is)
    (case c_rules => k_is)
    (case k_rules => k_is)
    (case a_told => k_is)
    (case i_told => k_is)
    (case l_told => k_is)
    (case c_told => k_is)
    (case k_told => k_is)
    (case a_free => k_is)
    (case i_free => k_is)
    (case l_free => k_is)
    (case c_free => k_is)
    (case k_free => k_is)
    (case a_road => k_is)
    (case i_road => k_is)
    (case l_road => k_is)
    (case c_road => k_is)
    (case k_road => k_is)
    (case a_law => k_is)
    (case i_law => k_is)
    (case l_law => k_is)
    (case c_law => k_is)
    (case k_law => k_is)
    (case pgL => k_is)
    (case hdL => k_is)
    (case poL => k_is)
    (case saL => k_is)
    (case mkL => k_is)
    (case kcL => k_is)
    (case pgM => k_is)
    (case hdM => k_is)
    (case poM => k_is)
    (case saM => k_is)
    (case mkM => k_is)
    (case kcM => k_is)
    (case pgH => k_is)
    (case hdH => k_is)
    (case poH => k_is)
    (case saH => k_is)
    (case mkH => k_is)
    (case kcH => k_is)
    (case pgR => k_is)
    (case hdR => k_is)
    (case poR => k_is)
    (case saR => k_is)
    (case mkR => k_is)
    (case kcR => k_is)
    (case rdB => k_is)
    (case gaB => k_is)
    (case n_l1 => k_is)
    (case n_l2 => k_is)
    (case n_l3 => k_is)
    (case n_m1 => k_is)
    (case n_m2 => k_is)
    (case n_m3 => k_is)
    (case n_m4 => k_is)
    (case n_m5 => k_is)
    (case n_h1 => k_is)
    (case n_h2 => k_is)
    (case n_h3 => k_is)
    (case n_r1 => k_is)
    (case n_r2 => k_is)
    (case z_enumerate => k_is)
    (case z_len => k_is)
    (case z_sum => k_is)
    (case z_tuple => k_is)
    (case z_isinstance => k_is)
    (case z_str => k_is)
    (case z_list => k_is)
    (case z_sorted => k_is)
    (case z_dict => k_is)
    (case z_all => k_is)
    (case z_reversed => k_is)
    (case z_range => k_is)
    (case z_min => k_is)
    (case z_int => k_is)
    (case gRUN => k_is)
    (case gHL => k_is)
    (case gHS => k_is)
    (case gHN => k_is)
    (case gHP => k_is)
    (case gRL => k_is)
    (case gRS => k_is)
    (case gLE => k_is)
    (case gLP => k_is)
    (case gML => k_is)
#print axioms PySem.Challenge.cw_shownranks_k36_whole_two_roads_holds
