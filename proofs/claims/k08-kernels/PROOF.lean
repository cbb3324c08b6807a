import PyProof.Rows.All
import Wide.All
import OpenK.AllK
import Wide.FinOn
import KE.GoesMore
import HandS.ForMost
import HandS.Walk
import HandS.IsInst
import HandS.TupAny
import HandS.Defaults
import HandS.Conv
import PySem.Challenge.RW_leafmarks_k08_whole_kernels_of_joined_ed
import HandS.Head0
import HandS.Head1
import HandS.Head2
import HandS.HeadEnd
import HandS.HeadHook1
import HandS.HeadHook2
import HandS.Ends
set_option Elab.async false
set_option linter.all false
set_option maxRecDepth 100000
set_option maxHeartbeats 2000000
/-! Further rules for the hand layer: enumerate of a tuple, calls of defs by one fact each. -/
namespace Lf
open PySem PySem.Spec PyProof.Rows L2

/-! ### enumerate(tuple) -/
theorem meets_enumerate_newT (l : Addr) (items : Array Value) (n : Nat) (dct : Option Addr) (sl : Array (Option Value)) :
    Meets (Builtin.«enumerate.__new__» ⟨[.type "enumerate", .ref l], []⟩) (fun _ R s => s.heap.get? l = some { cls := .type "tuple", dict := dct, data := .seq items n, slots := sl } ∧
      R (.ok (.ret (.ref (s.heap.push { cls := .type "tuple_iterator", data := .fields #[.ref l, .int 0 0] }).objs.size)))
        { s with heap := (s.heap.push { cls := .type "tuple_iterator", data := .fields #[.ref l, .int 0 0] }).push { cls := .type "enumerate", data := .fields #[.none, .bool false, .ref s.heap.objs.size, rawInt 0, .none, .none] } }) :=
  .of_wp fun prog w A R s h => by
    obtain ⟨hp, g, d, tk, os⟩ := s; obtain ⟨hl, h⟩ := h
    have hsub := sub_enumerate
    have hL : Heap.IsTuple (Shared.heap ⟨hp, g, d, tk, os⟩) l items := ⟨_, hl, rfl, n, rfl⟩
    wp_walk using AutoSeq1.wpAny_loadPart' hl
    refine wpAny_stack_any fun st => wpAny_pure ?_
    split
    · rename_i c _ _ _ _ _
      cases (c == Value.type "enumerate")
      · wp_walk using AutoSeq1.wpAny_loadPart' hl, wpAny_pyIter_tuple hL
        exact ⟨_, rfl, h⟩
      · wp_walk using AutoSeq1.wpAny_loadPart' hl, wpAny_pyIter_tuple hL
        exact ⟨_, rfl, h⟩
    · wp_walk using AutoSeq1.wpAny_loadPart' hl, wpAny_pyIter_tuple hL
      exact ⟨_, rfl, h⟩
section
variable {prog : Program} {w : World} {A : Around} {E : Value → Shared → Prop} {s : Shared}
theorem call_enumerate_tuple {l : Addr} {items : Array Value} {Q : Value → Shared → Prop} (hL : s.heap.IsTuple l items)
    (h : ∀ h', IsEnum h' (s.heap.objs.size + 1) s.heap.objs.size 0 .none → h'.IsTupleIter s.heap.objs.size l 0 → h'.objs.size = s.heap.objs.size + 2 →
      (∀ b o, s.heap.get? b = some o → h'.get? b = some o) → Q (.ref (s.heap.objs.size + 1)) { s with heap := h' }) :
    wpAny (model prog w) A (call (.type "enumerate") [.ref l]) Q E s := by
  obtain ⟨⟨c, dct, dt, sl⟩, hl, hc, n, hd⟩ := hL
  replace hc : c = .type "tuple" := hc
  replace hd : dt = .seq items n := hd
  subst hc hd
  refine callType_new F.called_enumerate (by decide) (F.typeCall_enumerate_1 _) (F.newCall_enumerate_1 _) (fun obj => F.args_object_init_2 obj _) F.entry_enumerate_new
    (meets_enumerate_newT l items n dct sl) ⟨hl, ?_⟩
  have hz : (s.heap.push { cls := .type "tuple_iterator", data := .fields #[.ref l, .int 0 0] }).objs.size = s.heap.objs.size + 1 := Heap.size_push ..
  show _ ∧ _
  rw [hz]
  have he : IsEnum ((s.heap.push { cls := .type "tuple_iterator", data := .fields #[.ref l, .int 0 0] }).push
      { cls := .type "enumerate", data := .fields #[.none, .bool false, .ref s.heap.objs.size, rawInt 0, .none, .none] }) (s.heap.objs.size + 1) s.heap.objs.size 0 .none := by
    have := Heap.get?_push_size (s.heap.push { cls := .type "tuple_iterator", data := .fields #[.ref l, .int 0 0] })
      (o := { cls := .type "enumerate", data := .fields #[.none, .bool false, .ref s.heap.objs.size, rawInt 0, .none, .none] }) rfl
    rw [hz] at this; exact this
  refine ⟨⟨_, he, rfl⟩, h _ he ⟨_, Heap.get?_push_of_some _ (Heap.get?_push_size _ rfl), rfl, rfl⟩ (by rw [Heap.size_push, hz]) fun b o x => Heap.get?_push_of_some _ (Heap.get?_push_of_some _ x)⟩
end
def IteT (K : PySem.W.Frag) (a : Addr) : It :=
  ⟨fun i H => ∃ (xs : List V) (x : V), SqT K H a xs ∧ xs[i]? = some x, fun i H v H' => ∃ T x, v = .ref T ∧ H T = none ∧ H' = upd H T (.tup [.int (i : Nat), x]) ∧ ∀ xs, SqT K H a xs → xs[i]? = some x, fun i H => ∃ xs : List V, SqT K H a xs ∧ xs.length ≤ i⟩
theorem turn_enumT {P : Program} {w : World} {K : PySem.W.Frag} {elts : List Expr} {kk : Nat} {tpos : Pos} (a e it : Addr) :
    Turn P w K (.Tuple elts kk tpos) (IteT K a) [e, it] e (fun i h => (∃ old, IsEnum h e it ((i : Nat) : Int) old) ∧ h.IsTupleIter it a i ∧ e ≠ it) where
  mem := by simp
  obj := fun i h st b hb => by
    obtain ⟨⟨old, he⟩, ⟨o, ho, hc, hd⟩, _⟩ := st
    have e' : b = e ∨ b = it := by simpa using hb
    rcases e' with z | z
    · rw [z]; exact ⟨_, he, fun v q => nomatch q⟩
    · rw [z]; exact ⟨o, ho, fun v q => by rw [hd] at q; cases q⟩
  keep := fun i h h' st k => let ⟨⟨old, he⟩, hi, hne⟩ := st; ⟨⟨old, k e (by simp) _ he⟩, hi.at fun o q => k it (by simp) o q, hne⟩
  item := by
    intro X hP hw hK hc i pins s σ H E I hf st hg
    subst hP hw hK
    obtain ⟨⟨old, he⟩, hit, hne⟩ := st
    obtain ⟨xs, x, hq, hx⟩ := hg
    obtain ⟨its, rv, p, hz⟩ := I.tuple hq
    obtain ⟨u, hu, ru⟩ := rv.get hx
    have hel : e < s.heap.objs.size := Heap.lt_size he
    have hil : it < s.heap.objs.size := by obtain ⟨_, q, _⟩ := hit; exact Heap.lt_size q
    have hait : a ≠ it := by
      intro z
      obtain ⟨o1, h1, c1, _⟩ := p
      obtain ⟨o2, h2, c2, _⟩ := hit
      rw [z] at h1
      rw [h1] at h2
      cases h2
      rw [c1] at c2
      exact absurd c2 (by decide)
    have hae : e ≠ a := by
      intro z
      obtain ⟨o1, h1, c1, _⟩ := p
      rw [← z] at h1
      have h2 : s.heap.get? e = _ := he
      rw [h1] at h2
      cases h2
      exact absurd c1 (show ¬ Value.type "enumerate" = Value.type "tuple" by decide)
    have hlt : i < its.toArray.size := by
      have : i < its.length := (List.getElem?_eq_some_iff.mp hu).1
      simpa using this
    have hh : X.A.in1.handled = none := I.ok.hd hc
    refine wpAny_pyNext_enum_itemD (Draws.tuple hh it a hait its.toArray) he ⟨hit, show s.heap.IsTuple a its.toArray from p⟩ hlt hne (by simp [hne, hae]) fun y h' tk hy ho hit' hT hsz hk => ?_
    have ey : y = u := by
      have hu' : its.toArray[i]? = some u := by simpa using hu
      have : some y = some u := hy.symm.trans hu'
      exact Option.some.inj this
    subst ey
    refine ⟨_, rfl, wpAny_letOwnedTupleGo_enum (s := { s with heap := h', toks := tk + 1 }) ho fun h'' he' sb => ?_⟩
    have hT2 : h''.get? s.heap.objs.size = some { cls := .type "tuple", data := .seq #[.int i tk, y] } := (sb.2 _ (Nat.ne_of_gt hel)).trans hT
    have new : ObjOk X.prog X.w (upd H s.heap.objs.size (.tup [.int (i : Nat), x])) h'' s.heap.objs.size (.tup [.int (i : Nat), x]) :=
      ⟨by show 2 ≤ sizeLine; decide, [.int i tk, y], .cons ⟨_, rfl⟩ (.cons ru .nil), ⟨_, hT2, rfl, _, rfl⟩⟩
    have I1 : Inv X pins σ (upd H s.heap.objs.size (.tup [.int (i : Nat), x])) { s with heap := h'', toks := tk + 1 } :=
      I.turnedNew (ch := [e, it]) (fun b ob hb q => (sb.2 b (fun z => hb (by simp [z]))).trans (hk b ob (fun z => hb (by simp [z])) (fun z => hb (by simp [z])) q)) hf (Nat.le_refl _) new
    refine ⟨.ref s.heap.objs.size, _, I1, rfl, ⟨_, x, rfl, I.hok.fresh (Nat.le_refl _), rfl, fun ys hy => by rw [I.tuple_inj hy hq]; exact hx⟩, ⟨⟨y, ?_⟩, hit'.1.at fun o q => (sb.2 it (Ne.symm hne)).trans q, hne⟩, fun b hb => ?_⟩
    · have e1 : ((i + 1 : Nat) : Int) = (i : Int) + 1 := by omega
      rw [e1]; exact he'
    · have hb' : b < s.heap.objs.size := by
        have e' : b = e ∨ b = it := by simpa using hb
        rcases e' with z | z
        · rw [z]; exact hel
        · rw [z]; exact hil
      rw [upd_ne (Nat.ne_of_lt hb')]
      exact (hf b hb).1
  done := by
    intro X hP hw hK hc i pins s σ H E I hf st hg
    subst hP hw hK
    obtain ⟨⟨old, he⟩, hit, hne⟩ := st
    obtain ⟨xs, hq, hx⟩ := hg
    obtain ⟨its, rv, p, hz⟩ := I.tuple hq
    obtain ⟨f0, f1, f2, f3, f4, f5⟩ := hf it (by simp)
    have hl := rv.length
    have hn : its.toArray[i]? = none := by simp; omega
    have hT : s.TypeIs (.ref e) "enumerate" := ⟨_, he, rfl⟩
    unfold pyNext
    refine wpAny_bind (wpAny_attempt (wpAny_callSpecial?_slot (name := Str.ofString "__next__") hT F.slot_enumerate_next
      (wpAny_call_entry F.slot_enumerate_next hT F.entry_enumerate_next ?_ (F.args_enumerate_next_1 _))))
    show wpAny _ _ (field (.ref e) 2 >>= _) _ _ _
    refine wpAny_bind (wpAny_field he rfl (x := .ref it) rfl ?_)
    refine wpAny_bind (wpAny_nextOf_tuple_end (A := X.A.in1) (I.ok.hd hc) hit (show s.heap.IsTuple a its.toArray from p) hn fun h' x he' hx' => ?_)
    obtain ⟨o, ho, hc'⟩ := hx'
    refine wpAny_bind (wpAny_isInstance (T := "StopIteration") (b := true) ⟨o, ho, hc'⟩ isSubtype_stop ?_)
    exact wpAny_pure ⟨rfl, I.turned (t' := s.toks) (fun b o hb q => he' b o hb q) f0 f1 f3 f4 f5⟩
  self := fun A i s Q E st h => let ⟨⟨_, he⟩, _⟩ := st; wpAny_pyIter_enum he h
/-- enumerate of a tuple or of a list -/
def rEnumA (K : PySem.W.Frag) (vs : List V) (H1 : Hp) (R : It → Hp → Prop) : Prop := ∃ a xs, vs = [.ref a] ∧ ((SqL K H1 a xs ∧ R (Ite K a) H1) ∨ (SqT K H1 a xs ∧ R (IteT K a) H1))
def iEnumA (K : PySem.W.Frag) (ta : TA) : TI := fun σ H R => ta σ H fun vs H1 => rEnumA K vs H1 R
theorem pi_enumA {X : Cx} {e : Expr} {ta : TA} {p pos tpos : Pos} {elts : List Expr} {kk : Nat} (hg : Gl X "enumerate") (hm : X.mg "enumerate" = none) (ha : PA X [e] ta) (hs : starEach [e] X.env = [(false, eval e X.env)] := by rfl) :
    PI X (.Tuple elts kk tpos) (.Call (.Name "enumerate" p) [e] [] pos) (iEnumA X.K ta) := by
  refine ⟨fun pins s σ H R I h => ?_⟩
  refine Call_ (ld_blt I hg hm boot_enumerate (PyProof.Rows.callWith_type1 (thn (ha.run pos pins s σ H _ I h) fun us s1 ⟨vs, H1, I1, r1, q1⟩ => ?_) hs rfl))
  obtain ⟨a, xs, ex, hq⟩ := q1
  subst ex
  cases r1 with
  | cons r rr =>
    cases rr
    cases r
    rcases hq with ⟨hq, q⟩ | ⟨hq, q⟩
    · obtain ⟨its, rv, p', hz⟩ := I1.list hq
      refine call_enumerate_list p'.isList fun h' he hit hsz hk => wpAny_pyIter_enum he ?_
      have I2 : Inv X pins σ H1 { s1 with heap := h' } := I1.kept (t' := s1.toks) hk
      refine ⟨s1.heap.objs.size + 1, [s1.heap.objs.size + 1, s1.heap.objs.size], _, _, H1, rfl, I2, turn_enum a (s1.heap.objs.size + 1) s1.heap.objs.size, ⟨⟨.none, he⟩, hit, Nat.succ_ne_self _⟩, fun b hb => ?_, q⟩
      have e' : b = s1.heap.objs.size + 1 ∨ b = s1.heap.objs.size := by simpa using hb
      have hle : s1.heap.objs.size ≤ b := by
        rcases e' with z | z
        · rw [z]; exact Nat.le_add_right _ _
        · rw [z]; exact Nat.le_refl _
      exact I1.fpOk hle (I1.hok.fresh hle)
    · obtain ⟨its, rv, p', hz⟩ := I1.tuple hq
      refine call_enumerate_tuple (show s1.heap.IsTuple a its.toArray from p') fun h' he hit hsz hk => wpAny_pyIter_enum he ?_
      have I2 : Inv X pins σ H1 { s1 with heap := h' } := I1.kept (t' := s1.toks) hk
      refine ⟨s1.heap.objs.size + 1, [s1.heap.objs.size + 1, s1.heap.objs.size], _, _, H1, rfl, I2, turn_enumT a (s1.heap.objs.size + 1) s1.heap.objs.size, ⟨⟨.none, he⟩, hit, Nat.succ_ne_self _⟩, fun b hb => ?_, q⟩
      have e' : b = s1.heap.objs.size + 1 ∨ b = s1.heap.objs.size := by simpa using hb
      have hle : s1.heap.objs.size ≤ b := by
        rcases e' with z | z
        · rw [z]; exact Nat.le_add_right _ _
        · rw [z]; exact Nat.le_refl _
      exact I1.fpOk hle (I1.hok.fresh hle)
theorem walk_enumT {K : PySem.W.Frag} {a : Addr} {xs : List V} : Walk (IteT K a) xs.length (fun H => SqT K H a xs) (YPair (fun i => some (.int (i : Nat))) (fun i => xs[i]?)) := by
  refine ⟨fun i _ hi q => ⟨xs, xs[i], q, by simp [hi]⟩, fun _ q => ⟨xs, q, Nat.le_refl _⟩, fun i H v H' _ q y => ?_⟩
  obtain ⟨T, x, h1, h2, h3, h4⟩ := y
  exact ⟨T, .int (i : Nat), x, h1, h2, h3, rfl, h4 xs q⟩

/-! ### a sequence: a list or a tuple -/
def SqA (K : PySem.W.Frag) (H : Hp) (a : Addr) (xs : List V) : Prop := SqL K H a xs ∨ SqT K H a xs
/-- what is walked, by its value -/
def rItL (K : PySem.W.Frag) (x : V) (H : Hp) (R : It → Hp → Prop) : Prop := ∃ a, x = .ref a ∧ (∃ xs, SqL K H a xs) ∧ R (Itl K a) H
def rItT (K : PySem.W.Frag) (x : V) (H : Hp) (R : It → Hp → Prop) : Prop := ∃ a, x = .ref a ∧ (∃ xs, SqT K H a xs) ∧ R (Itt K a) H
def rItS (x : V) (H : Hp) (R : It → Hp → Prop) : Prop := ∃ z, x = .str z ∧ R (Its z) H
def rItA (K : PySem.W.Frag) (x : V) (H : Hp) (R : It → Hp → Prop) : Prop := ∃ a xs, x = .ref a ∧ ((SqL K H a xs ∧ R (Itl K a) H) ∨ (SqT K H a xs ∧ R (Itt K a) H))
def rRg1 (vs : List V) (H : Hp) (R : It → Hp → Prop) : Prop := ∃ j : Int, vs = [.int j] ∧ -(2 ^ 62) ≤ j ∧ j < 2 ^ 62 ∧ R (Itr 0 j.toNat) H
def rRg2 (vs : List V) (H : Hp) (R : It → Hp → Prop) : Prop := ∃ i j : Int, vs = [.int i, .int j] ∧ (-(2 ^ 62) ≤ i ∧ i < 2 ^ 62 ∧ -(2 ^ 62) ≤ j ∧ j < 2 ^ 62) ∧ R (Itr i (j - i).toNat) H
def rZipL (K : PySem.W.Frag) (vs : List V) (H : Hp) (R : It → Hp → Prop) : Prop := ∃ a b xs ys, vs = [.ref a, .ref b] ∧ SqL K H a xs ∧ SqL K H b ys ∧ R (Itz K a b) H
def iE (r : V → Hp → (It → Hp → Prop) → Prop) (tl : TE) : TI := fun σ H R => tl σ H fun x H1 => r x H1 R
def iA (r : List V → Hp → (It → Hp → Prop) → Prop) (ta : TA) : TI := fun σ H R => ta σ H fun vs H1 => r vs H1 R
theorem p_list {X : Cx} {tg l : Expr} {tl : TE} (hl : PE X l tl) : PI X tg l (iE (rItL X.K) tl) := pi_list hl
theorem p_tup {X : Cx} {tg l : Expr} {tl : TE} (hl : PE X l tl) : PI X tg l (iE (rItT X.K) tl) := pi_tup hl
theorem p_seq {X : Cx} {tg l : Expr} {tl : TE} (hl : PE X l tl) : PI X tg l (iE (rItA X.K) tl) := by
  refine ⟨fun pins s σ H R I h => ?_⟩
  refine thn (hl.run pins s σ H _ I h) fun v s1 ⟨x, H1, I1, r1, q1⟩ => ?_
  obtain ⟨a, xs, e, q1⟩ := q1
  subst e
  cases r1
  rcases q1 with ⟨hq, q⟩ | ⟨hq, q⟩
  · obtain ⟨its, rv, p, hz⟩ := I1.list hq
    refine wpAny_pyIter_list p.isList ?_
    refine ⟨s1.heap.objs.size, [s1.heap.objs.size], _, _, H1, rfl, I1.kept (t' := s1.toks) fun b o e => Heap.get?_push_of_some _ e, turn_list a _, ⟨_, Heap.get?_push_size _ rfl, rfl, rfl⟩, fun b hb => ?_, q⟩
    have e : b = s1.heap.objs.size := by simpa using hb
    subst e
    exact I1.fpOk (Nat.le_refl _) (I1.hok.fresh (Nat.le_refl _))
  · obtain ⟨its, rv, p, hz⟩ := I1.tuple hq
    refine wpAny_pyIter_tuple (show s1.heap.IsTuple a its.toArray from p) ?_
    refine ⟨s1.heap.objs.size, [s1.heap.objs.size], _, _, H1, rfl, I1.kept (t' := s1.toks) fun b o e => Heap.get?_push_of_some _ e, turn_tuple a _, ⟨_, Heap.get?_push_size _ rfl, rfl, rfl⟩, fun b hb => ?_, q⟩
    have e : b = s1.heap.objs.size := by simpa using hb
    subst e
    exact I1.fpOk (Nat.le_refl _) (I1.hok.fresh (Nat.le_refl _))
theorem p_str {X : Cx} {tg l : Expr} {tl : TE} (hl : PE X l tl) : PI X tg l (iE rItS tl) := pi_str hl
theorem p_range1 {X : Cx} {tg a : Expr} {ta : TA} {p pos : Pos} (hm : X.mg "range" = none) (ha : PA X [a] ta) (hg : Gl X "range" := by rfl) (hs : starEach [a] X.env = [(false, eval a X.env)] := by rfl) : PI X tg (.Call (.Name "range" p) [a] [] pos) (iA rRg1 ta) := pi_range1 hg hm ha hs
theorem p_range2 {X : Cx} {tg a b : Expr} {ta : TA} {p pos : Pos} (hm : X.mg "range" = none) (ha : PA X [a, b] ta) (hg : Gl X "range" := by rfl) (hs : starEach [a, b] X.env = [(false, eval a X.env), (false, eval b X.env)] := by rfl) (hs2 : starEach [b] X.env = [(false, eval b X.env)] := by rfl) : PI X tg (.Call (.Name "range" p) [a, b] [] pos) (iA rRg2 ta) := pi_range2 hg hm ha hs hs2
theorem p_enum {X : Cx} {e : Expr} {ta : TA} {p pos tpos : Pos} {elts : List Expr} {kk : Nat} (hm : X.mg "enumerate" = none) (ha : PA X [e] ta) (hg : Gl X "enumerate" := by rfl) (hs : starEach [e] X.env = [(false, eval e X.env)] := by rfl) :
    PI X (.Tuple elts kk tpos) (.Call (.Name "enumerate" p) [e] [] pos) (iA (rEnumA X.K) ta) := pi_enumA hg hm ha hs
theorem p_zip {X : Cx} {e e2 : Expr} {ta : TA} {p pos tpos : Pos} {elts : List Expr} {kk : Nat} (hm : X.mg "zip" = none) (ha : PA X [e, e2] ta) (hg : Gl X "zip" := by rfl) (hs : starEach [e, e2] X.env = (false, eval e X.env) :: starEach [e2] X.env := by rfl) (hs2 : (backTo pos (starEach [e2] X.env)).any (·.1) = false := by rfl) :
    PI X (.Tuple elts kk tpos) (.Call (.Name "zip" p) [e, e2] [] pos) (iA (rZipL X.K) ta) := pi_zip hg hm ha hs hs2

/-! ### the built-in names that the module leaves alone -/
structure Bn (mg : Str → Option Value) : Prop where
  len : mg "len" = none
  range : mg "range" = none
  enumerate : mg "enumerate" = none
  zip : mg "zip" = none
  isinstance : mg "isinstance" = none
  int : mg "int" = none
  str : mg "str" = none
  bool : mg "bool" = none
  list : mg "list" = none
  tuple : mg "tuple" = none
  all : mg "all" = none
  any : mg "any" = none
  max : mg "max" = none
  min : mg "min" = none
  sum : mg "sum" = none

/-! ### defs and their promises, by one fact each -/
/-- the module's name x stands for the def st -/
def Def (K : PySem.W.Frag) (mg : Str → Option Value) (x : Str) (st : Stmt) : Prop :=
  ∃ (f : Addr) (fd : FuncData), mg x = some (.ref f) ∧ FunD K x x (defArgs st) (defBody st) (defScope st) [] [] f fd
/-- the class at C has the def st as its method m -/
def DefM (K : PySem.W.Frag) (C : Addr) (m q : Str) (st : Stmt) : Prop :=
  ∃ (f : Addr) (fd : FuncData), Meth K C m f ∧ FunD K m q (defArgs st) (defBody st) (defScope st) [] [] f fd
section
variable (P : Program) (w : World) (K : PySem.W.Frag) (mg : Str → Option Value) (base : Heap)
/-- the def x keeps sp -/
def Cal (k : Nat) (x : Str) (ps : List Str) (sp : Sp) : Prop :=
  ∃ (f : Addr) (fd : FuncData), mg x = some (.ref f) ∧ PySem.W.keepIn K (.ref f) = true ∧ Binds K fd ps [] ∧ FnOk P w K mg base CX0 k f fd ps sp
/-- the method m of the class at C keeps sp -/
def CalM (k : Nat) (C : Addr) (m : Str) (ps : List Str) (sp : Sp) : Prop :=
  ∃ (f : Addr) (fd : FuncData), Meth K C m f ∧ Binds K fd ps [] ∧ FnOk P w K mg base CX0 k f fd ps sp
/-- the class x at C is made, its __init__ keeps sp -/
def CalC (k : Nat) (x : Str) (C : Addr) (ps : List Str) (sp : Sp) : Prop :=
  mg x = some (.ref C) ∧ PySem.W.makesIn K C = true ∧ PySem.W.keepIn K (.ref C) = true ∧ CalM P w K mg base k C "__init__" ps sp
end
/-- the context of a def's body that lets nothing out -/
abbrev cxR (P : Program) (w : World) (K : PySem.W.Frag) (mg : Str → Option Value) (base : Heap) (N : List Str) (qual : Str) (scope : Scope) (f : Addr) (cd : Value) (A : Around) (outer : List Env) (s : Shared) (H : Hp) : Cx where
  prog := P
  w := w
  K := K
  mg := mg
  base := base
  A := A.deeper (envOfC qual scope s.heap.objs.size f cd)
  N := N
  s_0 := s
  H_0 := H
  env := envOfC qual scope s.heap.objs.size f cd
  outer := outer
  stack := envOfC qual scope s.heap.objs.size f cd :: outer
  ex := []
  calm := true
  fn := fun _ => true
  pn := []
  xe := fun _ _ => False
section
variable {P : Program} {w : World} {K : PySem.W.Frag} {mg : Str → Option Value} {base : Heap}
theorem Cal.of {x : Str} {st : Stmt} {N ps : List Str} {k : Nat} {sp : Sp} (D : Def K mg x st) (S : FnScope N ps (defScope st))
    (hb : ∀ (kV doc pm : Value) (an : Option Addr) (cdv ct : Value) (us : List Value), us.length = ps.length → bindArgs (PySem.W.fnOf x x (defArgs st) (defBody st) (defScope st) .none kV doc pm an cdv ct) ⟨us, []⟩ = pure (ps.zip us))
    (len : ∀ vs H Q E, sp vs H Q E → vs.length = ps.length)
    (hbody : ∀ (f : Addr) (cdv : Value) (A : Around) (outer : List Env) (s : Shared) (H : Hp) (vs : List V) (Q : VK) (E : XK), Room k (A.deeper (envOfC x (defScope st) s.heap.objs.size f cdv)) → sp vs H Q E →
      ∃ t, PSs (cxR P w K mg base N x (defScope st) f cdv A outer s H) (defBody st) t ∧ t { nx := fun _ H' => Q .non H', rt := Q } (start N vs) H) : Cal P w K mg base (k + 1) x ps sp := by
  obtain ⟨f, fd, hm, F⟩ := D
  refine ⟨f, fd, hm, F.kp, F.bindsN hb, F.ok S len fun cdv A outer s H vs Q E hr h => ?_⟩
  obtain ⟨t, h1, h2⟩ := hbody f cdv A outer s H vs Q E hr h
  exact ⟨t, PSs.nox h1, h2⟩
theorem CalM.of {C : Addr} {m q : Str} {st : Stmt} {N ps : List Str} {k : Nat} {sp : Sp} (D : DefM K C m q st) (S : FnScope N ps (defScope st))
    (hb : ∀ (kV doc pm : Value) (an : Option Addr) (cdv ct : Value) (us : List Value), us.length = ps.length → bindArgs (PySem.W.fnOf m q (defArgs st) (defBody st) (defScope st) .none kV doc pm an cdv ct) ⟨us, []⟩ = pure (ps.zip us))
    (len : ∀ vs H Q E, sp vs H Q E → vs.length = ps.length)
    (hbody : ∀ (f : Addr) (cdv : Value) (A : Around) (outer : List Env) (s : Shared) (H : Hp) (vs : List V) (Q : VK) (E : XK), Room k (A.deeper (envOfC q (defScope st) s.heap.objs.size f cdv)) → sp vs H Q E →
      ∃ t, PSs (cxR P w K mg base N q (defScope st) f cdv A outer s H) (defBody st) t ∧ t { nx := fun _ H' => Q .non H', rt := Q } (start N vs) H) : CalM P w K mg base (k + 1) C m ps sp := by
  obtain ⟨f, fd, hm, F⟩ := D
  refine ⟨f, fd, hm, F.bindsN hb, F.ok S len fun cdv A outer s H vs Q E hr h => ?_⟩
  obtain ⟨t, h1, h2⟩ := hbody f cdv A outer s H vs Q E hr h
  exact ⟨t, PSs.nox h1, h2⟩
theorem Cal.imp {x : Str} {ps : List Str} {j k : Nat} {sp sp' : Sp} (C : Cal P w K mg base j x ps sp) (hk : j ≤ k) (h : ∀ vs H Q E, sp' vs H Q E → sp vs H Q E) : Cal P w K mg base k x ps sp' := by
  obtain ⟨f, fd, a, b, c, d⟩ := C
  exact ⟨f, fd, a, b, c, (d.mono hk).imp h⟩
end
section
variable {X : Cx} {k j : Nat} {ps : List Str} {sp : Sp} {x m : Str} {C : Addr} {p pos apos : Pos} {e o : Expr} {es : List Expr} {ta : TE} {t : TA}
theorem pe_fn (c : Cal X.prog X.w X.K X.mg X.base k x ps sp) (hr : Room j X.A) (hk : k ≤ j) (ha : PA X (e :: es) t) (hg : Gl X x := by rfl)
    (hdb : (x == ("__debug__" : Str)) = false := by decide) (he : starEach (e :: es) X.env = (false, eval e X.env) :: starEach es X.env := by rfl) (hpl : (backTo pos (starEach es X.env)).any (·.1) = false := by rfl) :
    PE X (.Call (.Name x p) (e :: es) [] pos) (tCall sp [] E0 t) := by
  obtain ⟨f, fd, h1, h2, h3, h4⟩ := c
  exact pe_call h4 (hr.mono hk) hg h1 h2 h3 .nil pass0 ha hdb he hpl
theorem pe_fn0 (c : Cal X.prog X.w X.K X.mg X.base k x ps sp) (hr : Room j X.A) (hk : k ≤ j) (hg : Gl X x := by rfl)
    (hdb : (x == ("__debug__" : Str)) = false := by decide) : PE X (.Call (.Name x p) [] [] pos) (tCall sp [] E0 tNil) := by
  obtain ⟨f, fd, h1, h2, h3, h4⟩ := c
  exact pe_call0 h4 (hr.mono hk) hg h1 h2 h3 .nil pass0 hdb
theorem pe_mk (c : CalC X.prog X.w X.K X.mg X.base k x C ps sp) (hr : Room j X.A) (hk : k + 1 ≤ j) (ha : PA X (e :: es) t) (hg : Gl X x := by rfl)
    (hdb : (x == ("__debug__" : Str)) = false := by decide) (he : starEach (e :: es) X.env = (false, eval e X.env) :: starEach es X.env := by rfl) (hpl : (backTo pos (starEach es X.env)).any (·.1) = false := by rfl) :
    PE X (.Call (.Name x p) (e :: es) [] pos) (tMake C sp [] E0 t) := by
  obtain ⟨h1, h2, h3, f, fd, h4, h5, h6⟩ := c
  exact pe_make ⟨h2, h4.at_, h4.fn, h3⟩ h6 (hr.mono hk) hg h1 h5 .nil pass0 ha hdb he hpl
theorem pe_mt {pl : Sem Bool} (hx : PE X o ta) (cl : Cls X.K C) (c : CalM X.prog X.w X.K X.mg X.base k C m ps sp) (hr : Room j X.A) (hk : k ≤ j) (ha : PA X (e :: es) t)
    (hst : starEach (e :: es) X.env = (false, eval e X.env) :: starEach es X.env := by rfl) (hpl : (backTo pos (starEach es X.env)).any (·.1) = false := by rfl)
    (ht : eval (.Call (.Attribute o m apos) (e :: es) [] pos) X.env = (do
      let ov ← eval o X.env
      standAt apos.atName
      let (f, first) ← holding [ov] (getMethod ov m pl)
      callWith pos f first (backTo pos (starEach (e :: es) X.env)) (backToKw pos (keywordEach [] X.env))) := by rfl) :
    PE X (.Call (.Attribute o m apos) (e :: es) [] pos) (tMeth C m sp [] E0 ta t) := by
  obtain ⟨f, fd, h1, h2, h3⟩ := c
  exact pe_meth hx cl h1 h3 (hr.mono hk) h2 .nil pass0 ha hst hpl ht
theorem pe_mt0 {pl : Sem Bool} (hx : PE X o ta) (cl : Cls X.K C) (c : CalM X.prog X.w X.K X.mg X.base k C m ps sp) (hr : Room j X.A) (hk : k ≤ j)
    (ht : eval (.Call (.Attribute o m apos) [] [] pos) X.env = (do
      let ov ← eval o X.env
      standAt apos.atName
      let (f, first) ← holding [ov] (getMethod ov m pl)
      callWith pos f first (backTo pos (starEach [] X.env)) (backToKw pos (keywordEach [] X.env))) := by rfl) :
    PE X (.Call (.Attribute o m apos) [] [] pos) (tMeth C m sp [] E0 ta tNil) := by
  obtain ⟨f, fd, h1, h2, h3⟩ := c
  exact pe_meth0 hx cl h1 h3 (hr.mono hk) h2 .nil pass0 ht
end
/-! ### a test or a value told at once -/
def tAns (t : TT) : TT := fun σ H Q => ∃ b, (∀ Q' : Bool → Hp → Prop, Q' b H → t σ H Q') ∧ Q b H
theorem pt_ans {X : Cx} {e : Expr} {t : TT} (h : PT X e t) : PT X e (tAns t) := ⟨fun pins s σ H Q I hq => by
  obtain ⟨b, h1, h2⟩ := hq
  exact h.run pins s σ H Q I (h1 Q h2)⟩
def tVal (t : TE) : TE := fun σ H Q => ∃ v, (∀ Q' : VK, Q' v H → t σ H Q') ∧ Q v H
theorem pe_val {X : Cx} {e : Expr} {t : TE} (h : PE X e t) : PE X e (tVal t) := ⟨fun pins s σ H Q I hq => by
  obtain ⟨b, h1, h2⟩ := hq
  exact h.run pins s σ H Q I (h1 Q h2)⟩
/-! ### what stands between two statements, said -/
def tMid (t u : TS) : TS := fun D σ H => ∃ Mid : L2.St → Hp → Prop, t { D with nx := Mid } σ H ∧ ∀ σ' H', Mid σ' H' → u D σ' H'
theorem pss_cutL {X : Cx} {st : Stmt} {rest : List Stmt} {t u : TS} (h1 : PS X st t) (h2 : PSs X rest u) : PSs X (st :: rest) (tMid t u) := by
  refine ⟨fun pins s σ H D I h => ?_⟩
  obtain ⟨M, h3, h4⟩ := h
  exact (pss_cons (t := fun D' σ' H' => t { D' with nx := M } σ' H' ∧ ∀ σ'' H'', M σ'' H'' → D'.nx σ'' H'') (u := u)
    ⟨fun pins s σ H D I h => wpAny_mono (h1.run pins s σ H _ I h.1) (fun f s' q => by
      cases f with
      | next => obtain ⟨σ', H', I', q'⟩ := q; exact ⟨σ', H', I', h.2 _ _ q'⟩
      | _ => exact q) fun _ _ e => e⟩ h2).run pins s σ H D I ⟨h3, h4⟩
/-! ### heaps -/
/-- all but what stands at st is as it was -/
def Fr (st : Addr) (H H' : Hp) : Prop := ∀ b o, b ≠ st → H b = some o → H' b = some o
theorem Fr.refl {st : Addr} {H : Hp} : Fr st H H := fun _ _ _ h => h
theorem Fr.trans {st : Addr} {H H1 H2 : Hp} (a : Fr st H H1) (b : Fr st H1 H2) : Fr st H H2 := fun c o n h => b c o n (a c o n h)
theorem Fr.same {st : Addr} {H H1 H2 : Hp} (a : Fr st H H1) (b : Same H1 H2) : Fr st H H2 := fun c o n h => b c o (a c o n h)
theorem Fr.new {st p : Addr} {H H1 : Hp} {u : HO} (a : Fr st H H1) (np : H1 p = none) : Fr st H (upd H1 p u) := fun c o n h => by
  have q := a c o n h
  rw [upd_ne (ne_of_none q np)]; exact q
theorem Fr.at {st : Addr} {H H1 : Hp} {u : HO} (a : Fr st H H1) : Fr st H (upd H1 st u) := fun c o n h => by
  rw [upd_ne n]; exact a c o n h
theorem Fr.mut {st p : Addr} {H H1 : Hp} {u : HO} (a : Fr st H H1) (np : H p = none) : Fr st H (upd H1 p u) := fun c o n h => by
  rw [upd_ne (ne_of_none h np)]; exact a c o n h
theorem Same.fr {st : Addr} {H H1 : Hp} (a : Same H H1) : Fr st H H1 := fun c o _ h => a c o h
theorem Same.new {p : Addr} {H H1 : Hp} {u : HO} (a : Same H H1) (np : H1 p = none) : Same H (upd H1 p u) := fun c o h => by
  have q := a c o h
  rw [upd_ne (ne_of_none q np)]; exact q
theorem Same.mut {p : Addr} {H H1 : Hp} {u : HO} (a : Same H H1) (np : H p = none) : Same H (upd H1 p u) := fun c o h => by
  rw [upd_ne (ne_of_none h np)]; exact a c o h
theorem upd_new {H : Hp} {p q : Addr} {o u : HO} (h : H q = some o) (n : H p = none) : upd H p u q = some o := by rw [upd_ne (ne_of_none h n)]; exact h
theorem upd_old {H : Hp} {p q : Addr} {o u : HO} (h : H q = some o) (n : q ≠ p) : upd H p u q = some o := by rw [upd_ne n]; exact h
theorem Same.none {H H' : Hp} {p : Addr} (s : Same H H') (n : H' p = none) : H p = none := s.free n
theorem new_none {H : Hp} {p q : Addr} {u : HO} (n : upd H p u q = none) : H q = none := by
  by_cases e : q = p
  · subst e; rw [upd_same] at n; cases n
  · rw [upd_ne e] at n; exact n
theorem sm_get {H H' : Hp} {q : Addr} {o : HO} (s : Same H H') (h : H q = some o) : H' q = some o := s _ _ h
theorem fr_get {st : Addr} {H H' : Hp} {q : Addr} {o : HO} (s : Fr st H H') (h : H q = some o) (n : q ≠ st) : H' q = some o := s _ _ n h
theorem sl_of {K : PySem.W.Frag} {H : Hp} {p : Addr} {xs : List V} (h : H p = some (.lst xs)) : SqL K H p xs := .inl (.inl h)
theorem st_of {K : PySem.W.Frag} {H : Hp} {p : Addr} {xs : List V} (h : H p = some (.tup xs)) : SqT K H p xs := .inl (.inl h)
theorem rd_new {H : Hp} {p q : Addr} {u o : HO} (h : Rd H q u) (n : H p = none) : Rd (upd H p o) q u := by
  rcases h with h | ⟨b, h⟩
  · exact .inl (upd_new h n)
  · exact .inr ⟨b, upd_new h n⟩
theorem rd_sm {H H' : Hp} {q : Addr} {u : HO} (s : Same H H') (h : Rd H q u) : Rd H' q u := by
  rcases h with h | ⟨b, h⟩
  · exact .inl (s _ _ h)
  · exact .inr ⟨b, s _ _ h⟩
theorem sl_new {K : PySem.W.Frag} {H : Hp} {p q : Addr} {o : HO} {xs : List V} (h : SqL K H q xs) (n : H p = none) : SqL K (upd H p o) q xs := h.imp (fun h => rd_new h n) id
theorem st_new {K : PySem.W.Frag} {H : Hp} {p q : Addr} {o : HO} {xs : List V} (h : SqT K H q xs) (n : H p = none) : SqT K (upd H p o) q xs := h.imp (fun h => rd_new h n) id
theorem sl_sm {K : PySem.W.Frag} {H H' : Hp} {q : Addr} {xs : List V} (s : Same H H') (h : SqL K H q xs) : SqL K H' q xs := h.imp (fun h => rd_sm s h) id
theorem st_sm {K : PySem.W.Frag} {H H' : Hp} {q : Addr} {xs : List V} (s : Same H H') (h : SqT K H q xs) : SqT K H' q xs := h.imp (fun h => rd_sm s h) id
theorem rd_fr {st : Addr} {H H' : Hp} {q : Addr} {u : HO} (s : Fr st H H') (n : q ≠ st) (h : Rd H q u) : Rd H' q u := by
  rcases h with h | ⟨b, h⟩
  · exact .inl (s _ _ n h)
  · exact .inr ⟨b, s _ _ n h⟩
theorem sl_fr {K : PySem.W.Frag} {st : Addr} {H H' : Hp} {q : Addr} {xs : List V} (s : Fr st H H') (n : q ≠ st) (h : SqL K H q xs) : SqL K H' q xs := h.imp (fun h => rd_fr s n h) id
theorem st_fr {K : PySem.W.Frag} {st : Addr} {H H' : Hp} {q : Addr} {xs : List V} (s : Fr st H H') (n : q ≠ st) (h : SqT K H q xs) : SqT K H' q xs := h.imp (fun h => rd_fr s n h) id
theorem sa_fr {K : PySem.W.Frag} {st : Addr} {H H' : Hp} {q : Addr} {xs : List V} (s : Fr st H H') (n : q ≠ st) (h : SqA K H q xs) : SqA K H' q xs := h.imp (fun h => sl_fr s n h) (fun h => st_fr s n h)
theorem sa_new {K : PySem.W.Frag} {H : Hp} {p q : Addr} {o : HO} {xs : List V} (h : SqA K H q xs) (n : H p = none) : SqA K (upd H p o) q xs := h.imp (fun h => sl_new h n) (fun h => st_new h n)
theorem sa_sm {K : PySem.W.Frag} {H H' : Hp} {q : Addr} {xs : List V} (s : Same H H') (h : SqA K H q xs) : SqA K H' q xs := h.imp (fun h => sl_sm s h) (fun h => st_sm s h)
theorem sa_l {K : PySem.W.Frag} {H : Hp} {q : Addr} {xs : List V} (h : H q = some (.lst xs)) : SqA K H q xs := .inl (sl_of h)
theorem sa_t {K : PySem.W.Frag} {H : Hp} {q : Addr} {xs : List V} (h : H q = some (.tup xs)) : SqA K H q xs := .inr (st_of h)
theorem ty_sm {K : PySem.W.Frag} {H H' : Hp} {v : V} {t : Value} (s : Same H H') (h : TyX K H v t) : TyX K H' v t := by
  cases h with
  | base b =>
    refine .base ?_
    cases b with
    | non => exact .non
    | bl x => exact .bl x
    | int i => exact .int i
    | str x => exact .str x
    | flt x => exact .flt x
    | lst e => exact .lst (s _ _ e)
    | frz e => exact .frz (s _ _ e)
    | tup e => exact .tup (s _ _ e)
    | dK e => exact .dK (s _ _ e)
    | dT e => exact .dT (s _ _ e)
    | ins e cl ha hn htk hm => exact .ins (s _ _ e) cl ha hn htk hm
  | byt b => exact .byt b
  | set e => exact .set (s _ _ e)
  | kList e c => exact .kList e c
  | kTuple e c => exact .kTuple e c
  | kDict e c => exact .kDict e c
  | fTuple e => exact .fTuple (s _ _ e)
  | fDict e => exact .fDict (s _ _ e)
theorem ty_new {K : PySem.W.Frag} {H : Hp} {v : V} {t : Value} {p : Addr} {o : HO} (h : TyX K H v t) (np : H p = none) : TyX K (upd H p o) v t := ty_sm (fun _ _ e => upd_new e np) h
/-- a heap of one object -/
theorem rd_one {H : Hp} {p : Addr} {o u : HO} (h : H p = some o) (r : Rd (fun b => if b = p then some o else none) p u) : Rd H p u := by
  rcases r with r | ⟨b, r⟩
  · have r' : some o = some u := by simpa using r
    cases r'
    exact .inl h
  · have r' : some o = some (.frz b u) := by simpa using r
    cases r'
    exact .inr ⟨b, h⟩
end Lf

set_option Elab.async false
set_option linter.all false
set_option maxRecDepth 100000
set_option maxHeartbeats 2000000
/-! Readings step by step: one lemma a shape, by the head of the goal. -/
namespace Lf
open PySem L2

/-! ### readings under names -/
def rLen (K : PySem.W.Frag) : List V → Hp → VK → Prop := fun xs H Q => ∃ x n, xs = [x] ∧ LenV K x H n ∧ Q (.int (n : Nat)) H
theorem c_len {X : Cx} : CallR X (.builtin "len") (rLen X.K) := call_len
def rInt1 : List V → Hp → VK → Prop := fun xs H Q => (∃ i, xs = [.int i] ∧ Q (.int i) H) ∨ ∃ k, xs = [.bl k] ∧ Q (.int (if k then 1 else 0)) H
theorem c_int {X : Cx} : CallR X (.type "int") rInt1 := call_int1
def rListOf (K : PySem.W.Frag) : List V → Hp → VK → Prop := fun xs H Q => ∃ p ys, xs = [.ref p] ∧ (SqL K H p ys ∨ SqT K H p ys) ∧ ∀ l, H l = none → Q (.ref l) (upd H l (.lst ys))
theorem c_list {X : Cx} : CallR X (.type "list") (rListOf X.K) := call_list_of
def rTupOf (K : PySem.W.Frag) : List V → Hp → VK → Prop := fun xs H Q => ∃ p ys, xs = [.ref p] ∧ ((SqL K H p ys ∧ ∀ l, H l = none → Q (.ref l) (upd H l (.tup ys))) ∨ (SqT K H p ys ∧ Q (.ref p) H))
theorem c_tuple {X : Cx} : CallR X (.type "tuple") (rTupOf X.K) := call_tuple_of
def rAddS2 : R2 := fun x y H Q => ∃ i j, x = .str i ∧ y = .str j ∧ i.length + j.length ≤ sizeLine ∧ Q (.str (i ++ j)) H
theorem o_adds {X : Cx} : OpR X (binaryOp .Add) rAddS2 := op_add_str
def rInSign : R2 := fun x y H Q => ∃ (c : Nat) (z : Str), x = .str ⟨#[c]⟩ ∧ y = .str z ∧ Q (.bl (decide (c ∈ z.cps.toList))) H
theorem o_insign {X : Cx} : OpR X (compareOp .In) rInSign := op_in_sign

/-! ### the rules with the written part named (so that a reading does not hang on its context) -/
section
variable {X : Cx} (K : PySem.W.Frag)
theorem x_list (h : X.K = K := by rfl) : IxR X (rIxL K) := h ▸ ix_list
theorem x_tup (h : X.K = K := by rfl) : IxR X (rIxT K) := h ▸ ix_tup
theorem x_seq (h : X.K = K := by rfl) : IxR X (rIx K) := h ▸ ix_seq
theorem y_list (h : X.K = K := by rfl) : SlR X (rSlL K) := h ▸ sl_list
theorem y_tup (h : X.K = K := by rfl) : SlR X (rSlA K) := h ▸ sl_tupA
theorem n_len (h : X.K = K := by rfl) : CallR X (.builtin "len") (rLen K) := h ▸ c_len
theorem n_list (h : X.K = K := by rfl) : CallR X (.type "list") (rListOf K) := h ▸ c_list
theorem n_tuple (h : X.K = K := by rfl) : CallR X (.type "tuple") (rTupOf K) := h ▸ c_tuple
theorem n_all (hc : X.calm = true) (h : X.K = K := by rfl) : CallR X (.builtin "all") (rAll K) := h ▸ cr_all hc
theorem n_any (hc : X.calm = true) (h : X.K = K := by rfl) : CallR X (.builtin "any") (rAny K) := h ▸ cr_any hc
theorem n_max (hc : X.calm = true) (h : X.K = K := by rfl) : CallR X (.builtin "max") (rMax K) := h ▸ cr_max hc
theorem n_min (hc : X.calm = true) (h : X.K = K := by rfl) : CallR X (.builtin "min") (rMin K) := h ▸ cr_min hc
theorem n_sum (hc : X.calm = true) (h : X.K = K := by rfl) : CallR X (.builtin "sum") (rSum K) := h ▸ cr_sum hc
theorem n_isi (h : X.K = K := by rfl) : CallR X (.builtin "isinstance") (rIsi K) := h ▸ call_isi
theorem n_isiT (h : X.K = K := by rfl) : CallR X (.builtin "isinstance") (rIsiT K) := h ▸ call_isiT
theorem o_inq (h : X.K = K := by rfl) : OpR X (compareOp .In) (rIn K false) := h ▸ op_in_seq
theorem o_ninq (h : X.K = K := by rfl) : OpR X (compareOp .NotIn) (rIn K true) := h ▸ op_notIn_seq
theorem o_eqD (hu : X.A.units + 64 < cLine) (h : X.K = K := by rfl) : OpR X (compareOp .Eq) (rEqD K) := h ▸ op_eqD hu
theorem o_neD (hu : X.A.units + 64 < cLine) (h : X.K = K := by rfl) : OpR X (compareOp .NotEq) (rNeD K) := h ▸ op_neD hu
theorem q_seq {tg l : Expr} {tl : TE} (hl : PE X l tl) (h : X.K = K := by rfl) : PI X tg l (iE (rItA K) tl) := h ▸ p_seq hl
theorem q_enum {e : Expr} {ta : TA} {p pos tpos : Pos} {elts : List Expr} {kk : Nat} (hm : X.mg "enumerate" = none) (ha : PA X [e] ta) (hg : Gl X "enumerate" := by rfl) (hs : starEach [e] X.env = [(false, eval e X.env)] := by rfl) (h : X.K = K := by rfl) :
    PI X (.Tuple elts kk tpos) (.Call (.Name "enumerate" p) [e] [] pos) (iA (rEnumA K) ta) := h ▸ p_enum hm ha hg hs
theorem q_zip {e e2 : Expr} {ta : TA} {p pos tpos : Pos} {elts : List Expr} {kk : Nat} (hm : X.mg "zip" = none) (ha : PA X [e, e2] ta) (hg : Gl X "zip" := by rfl) (hs : starEach [e, e2] X.env = (false, eval e X.env) :: starEach [e2] X.env := by rfl) (hs2 : (backTo pos (starEach [e2] X.env)).any (·.1) = false := by rfl) (h : X.K = K := by rfl) :
    PI X (.Tuple elts kk tpos) (.Call (.Name "zip" p) [e, e2] [] pos) (iA (rZipL K) ta) := h ▸ p_zip hm ha hg hs hs2
theorem e_fld {e : Expr} {f : Str} {ta : TE} {pos : Pos} (he : PE X e ta) (hb : attributeBase e f X.env (eval e X.env) = eval e X.env := by rfl) (h : X.K = K := by rfl) : PE X (.Attribute e f pos) (tFld K ta f) := h ▸ pe_fld he hb
theorem e_bm {o e : Expr} {es : List Expr} {to : TE} {t : TA} {name : Str} {apos cpos : Pos} {T id : String} {r : V → List V → Hp → VK → Prop} (pa : PlainAttrs T) (slot : Slot T name id) (hty : typeOf (.builtin id) = pure (.type "method_descriptor")) (hm : MtR X id r) (ho : PE X o to) (ha : PA X (e :: es) t)
    (hbase : attributeBase o name X.env (eval o X.env) = eval o X.env := by rfl)
    (hfew : ((backTo cpos (starEach (e :: es) X.env)).all (fun x => !x.1) && (backToKw cpos (keywordEach [] X.env)).all (fun x => x.1.isSome)
      && decide ((e :: es).length + ([] : List Keyword).length + (if ([] : List Keyword).isEmpty then 0 else 1) < 30)) = true := by rfl)
    (hline : (apos.endLine == cpos.line) = true := by rfl) (hs : starEach (e :: es) X.env = (false, eval e X.env) :: starEach es X.env := by rfl) (hplain : (backTo cpos (starEach es X.env)).any (·.1) = false := by rfl) (h : X.K = K := by rfl) :
    PE X (.Call (.Attribute o name apos) (e :: es) [] cpos) (tBM K T r to t) := h ▸ pe_bm pa slot hty hm ho ha hbase hfew hline hs hplain
theorem e_bm0 {o : Expr} {to : TE} {name : Str} {apos cpos : Pos} {T id : String} {r : V → List V → Hp → VK → Prop} (pa : PlainAttrs T) (slot : Slot T name id) (hty : typeOf (.builtin id) = pure (.type "method_descriptor")) (hm : MtR X id r) (ho : PE X o to)
    (hbase : attributeBase o name X.env (eval o X.env) = eval o X.env := by rfl) (hline : (apos.endLine == cpos.line) = true := by rfl) (h : X.K = K := by rfl) : PE X (.Call (.Attribute o name apos) [] [] cpos) (tBM0 K T r to) := h ▸ pe_bm0 pa slot hty hm ho hbase hline
theorem t_fld {o value : Expr} {f : Str} {ta tv : TE} {pos pos' : Pos} (ha : PE X o ta) (hv : PE X value tv) (hs : swapsWith value (some (.Attribute o f pos')) pos.line X.env = pure false := by rfl) (h : X.K = K := by rfl) : PS X (.Assign [.Attribute o f pos'] value pos) (sFld K ta tv f) := h ▸ ps_fld ha hv hs
end
def rRgt (x : V) (H1 : Hp) (Q : Int → Int → Hp → Prop) : Prop := ∃ n, x = .int n ∧ Q 0 n H1
/-! ### loops under names -/
def ForB (g : TG) (tb : TS) (D : Ends) (σ : L2.St) : It → Hp → Prop := fun J H1 => ∃ W : Nat → Nat → L2.St → Hp → Prop, (∃ m, W 0 m σ H1) ∧ ∀ i m σ H, W i m σ H →
    (J.stop i H ∧ D.nx σ H) ∨ (J.go i H ∧ ∃ N : L2.St → Hp → Prop, (∀ σ' H', N σ' H' → ∃ m', m' < m ∧ W (i + 1) m' σ' H') ∧ ∀ x H', J.yld i H x H' → g x σ H' fun σ2 H2 => tb { D with nx := N, ct := N, bk := D.nx } σ2 H2)
def LcB (g : TG) (tt : TT) (te : TE) (vs : List Nat) (σ : L2.St) (Q : VK) : It → Hp → Prop := fun J H1 => ∀ D, H1 D = none → ∃ W : Nat → Nat → Hp → Prop, (∃ m, W 0 m (upd H1 D (.lst []))) ∧ ∀ i m H, W i m H →
    (J.stop i H ∧ Q (.ref D) H) ∨ (J.go i H ∧ ∃ Nx : Hp → Prop, (∀ H', Nx H' → ∃ m', m' < m ∧ W (i + 1) m' H') ∧ ∀ x H', J.yld i H x H' → g x (wipe σ vs) H' fun σ2 H2 => wipe σ2 vs = wipe σ vs ∧ tt σ2 H2 fun b H3 =>
    if b = true then te σ2 H3 fun y H4 => ∃ acc, H4 D = some (.lst acc) ∧ acc.length < sizeLine ∧ Nx (upd H4 D (.lst (acc ++ [y]))) else Nx H3)
theorem for_w {J : It} {n : Nat} {G : Hp → Prop} {Y : Nat → Hp → V → Hp → Prop} (w : Walk J n G Y) {g : TG} {tb : TS} {D : Ends} {σ : L2.St} {H : Hp} (Pv : Nat → L2.St → Hp → Prop) (h0 : Pv 0 σ H) (hG : ∀ i σ H, i ≤ n → Pv i σ H → G H)
    (hs : ∀ i x σ H H', i < n → Pv i σ H → Y i H x H' → g x σ H' fun σ2 H2 => tb { D with nx := Pv (i + 1), ct := Pv (i + 1), bk := D.nx } σ2 H2) (hd : ∀ σ H, Pv n σ H → D.nx σ H) : ForB g tb D σ J H := for_it w Pv h0 hG hs hd
theorem lc_w {J : It} {n : Nat} {G : Hp → Prop} {Y : Nat → Hp → V → Hp → Prop} (w : Walk J n G Y) {g : TG} {tt : TT} {te : TE} {vs : List Nat} {σ : L2.St} {H1 : Hp} {Q : VK} (Pv : Addr → Nat → Hp → Prop) (h0 : ∀ D, H1 D = none → Pv D 0 (upd H1 D (.lst []))) (hG : ∀ D i H, H1 D = none → i ≤ n → Pv D i H → G H)
    (hs : ∀ D i x H H', H1 D = none → i < n → Pv D i H → Y i H x H' → g x (wipe σ vs) H' fun σ2 H2 => wipe σ2 vs = wipe σ vs ∧ tt σ2 H2 fun b H3 =>
      if b = true then te σ2 H3 fun y H4 => ∃ acc, H4 D = some (.lst acc) ∧ acc.length < sizeLine ∧ Pv D (i + 1) (upd H4 D (.lst (acc ++ [y]))) else Pv D (i + 1) H3) (hd : ∀ D H, H1 D = none → Pv D n H → Q (.ref D) H) : LcB g tt te vs σ Q J H1 :=
  fun D nD => lc_it w (Pv D) (h0 D nD) (fun i H hi p => hG D i H nD hi p) (fun i x H H' hi p y => hs D i x H H' nD hi p y) (fun H p => hd D H nD p)
theorem walk_r0 {n : Nat} : Walk (Itr 0 n) n (fun _ => True) (fun i H x H' => H' = H ∧ x = .int (i : Nat)) :=
  walk_range.mono (fun _ h => h) fun i H x H' _ _ y => ⟨y.1, by rw [y.2]; exact congrArg V.int (by omega)⟩
/-! ### own instances -/
def rFld (K : PySem.W.Frag) (f : Str) (x : V) (H1 : Hp) (Q : VK) : Prop := ∃ a C dx fs v, x = .ref a ∧ H1 a = some (.ins C dx fs) ∧ Cls K C ∧ NoAttr K C f ∧ fs.lookup f = some v ∧ Q v H1
def rPut (K : PySem.W.Frag) (f : Str) (x y : V) (H2 : Hp) (N : Hp → Prop) : Prop := ∃ a C dx fs, x = .ref a ∧ H2 a = some (.ins C dx fs) ∧ Cls K C ∧ NoAttr K C f ∧ fs.length < 1000 ∧ N (upd H2 a (.ins C dx (putF f y fs)))
/-- a new instance is made -/
def MkB (C : Addr) (sp : Sp) (vs : List V) (H1 : Hp) (Q : VK) : Prop := ∀ x dx, H1 x = none → H1 dx = none → dx ≠ x → sp (.ref x :: (vs ++ [])) (upd (upd H1 dx (.own x)) x (.ins C dx [])) (fun v H2 => v = .non ∧ Q (.ref x) H2) E0
/-- the field f of the instance at a holds v -/
def Fl (K : PySem.W.Frag) (H : Hp) (a : Addr) (f : Str) (v : V) : Prop := ∃ C dx fs, H a = some (.ins C dx fs) ∧ Cls K C ∧ NoAttr K C f ∧ fs.lookup f = some v
/-- an instance of C, no field of which is m -/
def Mt (H : Hp) (a C : Addr) (m : Str) : Prop := ∃ dx fs, H a = some (.ins C dx fs) ∧ fs.lookup m = none
/-- an instance of C -/
def Is (H : Hp) (a C : Addr) : Prop := ∃ dx fs, H a = some (.ins C dx fs)
theorem ins_put {H : Hp} {p C dx C' dx' : Addr} {fs fs' : List (Str × V)} : upd (upd H p (.ins C dx fs)) p (.ins C' dx' fs') = upd H p (.ins C' dx' fs') := upd_upd
theorem sl_ins {K : PySem.W.Frag} {H : Hp} {a p C dx : Addr} {fs : List (Str × V)} {o : HO} {xs : List V} (hp : H p = some (.ins C dx fs)) (h : SqL K H a xs) : SqL K (upd H p o) a xs := by
  refine h.imp (fun h => ?_) id
  rcases h with h | ⟨b, h⟩
  · exact .inl (by rw [upd_ne (ne_of h hp (by intro z; cases z))]; exact h)
  · exact .inr ⟨b, by rw [upd_ne (ne_of h hp (by intro z; cases z))]; exact h⟩
theorem st_ins {K : PySem.W.Frag} {H : Hp} {a p C dx : Addr} {fs : List (Str × V)} {o : HO} {xs : List V} (hp : H p = some (.ins C dx fs)) (h : SqT K H a xs) : SqT K (upd H p o) a xs := by
  refine h.imp (fun h => ?_) id
  rcases h with h | ⟨b, h⟩
  · exact .inl (by rw [upd_ne (ne_of h hp (by intro z; cases z))]; exact h)
  · exact .inr ⟨b, by rw [upd_ne (ne_of h hp (by intro z; cases z))]; exact h⟩
theorem sa_ins {K : PySem.W.Frag} {H : Hp} {a p C dx : Addr} {fs : List (Str × V)} {o : HO} {xs : List V} (hp : H p = some (.ins C dx fs)) (h : SqA K H a xs) : SqA K (upd H p o) a xs := h.imp (sl_ins hp) (st_ins hp)
/-! ### isinstance -/
theorem kb_NoneType_str : kitB "NoneType" "str" = some false := by decide +kernel
theorem kb_NoneType_int : kitB "NoneType" "int" = some false := by decide +kernel
theorem kb_NoneType_bool : kitB "NoneType" "bool" = some false := by decide +kernel
theorem kb_NoneType_list : kitB "NoneType" "list" = some false := by decide +kernel
theorem kb_NoneType_tuple : kitB "NoneType" "tuple" = some false := by decide +kernel
theorem kb_NoneType_dict : kitB "NoneType" "dict" = some false := by decide +kernel
theorem kb_bool_str : kitB "bool" "str" = some false := by decide +kernel
theorem kb_bool_int : kitB "bool" "int" = some true := by decide +kernel
theorem kb_bool_bool : kitB "bool" "bool" = some true := by decide +kernel
theorem kb_bool_list : kitB "bool" "list" = some false := by decide +kernel
theorem kb_bool_tuple : kitB "bool" "tuple" = some false := by decide +kernel
theorem kb_bool_dict : kitB "bool" "dict" = some false := by decide +kernel
theorem kb_int_str : kitB "int" "str" = some false := by decide +kernel
theorem kb_int_int : kitB "int" "int" = some true := by decide +kernel
theorem kb_int_bool : kitB "int" "bool" = some false := by decide +kernel
theorem kb_int_list : kitB "int" "list" = some false := by decide +kernel
theorem kb_int_tuple : kitB "int" "tuple" = some false := by decide +kernel
theorem kb_int_dict : kitB "int" "dict" = some false := by decide +kernel
theorem kb_str_str : kitB "str" "str" = some true := by decide +kernel
theorem kb_str_int : kitB "str" "int" = some false := by decide +kernel
theorem kb_str_bool : kitB "str" "bool" = some false := by decide +kernel
theorem kb_str_list : kitB "str" "list" = some false := by decide +kernel
theorem kb_str_tuple : kitB "str" "tuple" = some false := by decide +kernel
theorem kb_str_dict : kitB "str" "dict" = some false := by decide +kernel
theorem kb_list_str : kitB "list" "str" = some false := by decide +kernel
theorem kb_list_int : kitB "list" "int" = some false := by decide +kernel
theorem kb_list_bool : kitB "list" "bool" = some false := by decide +kernel
theorem kb_list_list : kitB "list" "list" = some true := by decide +kernel
theorem kb_list_tuple : kitB "list" "tuple" = some false := by decide +kernel
theorem kb_list_dict : kitB "list" "dict" = some false := by decide +kernel
theorem kb_tuple_str : kitB "tuple" "str" = some false := by decide +kernel
theorem kb_tuple_int : kitB "tuple" "int" = some false := by decide +kernel
theorem kb_tuple_bool : kitB "tuple" "bool" = some false := by decide +kernel
theorem kb_tuple_list : kitB "tuple" "list" = some false := by decide +kernel
theorem kb_tuple_tuple : kitB "tuple" "tuple" = some true := by decide +kernel
theorem kb_tuple_dict : kitB "tuple" "dict" = some false := by decide +kernel
theorem kb_dict_str : kitB "dict" "str" = some false := by decide +kernel
theorem kb_dict_int : kitB "dict" "int" = some false := by decide +kernel
theorem kb_dict_bool : kitB "dict" "bool" = some false := by decide +kernel
theorem kb_dict_list : kitB "dict" "list" = some false := by decide +kernel
theorem kb_dict_tuple : kitB "dict" "tuple" = some false := by decide +kernel
theorem kb_dict_dict : kitB "dict" "dict" = some true := by decide +kernel
theorem ka1 {K : PySem.W.Frag} {t c1 : Value} {r1 : Bool} (h1 : PySem.W.kitOne K t c1 = some r1) : PySem.W.kitAny K t [c1] = some r1 := by
  unfold PySem.W.kitAny
  rw [h1]
  cases r1 <;> rfl
theorem kaC {K : PySem.W.Frag} {t c : Value} {cs : List Value} {r1 r2 : Bool} (h1 : PySem.W.kitOne K t c = some r1) (h2 : PySem.W.kitAny K t cs = some r2) : PySem.W.kitAny K t (c :: cs) = some (r1 || r2) := by
  unfold PySem.W.kitAny
  rw [h1]
  cases r1
  · exact h2
  · rfl
theorem kb0 {K : PySem.W.Frag} {t : Value} : PySem.W.kitAny K t [] = some false := rfl
section
variable {K : PySem.W.Frag} {σ : L2.St} {H H' : Hp} {D : Ends} {Q : VK} {Qb : Bool → Hp → Prop} {Qa : List V → Hp → Prop} {t u v : TS} {ta tb tc te : TE} {tr : TA} {c d : TT} {x y z : V} {i j : Nat} {A B : Prop} {g : TG} {gs : TGs} {r : R2}

/-! ### statements -/
theorem k_seq (h : t { D with nx := u D } σ H) : tSeq t u D σ H := h
theorem k_set (h : te σ H fun x H1 => D.nx (σ.set i (some x)) H1) : tAsg te (gName i) D σ H := h
theorem k_asg (h : te σ H fun x H1 => g x σ H1 D.nx) : tAsg te g D σ H := h
theorem k_par (h : tr σ H fun vs H1 => ∃ v w, vs = [v, w] ∧ D.nx ((σ.set i (some v)).set j (some w)) H1) : tPar i j tr D σ H := h
theorem k_par2 {N : V → V → Prop} (h : N x y) : ∃ v w, [x, y] = [v, w] ∧ N v w := ⟨_, _, rfl, h⟩
theorem k_drop (h : te σ H fun _ H1 => D.nx σ H1) : tDrop te D σ H := h
theorem k_ret (h : te σ H D.rt) : tRet te D σ H := h
theorem k_next (h : D.nx σ H) : tNext D σ H := h
theorem k_if (h : c σ H fun b H1 => if b = true then t D σ H1 else u D σ H1) : tIfS c t u D σ H := h
theorem k_aug {tip : TIp} (hx : σ[i]? = some (some x)) (h : te σ H fun y H1 => tip x y H1 fun z H2 => D.nx (σ.set i (some z)) H2) : tAug i te tip D σ H := ⟨_, hx, h⟩
theorem k_ipI {f : Int → Int → Int} {a b : Int} (h : Q (.int (f a b)) H) : ipI f (.int a) (.int b) H Q := ⟨_, _, rfl, rfl, h⟩
theorem k_gname {N : L2.St → Hp → Prop} (h : N (σ.set i (some x)) H) : gName i x σ H N := h
theorem k_gsub {to ti : TE} {ts : TSet} {N : L2.St → Hp → Prop} (h : to σ H fun o H1 => ti σ H1 fun i H2 => ts o i x H2 fun H3 => N σ H3) : gSub to ti ts x σ H N := h
theorem k_gtup {a : Addr} {xs : List V} {n : Nat} {N : L2.St → Hp → Prop} (hs : SqT K H a xs) (hl : xs.length = n) (h : gs xs σ H N) : gTup K n gs (.ref a) σ H N := ⟨a, xs, rfl, hs, hl, h⟩
theorem k_gcons {xs : List V} {N : L2.St → Hp → Prop} (h : g x σ H fun σ' H' => gs xs σ' H' N) : gCons g gs (x :: xs) σ H N := ⟨_, _, rfl, h⟩
theorem k_gnil {N : L2.St → Hp → Prop} (h : N σ H) : gNil [] σ H N := ⟨rfl, h⟩
theorem k_setl {p : Addr} {xs : List V} {k : Int} {n : Nat} {N : Hp → Prop} (hp : H p = some (.lst xs)) (hn : ixN xs.length k = some n) (h : N (upd H p (.lst (xs.set n x)))) : rSetL (.ref p) (.int k) x H N := ⟨p, xs, k, n, rfl, rfl, hp, hn, h⟩
theorem k_st1 {p : Addr} {a b c d : V} {N : Hp → Prop} (hp : H p = some (.lst [a, b, c, d])) (h : N (upd H p (.lst [a, x, c, d]))) : rSetL (.ref p) (.int 1) x H N := ⟨p, _, 1, 1, rfl, rfl, hp, rfl, h⟩
theorem k_st2 {p : Addr} {a b c d : V} {N : Hp → Prop} (hp : H p = some (.lst [a, b, c, d])) (h : N (upd H p (.lst [a, b, x, d]))) : rSetL (.ref p) (.int 2) x H N := ⟨p, _, 2, 2, rfl, rfl, hp, rfl, h⟩
theorem k_st3 {p : Addr} {a b c d : V} {N : Hp → Prop} (hp : H p = some (.lst [a, b, c, d])) (h : N (upd H p (.lst [a, b, c, x]))) : rSetL (.ref p) (.int 3) x H N := ⟨p, _, 3, 3, rfl, rfl, hp, rfl, h⟩

/-! ### tests -/
theorem k_test (h : te σ H fun x H' => ∃ k, x = .bl k ∧ Qb k H') : tTest te σ H Qb := h
theorem k_B (h : te σ H fun x H' => ∃ k, x = .bl k ∧ Qb k H') : tB te σ H Qb := h
theorem k_bl {b : Bool} (h : Qb b H) : ∃ k, V.bl b = .bl k ∧ Qb k H := ⟨_, rfl, h⟩
theorem k_blE {b : Bool} {P : Bool → Prop} (h : P b) : ∃ k, V.bl b = .bl k ∧ P k := ⟨_, rfl, h⟩
theorem k_and (h : c σ H fun b H1 => if b = true then d σ H1 Qb else Qb false H1) : tAnd c d σ H Qb := h
theorem k_or (h : c σ H fun b H1 => if b = true then Qb true H1 else d σ H1 Qb) : tOr c d σ H Qb := h
theorem k_not (h : c σ H fun b H1 => Qb (!b) H1) : tNot c σ H Qb := h
theorem k_dec {p : Prop} [Decidable p] (h1 : p → A) (h2 : ¬ p → B) : if decide p = true then A else B := by
  by_cases h : p
  · rw [if_pos (decide_eq_true h)]; exact h1 h
  · rw [if_neg (by rw [decide_eq_false h]; exact Bool.false_ne_true)]; exact h2 h
theorem k_ndec {p : Prop} [Decidable p] (h1 : p → B) (h2 : ¬ p → A) : if (!decide p) = true then A else B := by
  by_cases h : p
  · rw [decide_eq_true h]; exact iteF (h1 h)
  · rw [decide_eq_false h]; exact iteT (h2 h)
theorem k_yes {b : Bool} (hb : b = true) (h : A) : if b = true then A else B := by rw [if_pos hb]; exact h
theorem k_no {b : Bool} (hb : b = false) (h : B) : if b = true then A else B := by rw [if_neg (by rw [hb]; exact Bool.false_ne_true)]; exact h
theorem k_bool {b : Bool} (h1 : b = true → A) (h2 : b = false → B) : if b = true then A else B := by
  cases b with
  | true => exact iteT (h1 rfl)
  | false => exact iteF (h2 rfl)

/-! ### expressions -/
theorem k_var (hv : σ[i]? = some (some x)) (h : Q x H) : tVar i σ H Q := ⟨_, hv, h⟩
theorem k_c (h : Q x H) : tC x σ H Q := h
theorem k_op (h : ta σ H fun x H1 => tb σ H1 fun y H2 => r x y H2 Q) : tOp r ta tb σ H Q := h
theorem k_un {f : V → Hp → VK → Prop} (h : ta σ H fun x H1 => f x H1 Q) : tUn f ta σ H Q := h
theorem k_U {f : Int → V} {a : Int} (h : Q (f a) H) : rU f (.int a) H Q := ⟨_, rfl, h⟩
theorem k_I0 {f : Int → Int → V} {a b : Int} (h : Q (f a b) H) : rI0 f (.int a) (.int b) H Q := ⟨_, _, rfl, rfl, h⟩
theorem k_I {C : Int → Int → Prop} {f : Int → Int → V} {a b : Int} (hc : C a b) (h : Q (f a b) H) : rI C f (.int a) (.int b) H Q := ⟨_, _, rfl, rfl, hc, h⟩
theorem k_eq (hs : scal x y = true) (h : Q (.bl (decide (x = y))) H) : rEq x y H Q := ⟨hs, h⟩
theorem k_ne (hs : scal x y = true) (h : Q (.bl (!decide (x = y))) H) : rNe x y H Q := ⟨hs, h⟩
theorem int_eq {a b : Int} : decide (V.int a = V.int b) = decide (a = b) := by
  by_cases h : a = b
  · subst h; simp
  · rw [decide_eq_false h, decide_eq_false (fun e => h (V.int.inj e))]
theorem k_eqI {a b : Int} (h : Q (.bl (decide (a = b))) H) : rEq (.int a) (.int b) H Q := ⟨rfl, by rw [int_eq]; exact h⟩
theorem k_neI {a b : Int} (h : Q (.bl (!decide (a = b))) H) : rNe (.int a) (.int b) H Q := ⟨rfl, by rw [int_eq]; exact h⟩
theorem str_eq {a b : Str} : decide (V.str a = V.str b) = decide (a = b) := by
  by_cases h : a = b
  · subst h; simp
  · rw [decide_eq_false h, decide_eq_false (fun e => h (V.str.inj e))]
theorem k_eqS {a b : Str} (h : Q (.bl (decide (a = b))) H) : rEq (.str a) (.str b) H Q := ⟨rfl, by rw [str_eq]; exact h⟩
theorem k_neS {a b : Str} (h : Q (.bl (!decide (a = b))) H) : rNe (.str a) (.str b) H Q := ⟨rfl, by rw [str_eq]; exact h⟩
theorem bl_eq {a b : Bool} : decide (V.bl a = V.bl b) = (a == b) := by cases a <;> cases b <;> rfl
theorem k_eqB {a b : Bool} (h : Q (.bl (a == b)) H) : rEq (.bl a) (.bl b) H Q := ⟨rfl, by rw [bl_eq]; exact h⟩
theorem k_neB {a b : Bool} (h : Q (.bl (!(a == b))) H) : rNe (.bl a) (.bl b) H Q := ⟨rfl, by rw [bl_eq]; exact h⟩
theorem k_ixl {p : Addr} {xs : List V} {k : Int} (hp : SqL K H p xs) (hn : atI xs k = some x) (h : Q x H) : rIxL K (.ref p) (.int k) H Q := ⟨p, xs, k, x, rfl, rfl, hp, hn, h⟩
theorem k_ixt {p : Addr} {xs : List V} {k : Int} (hp : SqT K H p xs) (hn : atI xs k = some x) (h : Q x H) : rIxT K (.ref p) (.int k) H Q := ⟨p, xs, k, x, rfl, rfl, hp, hn, h⟩
theorem k_ixa {p : Addr} {xs : List V} {k : Int} (hp : SqA K H p xs) (hn : atI xs k = some x) (h : Q x H) : rIx K (.ref p) (.int k) H Q :=
  hp.elim (fun hp => .inl ⟨p, xs, k, x, rfl, rfl, hp, hn, h⟩) fun hp => .inr (.inl ⟨p, xs, k, x, rfl, rfl, hp, hn, h⟩)
theorem k_nil (h : Qa [] H) : tNil σ H Qa := h
theorem k_cons (h : ta σ H fun x H1 => tr σ H1 fun xs H2 => Qa (x :: xs) H2) : tCons ta tr σ H Qa := h
theorem k_cb {f : List V → Hp → VK → Prop} (h : tr σ H fun vs H1 => f vs H1 Q) : tCB f tr σ H Q := h
theorem k_call {sp : Sp} {E : XK} (h : tr σ H fun vs H1 => sp (vs ++ []) H1 Q E) : tCall sp [] E tr σ H Q := h
theorem k_lst (h : tr σ H fun xs H1 => xs.length ≤ sizeLine ∧ ∀ p, H1 p = none → Q (.ref p) (upd H1 p (.lst xs))) : tLst tr σ H Q := h
theorem k_tup (h : tr σ H fun xs H1 => xs.length ≤ sizeLine ∧ ∀ p, H1 p = none → Q (.ref p) (upd H1 p (.tup xs))) : tTup tr σ H Q := h
theorem k_ifx (h : c σ H fun b H1 => if b = true then ta σ H1 Q else tb σ H1 Q) : tIf c ta tb σ H Q := h
theorem k_andv (h : ta σ H fun x H1 => ∃ c, x = .bl c ∧ if c = true then tb σ H1 Q else Q (.bl false) H1) : tAndV ta tb σ H Q := h
theorem k_orv (h : ta σ H fun x H1 => ∃ c, x = .bl c ∧ if c = true then Q (.bl true) H1 else tb σ H1 Q) : tOrV ta tb σ H Q := h
theorem k_notv (h : ta σ H fun x H1 => ∃ c, x = .bl c ∧ Q (.bl (!c)) H1) : tNotV ta σ H Q := h
theorem k_fld {a C dx : Addr} {fs : List (Str × V)} {f : Str} (h : ta σ H fun x H1 => ∃ a C dx fs v, x = .ref a ∧ H1 a = some (.ins C dx fs) ∧ Cls K C ∧ NoAttr K C f ∧ fs.lookup f = some v ∧ Q v H1) : tFld K ta f σ H Q := h
theorem k_lenl {p : Addr} {xs : List V} (hp : SqL K H p xs) (h : Q (.int (xs.length : Nat)) H) : rLen K [.ref p] H Q := ⟨_, _, rfl, .inl ⟨xs, hp, rfl⟩, h⟩
theorem k_lent {p : Addr} {xs : List V} (hp : SqT K H p xs) (h : Q (.int (xs.length : Nat)) H) : rLen K [.ref p] H Q := ⟨_, _, rfl, .inr ⟨xs, hp, rfl⟩, h⟩
theorem k_lena {p : Addr} {xs : List V} (hp : SqA K H p xs) (h : Q (.int (xs.length : Nat)) H) : rLen K [.ref p] H Q := hp.elim (fun hp => k_lenl hp h) fun hp => k_lent hp h
theorem k_lens {z : Str} (hz : z.length ≤ sizeLine) (h : Q (.int (z.length : Nat)) H) : rLen K [.str z] H Q := ⟨_, _, rfl, ⟨hz, rfl⟩, h⟩
theorem k_inti {a : Int} (h : Q (.int a) H) : rInt1 [.int a] H Q := .inl ⟨_, rfl, h⟩
theorem k_intb {b : Bool} (h : Q (.int (if b then 1 else 0)) H) : rInt1 [.bl b] H Q := .inr ⟨_, rfl, h⟩
theorem k_sl {f : V → Option Int → Option Int → Hp → VK → Prop} {tl th : TO} (h : te σ H fun x H1 => tl σ H1 fun l H2 => th σ H2 fun u H3 => f x l u H3 Q) : tSl f te tl th σ H Q := h
theorem k_nopart {Qo : Option Int → Hp → Prop} (h : Qo none H) : tNoPart σ H Qo := h
theorem k_part {Qo : Option Int → Hp → Prop} (h : te σ H fun x H1 => ∃ i, x = .int i ∧ Qo (some i) H1) : tPart te σ H Qo := h
theorem k_parti {N : Int → Prop} {a : Int} (h : N a) : ∃ i, V.int a = .int i ∧ N i := ⟨_, rfl, h⟩
theorem k_sll {lo hi : Option Int} {p : Addr} {xs : List V} (hp : SqL K H p xs) (h : ∀ l, H l = none → Q (.ref l) (upd H l (.lst (cutV xs lo hi)))) : rSlL K (.ref p) lo hi H Q := ⟨p, xs, rfl, hp, h⟩
theorem k_listl {p : Addr} {xs : List V} (hp : SqA K H p xs) (h : ∀ l, H l = none → Q (.ref l) (upd H l (.lst xs))) : rListOf K [.ref p] H Q := ⟨p, xs, rfl, hp, h⟩
theorem k_tupl {p : Addr} {xs : List V} (hp : SqL K H p xs) (h : ∀ l, H l = none → Q (.ref l) (upd H l (.tup xs))) : rTupOf K [.ref p] H Q := ⟨p, xs, rfl, .inl ⟨hp, h⟩⟩
theorem k_tupt {p : Addr} {xs : List V} (hp : SqT K H p xs) (h : Q (.ref p) H) : rTupOf K [.ref p] H Q := ⟨p, xs, rfl, .inr ⟨hp, h⟩⟩
theorem k_new {o : HO} {N : Addr → Hp → Prop} {n : Nat} (hn : n ≤ 10000) (h : ∀ p, H p = none → N p (upd H p o)) : n ≤ sizeLine ∧ ∀ p, H p = none → N p (upd H p o) := ⟨Nat.le_trans hn (by decide), h⟩
theorem k_for {wi : TI} {tb : TS} (h : wi σ H (ForB g tb D σ)) : tFor wi g tb D σ H := h
variable {R : It → Hp → Prop}
theorem k_iE {ri : V → Hp → (It → Hp → Prop) → Prop} (h : te σ H fun x H1 => ri x H1 R) : iE ri te σ H R := h
theorem k_iA {ri : List V → Hp → (It → Hp → Prop) → Prop} (h : tr σ H fun x H1 => ri x H1 R) : iA ri tr σ H R := h
theorem k_itl {p : Addr} {xs : List V} (hp : SqL K H p xs) (h : R (Itl K p) H) : rItL K (.ref p) H R := ⟨p, rfl, ⟨xs, hp⟩, h⟩
theorem k_itt {p : Addr} {xs : List V} (hp : SqT K H p xs) (h : R (Itt K p) H) : rItT K (.ref p) H R := ⟨p, rfl, ⟨xs, hp⟩, h⟩
theorem k_its {s : Str} (h : R (Its s) H) : rItS (.str s) H R := ⟨s, rfl, h⟩
theorem k_rg1 {n : Int} (h1 : -(2 ^ 62) ≤ n) (h2 : n < 2 ^ 62) (h : R (Itr 0 n.toNat) H) : rRg1 [.int n] H R := ⟨n, rfl, h1, h2, h⟩
theorem k_rg1n {n : Nat} (h2 : n < 10000) (h : R (Itr 0 n) H) : rRg1 [.int (n : Int)] H R := ⟨n, rfl, by omega, by omega, by rw [Int.toNat_natCast]; exact h⟩
theorem k_enuml {p : Addr} {xs : List V} (hp : SqL K H p xs) (h : R (Ite K p) H) : rEnumA K [.ref p] H R := ⟨p, xs, rfl, .inl ⟨hp, h⟩⟩
theorem k_enumt {p : Addr} {xs : List V} (hp : SqT K H p xs) (h : R (IteT K p) H) : rEnumA K [.ref p] H R := ⟨p, xs, rfl, .inr ⟨hp, h⟩⟩
theorem sl_rd {a : Addr} {xs : List V} {H' : Hp} (k : ∀ u, Rd H a u → Rd H' a u) (h : SqL K H a xs) : SqL K H' a xs := h.imp (k _) id
theorem st_rd {a : Addr} {xs : List V} {H' : Hp} (k : ∀ u, Rd H a u → Rd H' a u) (h : SqT K H a xs) : SqT K H' a xs := h.imp (k _) id
/-- for i, x in enumerate(xs), xs a list or a tuple -/
theorem for_enum {tb : TS} {a : Addr} {xs : List V} {H0 : Hp} (hS : SqA K H0 a xs) (Pv : Nat → L2.St → Hp → Prop) (h0 : Pv 0 σ H) (hG : ∀ i σ' H', i ≤ xs.length → Pv i σ' H' → ∀ u, Rd H0 a u → Rd H' a u)
    (hs : ∀ i x σ' H' T, i < xs.length → Pv i σ' H' → H' T = none → xs[i]? = some x → g (.ref T) σ' (upd H' T (.tup [.int (i : Nat), x])) fun σ2 H2 => tb { D with nx := Pv (i + 1), ct := Pv (i + 1), bk := D.nx } σ2 H2)
    (hd : ∀ σ' H', Pv xs.length σ' H' → D.nx σ' H') : rEnumA K [.ref a] H (ForB g tb D σ) := by
  rcases hS with hS | hS
  · refine k_enuml (sl_rd (hG 0 σ H (Nat.zero_le _) h0) hS) (for_w walk_enum Pv h0 (fun i σ' H' hi p => sl_rd (hG i σ' H' hi p) hS) ?_ hd)
    rintro i v σ' H' H'' hi p ⟨T, x, y, rfl, nT, rfl, e1, e2⟩
    cases e1
    exact hs i y σ' H' T hi p nT e2
  · refine k_enumt (st_rd (hG 0 σ H (Nat.zero_le _) h0) hS) (for_w walk_enumT Pv h0 (fun i σ' H' hi p => st_rd (hG i σ' H' hi p) hS) ?_ hd)
    rintro i v σ' H' H'' hi p ⟨T, x, y, rfl, nT, rfl, e1, e2⟩
    cases e1
    exact hs i y σ' H' T hi p nT e2
/-- for x in xs, a list or a tuple -/
theorem for_seq {tb : TS} {a : Addr} {xs : List V} {H0 : Hp} (hS : SqA K H0 a xs) (Pv : Nat → L2.St → Hp → Prop) (h0 : Pv 0 σ H) (hG : ∀ i σ' H', i ≤ xs.length → Pv i σ' H' → ∀ u, Rd H0 a u → Rd H' a u)
    (hs : ∀ i x σ' H', i < xs.length → Pv i σ' H' → xs[i]? = some x → g x σ' H' fun σ2 H2 => tb { D with nx := Pv (i + 1), ct := Pv (i + 1), bk := D.nx } σ2 H2)
    (hd : ∀ σ' H', Pv xs.length σ' H' → D.nx σ' H') : rItA K (.ref a) H (ForB g tb D σ) := by
  rcases hS with hS | hS
  · refine ⟨a, xs, rfl, .inl ⟨sl_rd (hG 0 σ H (Nat.zero_le _) h0) hS, for_w walk_list Pv h0 (fun i σ' H' hi p => sl_rd (hG i σ' H' hi p) hS) ?_ hd⟩⟩
    rintro i v σ' H' H'' hi p ⟨rfl, e⟩
    exact hs i v σ' _ hi p e
  · refine ⟨a, xs, rfl, .inr ⟨st_rd (hG 0 σ H (Nat.zero_le _) h0) hS, for_w walk_tup Pv h0 (fun i σ' H' hi p => st_rd (hG i σ' H' hi p) hS) ?_ hd⟩⟩
    rintro i v σ' H' H'' hi p ⟨rfl, e⟩
    exact hs i v σ' _ hi p e
/-- [e for i, x in enumerate(xs) if ..] -/
theorem lc_enum {tt : TT} {vs : List Nat} {a : Addr} {xs : List V} {H0 : Hp} (hS : SqA K H0 a xs) (hS0 : ∀ u, Rd H0 a u → Rd H a u) (Pv : Addr → Nat → Hp → Prop) (h0 : ∀ D, H D = none → Pv D 0 (upd H D (.lst []))) (hG : ∀ D i H', H D = none → i ≤ xs.length → Pv D i H' → ∀ u, Rd H0 a u → Rd H' a u)
    (hs : ∀ D i x H' T, H D = none → i < xs.length → Pv D i H' → H' T = none → xs[i]? = some x → g (.ref T) (wipe σ vs) (upd H' T (.tup [.int (i : Nat), x])) fun σ2 H2 => wipe σ2 vs = wipe σ vs ∧ tt σ2 H2 fun b H3 =>
      if b = true then te σ2 H3 fun y H4 => ∃ acc, H4 D = some (.lst acc) ∧ acc.length < sizeLine ∧ Pv D (i + 1) (upd H4 D (.lst (acc ++ [y]))) else Pv D (i + 1) H3)
    (hd : ∀ D H', H D = none → Pv D xs.length H' → Q (.ref D) H') : rEnumA K [.ref a] H (LcB g tt te vs σ Q) := by
  rcases hS with hS | hS
  · refine k_enuml (sl_rd hS0 hS) (lc_w walk_enum Pv h0 (fun D i H' nD hi p => sl_rd (hG D i H' nD hi p) hS) ?_ hd)
    rintro D i v H' H'' nD hi p ⟨T, x, y, rfl, nT, rfl, e1, e2⟩
    cases e1
    exact hs D i y H' T nD hi p nT e2
  · refine k_enumt (st_rd hS0 hS) (lc_w walk_enumT Pv h0 (fun D i H' nD hi p => st_rd (hG D i H' nD hi p) hS) ?_ hd)
    rintro D i v H' H'' nD hi p ⟨T, x, y, rfl, nT, rfl, e1, e2⟩
    cases e1
    exact hs D i y H' T nD hi p nT e2
/-- [e for x in xs if ..] -/
theorem lc_seq {tt : TT} {vs : List Nat} {a : Addr} {xs : List V} {H0 : Hp} (hS : SqA K H0 a xs) (hS0 : ∀ u, Rd H0 a u → Rd H a u) (Pv : Addr → Nat → Hp → Prop) (h0 : ∀ D, H D = none → Pv D 0 (upd H D (.lst []))) (hG : ∀ D i H', H D = none → i ≤ xs.length → Pv D i H' → ∀ u, Rd H0 a u → Rd H' a u)
    (hs : ∀ D i x H', H D = none → i < xs.length → Pv D i H' → xs[i]? = some x → g x (wipe σ vs) H' fun σ2 H2 => wipe σ2 vs = wipe σ vs ∧ tt σ2 H2 fun b H3 =>
      if b = true then te σ2 H3 fun y H4 => ∃ acc, H4 D = some (.lst acc) ∧ acc.length < sizeLine ∧ Pv D (i + 1) (upd H4 D (.lst (acc ++ [y]))) else Pv D (i + 1) H3)
    (hd : ∀ D H', H D = none → Pv D xs.length H' → Q (.ref D) H') : rItA K (.ref a) H (LcB g tt te vs σ Q) := by
  rcases hS with hS | hS
  · refine ⟨a, xs, rfl, .inl ⟨sl_rd hS0 hS, lc_w walk_list Pv h0 (fun D i H' nD hi p => sl_rd (hG D i H' nD hi p) hS) ?_ hd⟩⟩
    rintro D i v H' H'' nD hi p ⟨rfl, e⟩
    exact hs D i v _ nD hi p e
  · refine ⟨a, xs, rfl, .inr ⟨st_rd hS0 hS, lc_w walk_tup Pv h0 (fun D i H' nD hi p => st_rd (hG D i H' nD hi p) hS) ?_ hd⟩⟩
    rintro D i v H' H'' nD hi p ⟨rfl, e⟩
    exact hs D i v _ nD hi p e
theorem all_flat_str (ws : List Str) : (ws.map V.str).all flatV = true := by rw [List.all_map]; exact List.all_eq_true.mpr fun _ _ => rfl
theorem all_flat_int (ns : List Int) : (ns.map V.int).all flatV = true := by rw [List.all_map]; exact List.all_eq_true.mpr fun _ _ => rfl
theorem inV_str (s : Str) (ws : List Str) : inV (.str s) (ws.map V.str) = decide (s ∈ ws) := by
  unfold inV
  rw [List.any_map]
  show ws.any (fun y => eqV (.str y) (.str s)) = _
  rw [Bool.eq_iff_iff, List.any_eq_true, decide_eq_true_iff]
  constructor
  · rintro ⟨y, hy, e⟩
    have e' : (y == s) = true := e
    rw [← eq_of_beq e']; exact hy
  · intro h
    exact ⟨s, h, beq_self_eq_true s⟩
theorem inV_int (n : Int) (ns : List Int) : inV (.int n) (ns.map V.int) = decide (n ∈ ns) := by
  unfold inV
  rw [List.any_map]
  show ns.any (fun y => eqV (.int y) (.int n)) = _
  rw [Bool.eq_iff_iff, List.any_eq_true, decide_eq_true_iff]
  constructor
  · rintro ⟨y, hy, e⟩
    have e' : (y == n) = true := e
    rw [← eq_of_beq e']; exact hy
  · intro h
    exact ⟨n, h, beq_self_eq_true n⟩
theorem k_in {p : Addr} {xs : List V} (hp : SqA K H p xs) (hx : flatV x = true) (hf : xs.all flatV = true) (h : Q (.bl (inV x xs)) H) : rIn K false x (.ref p) H Q := ⟨p, xs, rfl, hp, hx, hf, h⟩
theorem k_nin {p : Addr} {xs : List V} (hp : SqA K H p xs) (hx : flatV x = true) (hf : xs.all flatV = true) (h : Q (.bl (!inV x xs)) H) : rIn K true x (.ref p) H Q := ⟨p, xs, rfl, hp, hx, hf, h⟩
theorem k_inS {p : Addr} {s : Str} {ws : List Str} (hp : SqA K H p (ws.map V.str)) (h : Q (.bl (decide (s ∈ ws))) H) : rIn K false (.str s) (.ref p) H Q := k_in hp rfl (all_flat_str ws) (by rw [inV_str]; exact h)
theorem k_inI {p : Addr} {n : Int} {ns : List Int} (hp : SqA K H p (ns.map V.int)) (h : Q (.bl (decide (n ∈ ns))) H) : rIn K false (.int n) (.ref p) H Q := k_in hp rfl (all_flat_int ns) (by rw [inV_int]; exact h)
theorem k_ninS {p : Addr} {s : Str} {ws : List Str} (hp : SqA K H p (ws.map V.str)) (h : Q (.bl (!decide (s ∈ ws))) H) : rIn K true (.str s) (.ref p) H Q := k_nin hp rfl (all_flat_str ws) (by rw [inV_str]; exact h)
theorem k_ninI {p : Addr} {n : Int} {ns : List Int} (hp : SqA K H p (ns.map V.int)) (h : Q (.bl (!decide (n ∈ ns))) H) : rIn K true (.int n) (.ref p) H Q := k_nin hp rfl (all_flat_int ns) (by rw [inV_int]; exact h)
theorem k_zipl {p q : Addr} {xs ys : List V} (hp : SqL K H p xs) (hq : SqL K H q ys) (h : R (Itz K p q) H) : rZipL K [.ref p, .ref q] H R := ⟨p, q, xs, ys, rfl, hp, hq, h⟩
theorem k_isi {n : String} {t : Value} {b : Bool} (ht : TyX K H x t) (hk : PySem.W.kitOne K t (.type n) = some b) (h : Q (.bl b) H) : rIsi K [x, .ty n] H Q := ⟨x, _, t, _, b, rfl, .ty n, ht, hk, h⟩
theorem k_isiO {C : Addr} {t : Value} {b : Bool} (ht : TyX K H x t) (hk : PySem.W.kitOne K t (.ref C) = some b) (h : Q (.bl b) H) : rIsi K [x, .ref C] H Q := ⟨x, _, t, _, b, rfl, .own C, ht, hk, h⟩
theorem or_t {b : Bool} : (true || b) = true := rfl
theorem or_f {b : Bool} : (false || b) = b := rfl
theorem iteNT (h : B) : if (!true) = true then A else B := h
theorem iteNF (h : A) : if (!false) = true then A else B := h
theorem k_all {p : Addr} {bs : List Bool} (hp : H p = some (.lst (bs.map V.bl))) (h : Q (.bl (bs.all id)) H) : rAll K [.ref p] H Q := ⟨p, bs, rfl, sl_of hp, h⟩
theorem k_any {p : Addr} {bs : List Bool} (hp : H p = some (.lst (bs.map V.bl))) (h : Q (.bl (bs.any id)) H) : rAny K [.ref p] H Q := ⟨p, bs, rfl, sl_of hp, h⟩
theorem k_insign {c : Nat} {s : Str} (h : Q (.bl (decide (c ∈ s.cps.toList))) H) : rInSign (.str ⟨#[c]⟩) (.str s) H Q := ⟨c, s, rfl, rfl, h⟩
theorem k_isi2 {tp : Addr} {n m : String} {t : Value} {b b1 b2 : Bool} (hb : (b1 || b2) = b) (hp : H tp = some (.tup [.ty n, .ty m])) (ht : TyX K H x t) (h1 : PySem.W.kitOne K t (.type n) = some b1) (h2 : PySem.W.kitOne K t (.type m) = some b2) (h : Q (.bl b) H) : rIsiT K [x, .ref tp] H Q :=
  ⟨x, tp, _, t, _, _, rfl, hp, .cons (.ty n) (.cons (.ty m) .nil), ht, kaC h1 (ka1 h2), by rw [hb]; exact h⟩
theorem k_isi4 {tp : Addr} {n m n' m' : String} {t : Value} {b1 b2 b3 b4 : Bool} (hp : H tp = some (.tup [.ty n, .ty m, .ty n', .ty m'])) (ht : TyX K H x t) (h1 : PySem.W.kitOne K t (.type n) = some b1) (h2 : PySem.W.kitOne K t (.type m) = some b2) (h3 : PySem.W.kitOne K t (.type n') = some b3) (h4 : PySem.W.kitOne K t (.type m') = some b4) (h : Q (.bl (b1 || (b2 || (b3 || b4)))) H) : rIsiT K [x, .ref tp] H Q :=
  ⟨x, tp, _, t, _, _, rfl, hp, .cons (.ty n) (.cons (.ty m) (.cons (.ty n') (.cons (.ty m') .nil))), ht, kaC h1 (kaC h2 (kaC h3 (ka1 h4))), h⟩
theorem k_chain {r' : R2} (h : ta σ H fun x H1 => tb σ H1 fun y H2 => r x y H2 fun z H3 => ∃ k, z = .bl k ∧ (if k = true then tc σ H3 fun w' H4 => r' y w' H4 Q else Q (.bl false) H3)) : tChain r r' ta tb tc σ H Q := h
/-! fields and methods of own instances -/
theorem k_fldR {f : Str} (h : ta σ H fun x H1 => rFld K f x H1 Q) : tFld K ta f σ H Q := h
theorem k_fl {a : Addr} {f : Str} (hf : Fl K H a f x) (h : Q x H) : rFld K f (.ref a) H Q := by
  obtain ⟨C, dx, fs, h1, h2, h3, h4⟩ := hf
  exact ⟨a, C, dx, fs, x, rfl, h1, h2, h3, h4, h⟩
theorem k_sfld {f : Str} (h : tb σ H fun y H1 => ta σ H1 fun x H2 => rPut K f x y H2 fun H3 => D.nx σ H3) : sFld K ta tb f D σ H := h
theorem k_put {a C dx : Addr} {f : Str} {fs : List (Str × V)} {N : Hp → Prop} (ho : H a = some (.ins C dx fs)) (hc : Cls K C) (hn : NoAttr K C f) (hl : fs.length < 1000) (h : N (upd H a (.ins C dx (putF f y fs)))) : rPut K f (.ref a) y H N := ⟨a, C, dx, fs, rfl, ho, hc, hn, hl, h⟩
theorem k_meth {C : Addr} {m : Str} {sp : Sp} {E : XK} (h : ta σ H fun x H1 => ∃ a dx fs, x = .ref a ∧ H1 a = some (.ins C dx fs) ∧ fs.lookup m = none ∧ tr σ H1 fun vs H2 => sp (x :: (vs ++ [])) H2 Q E) : tMeth C m sp [] E ta tr σ H Q := h
theorem k_mt {a C : Addr} {m : Str} (hm : Mt H a C m) (h : A) : ∃ a' dx fs, V.ref a = .ref a' ∧ H a' = some (.ins C dx fs) ∧ fs.lookup m = none ∧ A := by
  obtain ⟨dx, fs, h1, h2⟩ := hm
  exact ⟨a, dx, fs, rfl, h1, h2, h⟩
theorem k_make {C : Addr} {sp : Sp} (h : tr σ H fun vs H1 => MkB C sp vs H1 Q) : tMake C sp [] E0 tr σ H Q := h
theorem k_bm {T : String} {f : V → List V → Hp → VK → Prop} (h : te σ H fun x H1 => tyV K T x H1 ∧ tr σ H1 fun xs H2 => f x xs H2 Q) : tBM K T f te tr σ H Q := h
theorem k_bm0 {T : String} {f : V → List V → Hp → VK → Prop} (h : te σ H fun x H1 => tyV K T x H1 ∧ f x [] H1 Q) : tBM0 K T f te σ H Q := h
theorem k_tyl {p : Addr} {xs : List V} (hp : SqL K H p xs) (h : A) : tyV K "list" (.ref p) H ∧ A := ⟨.inl ⟨rfl, xs, hp⟩, h⟩
theorem k_tys {s : Str} (h : A) : tyV K "str" (.str s) H ∧ A := ⟨rfl, h⟩
theorem k_ext {p q : Addr} {xs ys : List V} (hp : H p = some (.lst xs)) (hq : H q = some (.lst ys)) (hn : xs.length + ys.length < 100000) (h : Q .non (upd H p (.lst (xs ++ ys)))) : rExtend (.ref p) [.ref q] H Q := ⟨p, q, xs, ys, rfl, rfl, hp, hq, Nat.le_of_lt (Nat.lt_of_lt_of_le hn (by decide)), h⟩
theorem k_popat {p : Addr} {xs : List V} {n : Nat} (hp : H p = some (.lst xs)) (hn : xs[n]? = some x) (hl : n < 100000) (h : Q x (upd H p (.lst (xs.eraseIdx n)))) : rPopAt (.ref p) [.int (n : Int)] H Q := by
  have hj : n < xs.length := (List.getElem?_eq_some_iff.mp hn).1
  have e : ixN xs.length (n : Int) = some n := by
    unfold ixN
    rw [if_pos (by omega), if_pos (by omega), Int.toNat_natCast]
  exact ⟨p, xs, n, n, x, rfl, rfl, hp, by omega, by omega, (ixN_seq e).1, hn, h⟩
theorem k_lc {wi : TI} {tt : TT} {vs : List Nat} (h : wi σ H (LcB g tt te vs σ Q)) : tLc wi g tt te vs σ H Q := h
theorem k_yes0 (h : Qb true H) : tYes σ H Qb := h
theorem k_wipe {α : Type} {a : α} (h : A) : a = a ∧ A := ⟨rfl, h⟩
theorem k_adds {a b : Str} (hl : a.length + b.length < 1000000) (h : Q (.str (a ++ b)) H) : rAddS2 (.str a) (.str b) H Q := ⟨a, b, rfl, rfl, Nat.le_of_lt (Nat.lt_of_lt_of_le hl (by decide)), h⟩
theorem k_cat {p q : Addr} {xs ys : List V} (hp : H p = some (.lst xs)) (hq : H q = some (.lst ys)) (hn : xs.length + ys.length < 100000) (h : ∀ l, H l = none → Q (.ref l) (upd H l (.lst (xs ++ ys)))) : rCat (.ref p) (.ref q) H Q := ⟨p, q, xs, ys, rfl, rfl, hp, hq, Nat.le_of_lt (Nat.lt_of_lt_of_le hn (by decide)), h⟩
theorem sz {n : Nat} (h : n < 100000) : n < sizeLine := Nat.lt_of_lt_of_le h (by decide)
theorem szl {n : Nat} (h : n < 100000) : n ≤ sizeLine := Nat.le_of_lt (sz h)
theorem k_max {p : Addr} {ns : List Int} (hp : H p = some (.lst (ns.map V.int))) (hl : 0 < ns.length) (h : ∀ m, m ∈ ns → (∀ y, y ∈ ns → y ≤ m) → Q (.int m) H) : rMax K [.ref p] H Q := ⟨p, ns, rfl, sl_of hp, hl, h⟩
theorem k_lrg {te' : L2.St → Hp → (Int → Int → Hp → Prop) → Prop} (h : te' σ H fun a b H1 => RgOk a b ∧ ∀ q, H1 q = none → Q (.ref q) (upd H1 q (.lst (rgV a b)))) : tLstRg te' σ H Q := h
theorem k_rgt {Qr : Int → Int → Hp → Prop} (h : ta σ H fun x H1 => rRgt x H1 Qr) : tRg1 ta σ H Qr := h
theorem k_rgti {Qr : Int → Int → Hp → Prop} {n : Int} (h : Qr 0 n H) : rRgt (.int n) H Qr := ⟨n, rfl, h⟩
theorem rgV_iv (n : Nat) : rgV 0 (n : Int) = ((List.range n).map fun i : Nat => (i : Int)).map V.int := by
  unfold rgV
  rw [show ((n : Int) - 0).toNat = n by omega, List.map_map]
  refine List.map_congr_left fun i _ => ?_
  show V.int (0 + (i : Int)) = V.int (i : Int)
  congr 1
  omega
theorem k_rep {p : Addr} {xs : List V} {n : Nat} (hp : H p = some (.lst xs)) (hn : xs.length * n < 100000) (hn2 : n < 100000) (h : ∀ l, H l = none → Q (.ref l) (upd H l (.lst (List.replicate n xs).flatten))) : rRep (.ref p) (.int (n : Int)) H Q := ⟨p, n, xs, rfl, rfl, hp, by omega, by omega, by rw [Int.toNat_natCast]; exact Nat.le_of_lt (Nat.lt_of_lt_of_le hn (by decide)), fun l nl => by rw [Int.toNat_natCast]; exact h l nl⟩
theorem k_app {p : Addr} {xs : List V} (hp : H p = some (.lst xs)) (hn : xs.length < 10000) (h : Q .non (upd H p (.lst (xs ++ [x])))) : rAppend (.ref p) [x] H Q := ⟨p, xs, x, rfl, rfl, hp, Nat.lt_of_lt_of_le hn (by decide), h⟩
end
end Lf

set_option Elab.async false
set_option linter.all false
set_option maxRecDepth 100000
set_option maxHeartbeats 2000000
/-! The draws of a law: fresh, fill, take, one. -/
namespace Lf
open PySem L2
local macro_rules | `(tactic| walk_at "nq") => `(tactic| first | with_reducible assumption | with_reducible exact Ne.symm (by assumption) | with_reducible exact ne_of_none (by assumption) (by assumption) | with_reducible exact Ne.symm (ne_of_none (by assumption) (by assumption)))
local macro_rules | `(tactic| walk_at "gt") => `(tactic| first | with_reducible assumption | with_reducible exact upd_same | ((with_reducible refine' upd_new ?ha ?hb); (case hb => with_reducible assumption); (case ha => walk_at "gt")) | ((with_reducible refine' upd_old ?ha ?hb); (case hb => walk_at "nq"); (case ha => walk_at "gt")) | ((with_reducible refine' sm_get ?hb ?ha); (case hb => with_reducible assumption); (case ha => walk_at "gt")) | ((with_reducible refine' fr_get ?hb ?ha ?hc); (case hb => with_reducible assumption); (case hc => walk_at "nq"); (case ha => walk_at "gt")))
local macro_rules | `(tactic| walk_at "sl") => `(tactic| first | with_reducible assumption | ((with_reducible refine' sl_of ?ha); (case ha => walk_at "gt")) | ((with_reducible refine' sl_new ?ha ?hb); (case hb => with_reducible assumption); (case ha => walk_at "sl")) | ((with_reducible refine' sl_sm ?hb ?ha); (case hb => with_reducible assumption); (case ha => walk_at "sl")) | ((with_reducible refine' sl_fr ?hb ?hc ?ha); (case hb => with_reducible assumption); (case hc => walk_at "nq"); (case ha => walk_at "sl")))
local macro_rules | `(tactic| walk_at "st") => `(tactic| first | with_reducible assumption | ((with_reducible refine' st_of ?ha); (case ha => walk_at "gt")) | ((with_reducible refine' st_new ?ha ?hb); (case hb => with_reducible assumption); (case ha => walk_at "st")) | ((with_reducible refine' st_sm ?hb ?ha); (case hb => with_reducible assumption); (case ha => walk_at "st")) | ((with_reducible refine' st_fr ?hb ?hc ?ha); (case hb => with_reducible assumption); (case hc => walk_at "nq"); (case ha => walk_at "st")))
local macro_rules | `(tactic| walk_at "sa") => `(tactic| first | with_reducible assumption | ((with_reducible refine' sa_l ?ha); (case ha => walk_at "gt")) | ((with_reducible refine' sa_t ?ha); (case ha => walk_at "gt")) | ((with_reducible refine' sa_new ?ha ?hb); (case hb => with_reducible assumption); (case ha => walk_at "sa")) | ((with_reducible refine' sa_sm ?hb ?ha); (case hb => with_reducible assumption); (case ha => walk_at "sa")) | ((with_reducible refine' sa_fr ?hb ?hc ?ha); (case hb => with_reducible assumption); (case hc => walk_at "nq"); (case ha => walk_at "sa")) | ((with_reducible refine' Or.inl ?ha); (case ha => walk_at "sl")) | ((with_reducible refine' Or.inr ?ha); (case ha => walk_at "st")))
local macro_rules | `(tactic| walk_at "ln") => `(tactic| first | decide | omega | exact Nat.le_of_ble_eq_true rfl | (simp only [List.length_append, List.length_map, List.length_cons, List.length_nil, List.length_flatMap]; omega))
local macro_rules | `(tactic| walk_at "ty") => `(tactic| first | with_reducible assumption | with_reducible exact .base (.int _) | with_reducible exact .base (.str _) | with_reducible exact .base (.bl _) | with_reducible exact .base .non | ((with_reducible refine' TyX.base (TyOf.lst ?ha)); (case ha => walk_at "gt")) | ((with_reducible refine' TyX.base (TyOf.tup ?ha)); (case ha => walk_at "gt")) | ((with_reducible refine' TyX.base (TyOf.dK ?ha)); (case ha => walk_at "gt")) | ((with_reducible refine' ty_new ?ha ?hb); (case hb => with_reducible assumption); (case ha => walk_at "ty")) | ((with_reducible refine' ty_sm ?hb ?ha); (case hb => with_reducible assumption); (case ha => walk_at "ty")))
local macro_rules | `(tactic| walk_at "kb") => `(tactic| first | with_reducible assumption | exact kb_str_str | exact kb_int_str | exact kb_list_str | exact kb_tuple_str | exact kb_bool_str | exact kb_NoneType_str | exact kb_dict_str | exact kb_str_int | exact kb_int_int | exact kb_list_int | exact kb_tuple_int | exact kb_bool_int | exact kb_NoneType_int | exact kb_dict_int | exact kb_str_bool | exact kb_int_bool | exact kb_list_bool | exact kb_tuple_bool | exact kb_bool_bool | exact kb_NoneType_bool | exact kb_dict_bool | exact kb_str_list | exact kb_int_list | exact kb_list_list | exact kb_tuple_list | exact kb_bool_list | exact kb_NoneType_list | exact kb_dict_list | exact kb_str_tuple | exact kb_int_tuple | exact kb_list_tuple | exact kb_tuple_tuple | exact kb_bool_tuple | exact kb_NoneType_tuple | exact kb_dict_tuple | exact kb_str_dict | exact kb_int_dict | exact kb_list_dict | exact kb_tuple_dict | exact kb_bool_dict | exact kb_NoneType_dict | exact kb_dict_dict)
local macro_rules | `(tactic| walk_at "wk") => `(tactic| first | with_reducible assumption | ((with_reducible refine' WkAt.new ?ha ?hb); (case hb => with_reducible assumption); (case ha => walk_at "wk")) | ((with_reducible refine' WkAt.sm ?hb ?ha); (case hb => with_reducible assumption); (case ha => walk_at "wk")) | ((with_reducible refine' WkAt.dr ?hb ?hc ?ha); (case hb => with_reducible assumption); (case hc => with_reducible assumption); (case ha => walk_at "wk")))
local macro_rules | `(tactic| walk_at "ed") => `(tactic| first | with_reducible assumption | ((with_reducible refine' EdAt.new ?ha ?hb); (case hb => with_reducible assumption); (case ha => walk_at "ed")) | ((with_reducible refine' EdAt.sm ?hb ?ha); (case hb => with_reducible assumption); (case ha => walk_at "ed")) | ((with_reducible refine' EdAt.dr ?hb ?hc ?ha); (case hb => with_reducible assumption); (case hc => with_reducible assumption); (case ha => walk_at "ed")))
local macro_rules | `(tactic| walk_at "fl") => `(tactic| first | with_reducible assumption | ((with_reducible refine' WkAt.rows ?hT ?hW); (case hT => assumption); (case hW => walk_at "wk")) | ((with_reducible refine' WkAt.name ?hT ?hW); (case hT => assumption); (case hW => walk_at "wk")) | ((with_reducible refine' EdAt.work ?hT ?hW); (case hT => assumption); (case hW => walk_at "ed")) | ((with_reducible refine' EdAt.nums ?hT ?hW); (case hT => assumption); (case hW => walk_at "ed")))
local macro_rules | `(tactic| walk_at "mt") => `(tactic| first | with_reducible assumption | ((with_reducible refine' WkAt.mt ?hn1 ?hn2 ?hW); (case hW => walk_at "wk"); (case hn1 => decide +kernel); (case hn2 => decide +kernel)) | ((with_reducible refine' EdAt.mt ?hn1 ?hn2 ?hW); (case hW => walk_at "ed"); (case hn1 => decide +kernel); (case hn2 => decide +kernel)))
local macro_rules | `(tactic| walk_at "is") => `(tactic| first | with_reducible assumption | ((with_reducible refine' WkAt.is ?hW); (case hW => walk_at "wk")) | ((with_reducible refine' EdAt.is ?hW); (case hW => walk_at "ed")))
local macro_rules | `(tactic| walk_at "ic") => `(tactic| first
  | ((with_reducible show CMul _ _); first | exact Or.inl ⟨by decide, by decide⟩ | exact Or.inr ⟨by decide, by decide⟩ | exact Or.inl ⟨by omega, by omega⟩ | exact Or.inr ⟨by omega, by omega⟩)
  | ((with_reducible show CDiv _ _); first | exact ⟨by decide, by decide⟩ | exact ⟨by omega, by omega⟩)
  | ((with_reducible show CPow _ _); first | exact ⟨by decide, by decide, by decide⟩ | exact ⟨by decide, by decide, by omega⟩)
  | (show (0 : Int) < _; first | decide | omega))
local macro_rules | `(tactic| walk_at "s1") => `(tactic| first
  | with_reducible refine k_seq ?_
  | with_reducible refine k_set ?_
  | with_reducible refine k_asg ?_
  | with_reducible refine k_par ?_
  | with_reducible refine k_par2 ?_
  | with_reducible refine k_drop ?_
  | with_reducible refine k_ret ?_
  | with_reducible refine k_next ?_
  | with_reducible refine k_if ?_
  | ((with_reducible refine' k_aug ?hv ?_); (case hv => exact rfl))
  | with_reducible refine k_ipI ?_
  | with_reducible refine k_gname ?_
  | with_reducible refine k_gsub ?_
  | ((with_reducible refine' k_gtup ?hv ?hw ?_); (case hv => walk_at "st"); (case hw => rfl))
  | with_reducible refine k_gcons ?_
  | with_reducible refine k_gnil ?_
  | with_reducible refine k_test ?_
  | with_reducible refine k_B ?_
  | with_reducible refine k_blE ?_
  | with_reducible refine k_and ?_
  | with_reducible refine k_or ?_
  | with_reducible refine k_not ?_
  | with_reducible refine iteT ?_
  | with_reducible refine iteF ?_
  | with_reducible refine iteNT ?_
  | with_reducible refine iteNF ?_
  | ((with_reducible refine' k_var ?hv ?_); (case hv => exact rfl))
  | with_reducible refine k_c ?_
  | with_reducible refine k_op ?_
  | with_reducible refine k_un ?_
  | with_reducible refine k_U ?_
  | with_reducible refine k_I0 ?_
  | ((with_reducible refine' k_I ?hv ?_); (case hv => walk_at "ic"))
  | with_reducible refine k_eqI ?_
  | with_reducible refine k_neI ?_
  | with_reducible refine k_eqS ?_
  | with_reducible refine k_neS ?_
  | with_reducible refine k_eqB ?_
  | with_reducible refine k_neB ?_
  | with_reducible refine k_for ?_
  | with_reducible refine k_iE ?_
  | with_reducible refine k_iA ?_
  | ((with_reducible refine' k_itl ?hv ?_); (case hv => walk_at "sl"))
  | ((with_reducible refine' k_itt ?hv ?_); (case hv => walk_at "st"))
  | with_reducible refine k_its ?_
  | ((with_reducible refine' k_rg1n ?hv ?_); (case hv => first | decide | omega))
  | ((with_reducible refine' k_rg1 ?hv ?hw ?_); (case hv => first | decide | omega); (case hw => first | decide | omega))
  | ((with_reducible refine' k_inS ?hv ?_); (case hv => walk_at "sa"))
  | ((with_reducible refine' k_inI ?hv ?_); (case hv => walk_at "sa"))
  | ((with_reducible refine' k_ninS ?hv ?_); (case hv => walk_at "sa"))
  | ((with_reducible refine' k_ninI ?hv ?_); (case hv => walk_at "sa"))
  | ((with_reducible refine' k_zipl ?hv ?hw ?_); (case hv => walk_at "sl"); (case hw => walk_at "sl"))
  | with_reducible refine k_nil ?_
  | with_reducible refine k_cons ?_
  | with_reducible refine k_cb ?_
  | with_reducible refine k_call ?_
  | with_reducible refine k_lst ?_
  | with_reducible refine k_tup ?_
  | with_reducible refine k_ifx ?_
  | with_reducible refine k_andv ?_
  | with_reducible refine k_orv ?_
  | with_reducible refine k_notv ?_
  | with_reducible refine k_inti ?_
  | with_reducible refine k_intb ?_
  | with_reducible refine k_sl ?_
  | with_reducible refine k_nopart ?_
  | with_reducible refine k_part ?_
  | with_reducible refine k_parti ?_
  | ((with_reducible refine' k_lenl ?hv ?_); (case hv => walk_at "sl"))
  | ((with_reducible refine' k_lent ?hv ?_); (case hv => walk_at "st"))
  | ((with_reducible refine' k_lens ?hv ?_); (case hv => exact szl (by walk_at "ln")))
  | ((with_reducible refine' k_lena ?hv ?_); (case hv => walk_at "sa"))
  | ((with_reducible refine' k_ixl ?hv ?hn ?_); (case hv => walk_at "sl"); (case hn => first | rfl | assumption))
  | ((with_reducible refine' k_ixt ?hv ?hn ?_); (case hv => walk_at "st"); (case hn => first | rfl | assumption))
  | ((with_reducible refine' k_ixa ?hv ?hn ?_); (case hv => walk_at "sa"); (case hn => first | rfl | assumption))
  | with_reducible refine k_chain ?_
  | ((with_reducible refine' k_isi ?hv ?hw ?_); (case hv => walk_at "ty"); (case hw => walk_at "kb"))
  | ((with_reducible refine' k_isi2 ?hb ?hp ?hv ?hw ?hx ?_); (case hp => walk_at "gt"); (case hv => walk_at "ty"); (case hw => walk_at "kb"); (case hx => walk_at "kb"); (case hb => first | exact or_t | exact or_f))
  | ((with_reducible refine' k_all ?hv ?_); (case hv => walk_at "gt"))
  | ((with_reducible refine' k_any ?hv ?_); (case hv => walk_at "gt"))
  | with_reducible refine k_insign ?_
  | with_reducible refine k_fldR ?_
  | ((with_reducible refine' k_fl ?hv ?_); (case hv => walk_at "fl"))
  | with_reducible refine k_sfld ?_
  | with_reducible refine k_meth ?_
  | ((with_reducible refine' k_mt ?hv ?_); (case hv => walk_at "mt"))
  | with_reducible refine k_make ?_
  | ((with_reducible refine' k_own ?hv ?hw ?_); (case hv => walk_at "is"); (case hw => walk_at "is"))
  | with_reducible refine k_lrg ?_
  | with_reducible refine k_rgt ?_
  | with_reducible refine k_rgti ?_
  | with_reducible refine k_bm ?_
  | with_reducible refine k_bm0 ?_
  | with_reducible refine k_tys ?_
  | ((with_reducible refine' k_tyl ?hv ?_); (case hv => walk_at "sl"))
  | ((with_reducible refine' k_ext ?hv ?hw ?hn ?_); (case hv => walk_at "gt"); (case hw => walk_at "gt"); (case hn => walk_at "ln"))
  | ((with_reducible refine' k_app ?hv ?hn ?_); (case hv => walk_at "gt"); (case hn => walk_at "ln"))
  | ((with_reducible refine' k_popat ?hv ?hn ?hw ?_); (case hv => walk_at "gt"); (case hn => with_reducible assumption); (case hw => walk_at "ln"))
  | with_reducible refine k_lc ?_
  | with_reducible refine k_yes0 ?_
  | ((with_reducible show wipe _ _ = wipe _ _ ∧ _); refine ⟨rfl, ?_⟩)
  | ((with_reducible refine' k_adds ?hv ?_); (case hv => walk_at "ln"))
  | ((with_reducible refine' k_st1 ?hv ?_); (case hv => walk_at "gt"))
  | ((with_reducible refine' k_st2 ?hv ?_); (case hv => walk_at "gt"))
  | ((with_reducible refine' k_st3 ?hv ?_); (case hv => walk_at "gt"))
  | ((with_reducible refine' k_setl ?hv ?hn ?_); (case hv => walk_at "gt"); (case hn => rfl)))
local macro_rules | `(tactic| walk_at "put") => `(tactic| ((refine' ⟨_, ?ha, sz ?hb, ?_⟩); (case ha => walk_at "gt"); (case hb => walk_at "ln")))
local macro_rules | `(tactic| walk_at "go") => `(tactic| repeat (walk_at "s1"))

def top (i : Nat) : Stmt := PySem.Challenge.pw_leafmarks_k08_whole_kernels_of_joined_ed.main.body.getD i (.Pass ⟨0, 0, 0, 0⟩)
abbrev s_law_fresh : Stmt := top 22
theorem sc_law_fresh : FnScope ["_law_script"] ["_law_script"] (defScope s_law_fresh) := ⟨rfl, rfl, rfl, by decide +kernel, rfl, by decide +kernel, by decide +kernel⟩
abbrev s_law_fill : Stmt := top 23
theorem sc_law_fill : FnScope ["_law_state", "_law_cells", "_law_nth", "_law_seed", "_law_k", "_law_prime", "_law_far"] ["_law_state"] (defScope s_law_fill) := ⟨rfl, rfl, rfl, by decide +kernel, rfl, by decide +kernel, by decide +kernel⟩
abbrev s_law_take : Stmt := top 24
theorem sc_law_take : FnScope ["_law_state", "_law_many", "_law_laps", "_law_digit"] ["_law_state", "_law_many"] (defScope s_law_take) := ⟨rfl, rfl, rfl, by decide +kernel, rfl, by decide +kernel, by decide +kernel⟩
abbrev s_law_one : Stmt := top 25
theorem sc_law_one : FnScope ["_law_state", "_law_things"] ["_law_state", "_law_things"] (defScope s_law_one) := ⟨rfl, rfl, rfl, by decide +kernel, rfl, by decide +kernel, by decide +kernel⟩
section
variable {P : Program} {w : World} {K : PySem.W.Frag} {mg : Str → Option Value} {base : Heap}

/-- where a state of draws stands: its list, the cells' list -/
structure Ds where
  st : Addr
  c : Addr
/-- a state of draws stands there -/
def Dr (H : Hp) (S : Ds) : Prop := ∃ (n r : Int) (b : Bool) (cells : List Int),
  H S.st = some (.lst [.ref S.c, .int n, .int r, .bl b]) ∧ H S.c = some (.lst (cells.map V.int)) ∧ 0 ≤ n ∧ 0 ≤ r ∧ cells.length ≤ 63
theorem cell_ne {H : Hp} {st c : Addr} {n r : Int} {b : Bool} {cells : List Int} (h1 : H st = some (.lst [.ref c, .int n, .int r, .bl b])) (h2 : H c = some (.lst (cells.map V.int))) : c ≠ st := by
  refine ne_of h2 h1 fun e => ?_
  have e' := HO.lst.inj e
  cases cells with
  | nil => cases e'
  | cons a l =>
    rw [List.map_cons] at e'
    injection e' with e1 _
    cases e1
theorem Dr.same {H H' : Hp} {S : Ds} (s : Same H H') (d : Dr H S) : Dr H' S := by
  obtain ⟨n, r, b, cells, h1, h2, h3⟩ := d
  exact ⟨n, r, b, cells, s _ _ h1, s _ _ h2, h3⟩
theorem Dr.new {H : Hp} {S : Ds} {p : Addr} {o : HO} (d : Dr H S) (np : H p = none) : Dr (upd H p o) S := by
  obtain ⟨n, r, b, cells, h1, h2, h3⟩ := d
  exact ⟨n, r, b, cells, upd_new h1 np, upd_new h2 np, h3⟩
theorem Dr.ne {H : Hp} {S : Ds} {p : Addr} (d : Dr H S) (np : H p = none) : p ≠ S.st := by
  obtain ⟨n, r, b, cells, h1, _⟩ := d
  exact (ne_of_none h1 np).symm
theorem Dr.nc {H : Hp} {S : Ds} {p : Addr} (d : Dr H S) (np : H p = none) : p ≠ S.c := by
  obtain ⟨n, r, b, cells, h1, h2, _⟩ := d
  exact (ne_of_none h2 np).symm
/-- another object changes -/
theorem Dr.mut {H H0 : Hp} {S : Ds} {p : Addr} {o : HO} (d : Dr H S) (d0 : Dr H0 S) (np : H0 p = none) : Dr (upd H p o) S := by
  have n1 := d0.ne np
  have n2 := d0.nc np
  obtain ⟨n, r, b, cells, h1, h2, h3⟩ := d
  exact ⟨n, r, b, cells, upd_old h1 n1.symm, upd_old h2 n2.symm, h3⟩
theorem Fr.none {H H' : Hp} {S : Ds} {p : Addr} (f : Fr S.st H H') (d : Dr H' S) (n : H' p = none) : H p = none := by
  cases e : H p with
  | none => rfl
  | some o =>
    by_cases q : p = S.st
    · subst q
      obtain ⟨_, _, _, _, h1, _⟩ := d
      rw [h1] at n; cases n
    · rw [f _ _ q e] at n; cases n

def spFresh (K : PySem.W.Frag) : Sp := fun vs H Q _ => ∃ (a : Addr) (ns : List Int), vs = [.ref a] ∧ SqL K H a (ns.map V.int) ∧ ns.length ≤ 63 ∧
  ∀ S H', Same H H' → H S.st = none → H S.c = none → Dr H' S → Q (.ref S.st) H'
theorem cutV_upto {xs : List V} {n : Nat} (h : xs.length ≤ n) : cutV xs none (some (n : Int)) = xs := by
  unfold cutV
  rw [HT.sIx_none, HT.sIx_nat, List.drop_zero, Nat.sub_zero, Nat.min_eq_right h, List.take_length]
theorem ok_fresh (D : Def K mg "_law_fresh" s_law_fresh) : Cal P w K mg base 1 "_law_fresh" ["_law_script"] (spFresh K) := by
  refine Cal.of D sc_law_fresh (fun _ _ _ _ _ _ us hl => match us, hl with | [_], _ => rfl) (fun vs H Q E h => ?_) (fun f cdv A outer s H vs Q E hr h => ?_)
  · obtain ⟨a, ns, rfl, _⟩ := h; rfl
  · obtain ⟨a, ns, rfl, hS, hl, k⟩ := h
    refine ⟨_, (pss_one (ps_ret (pe_lst (pa_cons (pe_slice (y_list K) (pv 0) po_none (po_some pe_int)) (pa_cons pe_int (pa_cons pe_int (pa_cons pe_bl pa_nil))))))), ?_⟩
    walk_at "go"
    refine k_sll hS fun c nc => ?_
    walk_at "go"
    refine ⟨Nat.le_of_ble_eq_true rfl, fun st nst => ?_⟩
    have e : cutV (ns.map V.int) none (some ((63 : Nat) : Int)) = ns.map V.int := cutV_upto (by rw [List.length_map]; exact hl)
    have nst' : H st = none := by
      cases q : H st with
      | none => rfl
      | some o => rw [upd_new q nc] at nst; cases nst
    refine k ⟨st, c⟩ _ (fun b o hb => upd_new (upd_new hb nc) nst) nst' nc ⟨0, 0, false, ns, upd_same, ?_, Int.le_refl _, Int.le_refl _, hl⟩
    show upd _ st _ c = _
    rw [upd_ne (ne_of_none upd_same nst), upd_same]
    exact congrArg (fun z => some (HO.lst z)) e

/-! ### fill -/
theorem at_lt {xs : List V} {k : Int} (h0 : 0 ≤ k) (h1 : k < xs.length) : ∃ x, x ∈ xs ∧ atI xs k = some x := by
  have e : xs[k.toNat]? = some (xs[k.toNat]'(by omega)) := List.getElem?_eq_getElem (by omega)
  have q := atI_nat e
  rw [Int.toNat_of_nonneg h0] at q
  exact ⟨_, List.getElem_mem _, q⟩
theorem at_mod {xs : List Int} (n : Int) (h : (0 : Int) < ((xs.map V.int).length : Nat)) : ∃ z, atI (xs.map V.int) (n % ((xs.map V.int).length : Nat)) = some (.int z) := by
  obtain ⟨x, hx, e⟩ := at_lt (xs := xs.map V.int) (k := n % ((xs.map V.int).length : Nat)) (Int.emod_nonneg _ (by omega)) (Int.emod_lt_of_pos _ h)
  obtain ⟨z, _, rfl⟩ := List.mem_map.mp hx
  exact ⟨z, e⟩
def spFill : Sp := fun vs H Q _ => ∃ S : Ds, vs = [.ref S.st] ∧ Dr H S ∧ ∀ H', Fr S.st H H' → Dr H' S → Q .non H'
def primes : List V := [.int 2147483647, .int 2147483629, .int 2147483587, .int 2147483579, .int 2147483563]
theorem ok_fill (B : Bn mg) (D : Def K mg "_law_fill" s_law_fill) : Cal P w K mg base 1 "_law_fill" ["_law_state"] spFill := by
  refine Cal.of D sc_law_fill (fun _ _ _ _ _ _ us hl => match us, hl with | [_], _ => rfl) (fun vs H Q E h => ?_) (fun f cdv A outer s H vs Q E hr h => ?_)
  · obtain ⟨a, rfl, _⟩ := h; rfl
  · obtain ⟨⟨st, c⟩, rfl, ⟨n, r, b, cells, h1, h2, hn, hr0, hcl⟩, k⟩ := h
    replace h1 : H st = some (.lst [.ref c, .int n, .int r, .bl b]) := h1
    replace h2 : H c = some (.lst (cells.map V.int)) := h2
    replace k : ∀ H', Fr st H H' → Dr H' ⟨st, c⟩ → Q .non H' := k
    have nc := cell_ne h1 h2
    have nc' := nc.symm
    have hcl' : (cells.map V.int).length ≤ 63 := by rw [List.length_map]; exact hcl
    refine ⟨_, (pss_cons (ps_par (i := 1) (j := 2) (by rfl) sc_law_fill.nd rfl rfl (by decide) rfl rfl (pa_cons (pe_ix (x_list K) (pv 0) pe_int (fun _ _ => rfl)) (pa_cons (pe_ix (x_list K) (pv 0) pe_int (fun _ _ => rfl)) pa_nil)) (by rfl))
      (pss_cons (ps_set (i := 3) sc_law_fill.nd rfl (Or.inl rfl) (pe_op op_add (pe_op op_mul pe_int (pv 2)) pe_int))
      (pss_cutL (ps_if (pt_cmpR op_gt (pe_callB (n_len K) (by rfl) B.len PySem.boot_len (pa_cons (pv 1) pa_nil)) pe_int (nomark _)) (pss_one (ps_set (i := 3) sc_law_fill.nd rfl (Or.inl rfl) (pe_op op_add (pe_op op_mul pe_int (pe_op op_fdiv (pv 2) (pe_callB (n_len K) (by rfl) B.len PySem.boot_len (pa_cons (pv 1) pa_nil)))) (pe_ix (x_list K) (pv 1) (pe_op op_mod (pe_callTy c_int (by rfl) B.int (by decide +kernel) (pa_cons (pv 2) pa_nil)) (pe_callB (n_len K) (by rfl) B.len PySem.boot_len (pa_cons (pv 1) pa_nil))) (fun _ _ => rfl))))) pss_nil)
      (pss_cons (ps_asg (pe_op op_add (pv 2) pe_int) (pg_sub (pv 0) pe_int set_list))
      (pss_cutL (ps_asg (pe_or (pe_cmpR op_ge (pv 2) (pe_callB (n_len K) (by rfl) B.len PySem.boot_len (pa_cons (pv 1) pa_nil)) (nomark _)) (pe_one (pe_cmpR op_lt (pv 3) (pe_op op_pow pe_int pe_int) (nomark _)))) (pg_sub (pv 0) pe_int set_list))
      (pss_cons (ps_asg (pe_op op_sub (pv 3) (pe_op op_pow pe_int pe_int)) (pg_sub (pv 0) pe_int set_list))
      (pss_one (ps_if (pt_val (pe_ix (x_list K) (pv 0) pe_int (fun _ _ => rfl))) (pss_cons (ps_asg pe_int (pg_sub (pv 0) pe_int set_list))
      (pss_one (ps_for PassesOwn.never rfl (q_enum K B.enumerate (pa_cons (pe_tup (pa_cons pe_int (pa_cons pe_int (pa_cons pe_int (pa_cons pe_int (pa_cons pe_int pa_nil)))))) pa_nil)) (pg_tup rfl (pgs_cons (pg_name (i := 4) sc_law_fill.nd rfl (Or.inl rfl)) (pgs_cons (pg_name (i := 5) sc_law_fill.nd rfl (Or.inl rfl)) pgs_nil))) (pss_cons (ps_set (i := 6) sc_law_fill.nd rfl (Or.inl rfl) (pe_op op_mod (pe_callTy c_int (by rfl) B.int (by decide +kernel) (pa_cons (pe_op op_mul (pe_op op_add (pe_op op_add (pv 3) (pe_op op_mul (pe_op op_mul pe_int (pv 4)) (pv 4))) (pe_op op_mul pe_int (pv 4))) (pe_op op_add pe_int (pe_op op_mul pe_int (pv 4)))) pa_nil)) (pv 5)))
      (pss_one (ps_asg (pe_op op_add (pe_op op_mul (pe_ix (x_list K) (pv 0) pe_int (fun _ _ => rfl)) (pv 5)) (pe_op op_mod (pe_callTy c_int (by rfl) B.int (by decide +kernel) (pa_cons (pe_op op_pow (pv 6) pe_int) pa_nil)) (pv 5))) (pg_sub (pv 0) pe_int set_list))))))) pss_nil)))))))), ?_⟩
    walk_at "go"
    refine ⟨fun σ' H' => H' = H ∧ ∃ seed, σ' = [some (.ref st), some (.ref c), some (.int n), some (.int seed), none, none, none], ?_, ?_⟩
    · walk_at "go"
      refine k_dec (fun h => ?_) (fun h => ⟨rfl, _, rfl⟩)
      obtain ⟨z, hz⟩ := at_mod n h
      walk_at "go"
      exact ⟨rfl, _, rfl⟩
    · rintro σ' H1 ⟨rfl, seed, rfl⟩
      walk_at "go"
      refine ⟨fun σ' H' => ∃ b', σ' = [some (.ref st), some (.ref c), some (.int n), some (.int seed), none, none, none] ∧ H' = upd H1 st (.lst [.ref c, .int (n + 1), .int r, .bl b']) ∧ (b' = false → 10 ^ 18 ≤ seed), ?_, ?_⟩
      · walk_at "go"
        refine k_dec (fun h => ?_) (fun h => ?_)
        · walk_at "go"
          exact ⟨true, rfl, upd_upd, fun e => nomatch e⟩
        · walk_at "go"
          refine ⟨decide (seed < 10 ^ 18), rfl, upd_upd, fun e => ?_⟩
          have := of_decide_eq_false e
          omega
      · rintro σ' H2 ⟨b', rfl, rfl, hb'⟩
        walk_at "go"
        refine k_bool (fun h => ?_) (fun h => ?_)
        · subst h
          walk_at "go"
          refine ⟨Nat.le_of_ble_eq_true rfl, fun tp ntp => ?_⟩
          have ntp' : tp ≠ st := by
            intro e
            rw [e, upd_same] at ntp
            cases ntp
          walk_at "go"
          refine for_enum (xs := primes) (H0 := fun b => if b = tp then some (.tup primes) else none) (sa_t (if_pos rfl)) (fun i σ' H' => ∃ v4 v5 v6 r', σ' = [some (.ref st), some (.ref c), some (.int n), some (.int seed), v4, v5, v6] ∧ H' st = some (.lst [.ref c, .int (n + 1), .int r', .bl true]) ∧ 0 ≤ r' ∧ Fr st H1 H' ∧ H' tp = some (.tup primes)) ⟨_, _, _, 0, rfl, by walk_at "gt", Int.le_refl _, ?_, upd_same⟩ ?_ ?_ ?_
          · exact Fr.new (Fr.at (Fr.at (Fr.at Fr.refl))) ntp
          · rintro i σ' H' _ ⟨_, _, _, _, _, _, _, _, h⟩ u hu
            exact rd_one h hu
          · rintro i x2 σ' H' T hi ⟨v4, v5, v6, r', rfl, g1, g2, g3, g4⟩ nT e2
            obtain ⟨p, rfl, hp0, hp1⟩ : ∃ p : Int, x2 = .int p ∧ 0 < p ∧ p < 2 ^ 40 := by
              have : x2 ∈ primes := List.mem_of_getElem? e2
              simp only [primes, List.mem_cons, List.not_mem_nil, or_false] at this
              rcases this with h | h | h | h | h <;> exact ⟨_, h, by decide, by decide⟩
            have nT' : T ≠ st := (ne_of_none g1 nT).symm
            have hi5 : i < 5 := hi
            walk_at "go"
            refine k_I ⟨by decide, by decide, ?_⟩ ?_
            · have q1 := Int.emod_nonneg ((seed + 10007 * (i : Int) * (i : Int) + 101 * (i : Int)) * (48271 + 2 * (i : Int))) (show p ≠ 0 by omega)
              have q2 := Int.emod_lt_of_pos ((seed + 10007 * (i : Int) * (i : Int) + 101 * (i : Int)) * (48271 + 2 * (i : Int))) hp0
              omega
            walk_at "go"
            refine ⟨_, _, _, _, rfl, upd_same, ?_, ?_, ?_⟩
            · exact Int.add_nonneg (Int.mul_nonneg g2 (by omega)) (Int.emod_nonneg _ (by omega))
            · exact Fr.at (Fr.new g3 nT)
            · exact upd_old (upd_new g4 nT) ntp'
          · rintro σ' H' ⟨v4, v5, v6, r', rfl, g1, g2, g3, g4⟩
            exact k _ g3 ⟨n + 1, r', true, cells, g1, g3 _ _ nc h2, by omega, g2, hcl⟩
        · walk_at "go"
          rw [upd_upd]
          exact k _ (Fr.at Fr.refl) ⟨n + 1, _, b', cells, upd_same, upd_old h2 nc, by omega, by have := hb' h; show (0 : Int) ≤ seed - 10 ^ 18; omega, hcl⟩

/-! ### take -/
def spTake : Sp := fun vs H Q _ => ∃ (S : Ds) (m : Int), vs = [.ref S.st, .int m] ∧ Dr H S ∧ 1 ≤ m ∧ m < 1073741824 ∧
  ∀ (d : Nat) H', (d : Int) < m → Fr S.st H H' → Dr H' S → Q (.int (d : Nat)) H'
theorem ok_take (B : Bn mg) (C_law_fill : Cal P w K mg base 1 "_law_fill" ["_law_state"] spFill) (D : Def K mg "_law_take" s_law_take) : Cal P w K mg base 2 "_law_take" ["_law_state", "_law_many"] spTake := by
  refine Cal.of D sc_law_take (fun _ _ _ _ _ _ us hl => match us, hl with | [_, _], _ => rfl) (fun vs H Q E h => ?_) (fun f cdv A outer s H vs Q E hr h => ?_)
  · obtain ⟨a, m, rfl, _⟩ := h; rfl
  · obtain ⟨⟨st, c⟩, m, rfl, D0, hm1, hm2, k⟩ := h
    replace k : ∀ (d : Nat) H', (d : Int) < m → Fr st H H' → Dr H' ⟨st, c⟩ → Q (.int (d : Nat)) H' := k
    refine ⟨_, (pss_cons (ps_set (i := 2) sc_law_take.nd rfl (Or.inl rfl) pe_int)
      (pss_cons (ps_while PassesOwn.never (pt_ans (PW.pt (pw_and (pt_cmpR op_lt (pv 2) pe_int (nomark _)) (pw_and1 (PW.pt (pw_or (pt_cmpR op_eq (pe_ix (x_list K) (pv 0) pe_int (fun _ _ => rfl)) pe_int (nomark _)) (pw_or1 (PW.pt (pw_and (pt_val (pe_ix (x_list K) (pv 0) pe_int (fun _ _ => rfl))) (pw_and1 (pt_cmpR op_lt (pe_ix (x_list K) (pv 0) pe_int (fun _ _ => rfl)) (pe_op op_mul (pv 1) pe_int) (nomark _)))))))))))) (pss_cons (ps_expr (pe_fn C_law_fill hr (by decide) (pa_cons (pv 0) pa_nil)))
      (pss_cons (ps_aug (i := 2) sc_law_take.nd rfl (Or.inl rfl) pe_int ip_add)
      (pss_one (ps_if (pt_ans (PW.pt (pw_and (pt_val (pe_ix (x_list K) (pv 0) pe_int (fun _ _ => rfl))) (pw_and1 (pt_cmpR op_lt (pe_ix (x_list K) (pv 0) pe_int (fun _ _ => rfl)) (pe_op op_mul (pv 1) pe_int) (nomark _)))))) (pss_one (ps_asg (pe_op op_add (pe_ix (x_list K) (pv 0) pe_int (fun _ _ => rfl)) (pe_op op_mul (pe_op op_mul (pv 1) pe_int) (pe_op op_add pe_int (pe_op op_mod (pe_callTy c_int (by rfl) B.int (by decide +kernel) (pa_cons (pe_ix (x_list K) (pv 0) pe_int (fun _ _ => rfl)) pa_nil)) pe_int)))) (pg_sub (pv 0) pe_int set_list))) pss_nil)))))
      (pss_cons (ps_set (i := 3) sc_law_take.nd rfl (Or.inl rfl) (pe_op op_mod (pe_callTy c_int (by rfl) B.int (by decide +kernel) (pa_cons (pe_ix (x_list K) (pv 0) pe_int (fun _ _ => rfl)) pa_nil)) (pv 1)))
      (pss_cons (ps_asg (pe_op op_fdiv (pe_ix (x_list K) (pv 0) pe_int (fun _ _ => rfl)) (pv 1)) (pg_sub (pv 0) pe_int set_list))
      (pss_one (ps_ret (pv 3))))))), ?_⟩
    walk_at "go"
    refine ⟨fun j σ' H' => ∃ laps : Int, 0 ≤ laps ∧ j = (64 - laps).toNat ∧ σ' = [some (.ref st), some (.int m), some (.int laps), none] ∧ Fr st H H' ∧ Dr H' ⟨st, c⟩, ⟨64, 0, Int.le_refl _, rfl, rfl, Fr.refl, D0⟩, ?_⟩
    rintro j σ' H1 ⟨laps, hl0, rfl, rfl, F1, D1⟩
    obtain ⟨n, r, b, cells, h1, h2, hn, hr0, hcl⟩ := id D1
    replace h1 : H1 st = some (.lst [.ref c, .int n, .int r, .bl b]) := h1
    replace h2 : H1 c = some (.lst (cells.map V.int)) := h2
    have nc := cell_ne h1 h2
    refine ⟨decide (laps < 64) && (decide (r = 0) || (b && decide (r < m * 4096))), fun Q' q => ?_, ?_⟩
    · walk_at "go"
      refine k_dec (fun hl => ?_) (fun hl => ?_)
      · rw [decide_eq_true hl, Bool.true_and] at q
        walk_at "go"
        refine k_dec (fun h => ?_) (fun h => ?_)
        · rw [decide_eq_true h, Bool.true_or] at q; exact q
        · rw [decide_eq_false h, Bool.false_or] at q
          walk_at "go"
          refine k_bool (fun h => ?_) (fun h => ?_)
          · rw [h, Bool.true_and] at q
            walk_at "go"
            exact q
          · rw [h, Bool.false_and] at q; exact q
      · rw [decide_eq_false hl, Bool.false_and] at q; exact q
    · refine k_bool (fun hb => ?_) (fun hb => ?_)
      · have hl : laps < 64 := by
          rw [Bool.and_eq_true] at hb
          exact of_decide_eq_true hb.1
        refine ⟨_, fun σ' H' h => h, ?_⟩
        walk_at "go"
        refine ⟨⟨st, c⟩, rfl, D1, fun H2 F2 D2 => ?_⟩
        replace F2 : Fr st H1 H2 := F2
        obtain ⟨n2, r2, b2, cells2, g1, g2, gn, gr0, gcl⟩ := id D2
        replace g1 : H2 st = some (.lst [.ref c, .int n2, .int r2, .bl b2]) := g1
        replace g2 : H2 c = some (.lst (cells2.map V.int)) := g2
        walk_at "go"
        refine ⟨b2 && decide (r2 < m * 4096), fun Q' q => ?_, ?_⟩
        · walk_at "go"
          refine k_bool (fun h => ?_) (fun h => ?_)
          · rw [h, Bool.true_and] at q
            walk_at "go"
            exact q
          · rw [h, Bool.false_and] at q; exact q
        · refine k_bool (fun hc => ?_) (fun hc => ?_)
          · walk_at "go"
            refine ⟨(64 - (laps + 1)).toNat, by omega, laps + 1, by omega, rfl, rfl, Fr.at (F1.trans F2), ⟨n2, _, b2, cells2, upd_same, upd_old g2 (cell_ne g1 g2), gn, ?_, gcl⟩⟩
            exact Int.add_nonneg gr0 (Int.mul_nonneg (by omega) (by omega))
          · walk_at "go"
            exact ⟨(64 - (laps + 1)).toNat, by omega, laps + 1, by omega, rfl, rfl, F1.trans F2, D2⟩
      · walk_at "go"
        have q1 := Int.emod_nonneg r (show m ≠ 0 by omega)
        have q2 := Int.emod_lt_of_pos r (show 0 < m by omega)
        have e : (((r % m).toNat : Nat) : Int) = r % m := Int.toNat_of_nonneg q1
        have q := k (r % m).toNat _ (by rw [e]; exact q2) (Fr.at F1) ⟨n, r / m, b, cells, upd_same, upd_old h2 nc, hn, Int.ediv_nonneg hr0 (by omega), hcl⟩
        rw [e] at q
        exact q

/-! ### one -/
def spOne (K : PySem.W.Frag) : Sp := fun vs H Q _ => ∃ (S : Ds) (a : Addr) (xs : List V), vs = [.ref S.st, .ref a] ∧ Dr H S ∧ SqA K H a xs ∧ a ≠ S.st ∧ 0 < xs.length ∧ xs.length < 1000000 ∧
  ∀ x H', x ∈ xs → Fr S.st H H' → Dr H' S → Q x H'
theorem ok_one (B : Bn mg) (C_law_take : Cal P w K mg base 2 "_law_take" ["_law_state", "_law_many"] spTake) (D : Def K mg "_law_one" s_law_one) : Cal P w K mg base 3 "_law_one" ["_law_state", "_law_things"] (spOne K) := by
  refine Cal.of D sc_law_one (fun _ _ _ _ _ _ us hl => match us, hl with | [_, _], _ => rfl) (fun vs H Q E h => ?_) (fun f cdv A outer s H vs Q E hr h => ?_)
  · obtain ⟨a, m, _, rfl, _⟩ := h; rfl
  · obtain ⟨S, a, xs, rfl, D0, hS, hne, hl0, hl1, k⟩ := h
    refine ⟨_, (pss_one (ps_ret (pe_ix (x_seq K) (pv 1) (pe_fn C_law_take hr (by decide) (pa_cons (pv 0) (pa_cons (pe_callB (n_len K) (by rfl) B.len PySem.boot_len (pa_cons (pv 1) pa_nil)) pa_nil))) (fun _ _ => rfl)))), ?_⟩
    walk_at "go"
    refine ⟨S, _, rfl, D0, by omega, by omega, fun d H1 hd F1 D1 => ?_⟩
    obtain ⟨x, hx, e⟩ := at_lt (xs := xs) (k := (d : Int)) (by omega) hd
    walk_at "go"
    exact k x H1 hx F1 D1
end
end Lf

set_option Elab.async false
set_option linter.all false
set_option maxRecDepth 100000
set_option maxHeartbeats 2000000
/-! The words of a law. -/
namespace Lf
open PySem L2
local macro_rules | `(tactic| walk_at "nq") => `(tactic| first | with_reducible assumption | with_reducible exact Ne.symm (by assumption) | with_reducible exact ne_of_none (by assumption) (by assumption) | with_reducible exact Ne.symm (ne_of_none (by assumption) (by assumption)))
local macro_rules | `(tactic| walk_at "gt") => `(tactic| first | with_reducible assumption | with_reducible exact upd_same | ((with_reducible refine' upd_new ?ha ?hb); (case hb => with_reducible assumption); (case ha => walk_at "gt")) | ((with_reducible refine' upd_old ?ha ?hb); (case hb => walk_at "nq"); (case ha => walk_at "gt")) | ((with_reducible refine' sm_get ?hb ?ha); (case hb => with_reducible assumption); (case ha => walk_at "gt")) | ((with_reducible refine' fr_get ?hb ?ha ?hc); (case hb => with_reducible assumption); (case hc => walk_at "nq"); (case ha => walk_at "gt")))
local macro_rules | `(tactic| walk_at "sl") => `(tactic| first | with_reducible assumption | ((with_reducible refine' sl_of ?ha); (case ha => walk_at "gt")) | ((with_reducible refine' sl_new ?ha ?hb); (case hb => with_reducible assumption); (case ha => walk_at "sl")) | ((with_reducible refine' sl_sm ?hb ?ha); (case hb => with_reducible assumption); (case ha => walk_at "sl")) | ((with_reducible refine' sl_fr ?hb ?hc ?ha); (case hb => with_reducible assumption); (case hc => walk_at "nq"); (case ha => walk_at "sl")))
local macro_rules | `(tactic| walk_at "st") => `(tactic| first | with_reducible assumption | ((with_reducible refine' st_of ?ha); (case ha => walk_at "gt")) | ((with_reducible refine' st_new ?ha ?hb); (case hb => with_reducible assumption); (case ha => walk_at "st")) | ((with_reducible refine' st_sm ?hb ?ha); (case hb => with_reducible assumption); (case ha => walk_at "st")) | ((with_reducible refine' st_fr ?hb ?hc ?ha); (case hb => with_reducible assumption); (case hc => walk_at "nq"); (case ha => walk_at "st")))
local macro_rules | `(tactic| walk_at "sa") => `(tactic| first | with_reducible assumption | ((with_reducible refine' sa_l ?ha); (case ha => walk_at "gt")) | ((with_reducible refine' sa_t ?ha); (case ha => walk_at "gt")) | ((with_reducible refine' sa_new ?ha ?hb); (case hb => with_reducible assumption); (case ha => walk_at "sa")) | ((with_reducible refine' sa_sm ?hb ?ha); (case hb => with_reducible assumption); (case ha => walk_at "sa")) | ((with_reducible refine' sa_fr ?hb ?hc ?ha); (case hb => with_reducible assumption); (case hc => walk_at "nq"); (case ha => walk_at "sa")) | ((with_reducible refine' Or.inl ?ha); (case ha => walk_at "sl")) | ((with_reducible refine' Or.inr ?ha); (case ha => walk_at "st")))
local macro_rules | `(tactic| walk_at "ln") => `(tactic| first | decide | omega | exact Nat.le_of_ble_eq_true rfl | (simp only [List.length_append, List.length_map, List.length_cons, List.length_nil, List.length_flatMap]; omega))
local macro_rules | `(tactic| walk_at "ty") => `(tactic| first | with_reducible assumption | with_reducible exact .base (.int _) | with_reducible exact .base (.str _) | with_reducible exact .base (.bl _) | with_reducible exact .base .non | ((with_reducible refine' TyX.base (TyOf.lst ?ha)); (case ha => walk_at "gt")) | ((with_reducible refine' TyX.base (TyOf.tup ?ha)); (case ha => walk_at "gt")) | ((with_reducible refine' TyX.base (TyOf.dK ?ha)); (case ha => walk_at "gt")) | ((with_reducible refine' ty_new ?ha ?hb); (case hb => with_reducible assumption); (case ha => walk_at "ty")) | ((with_reducible refine' ty_sm ?hb ?ha); (case hb => with_reducible assumption); (case ha => walk_at "ty")))
local macro_rules | `(tactic| walk_at "kb") => `(tactic| first | with_reducible assumption | exact kb_str_str | exact kb_int_str | exact kb_list_str | exact kb_tuple_str | exact kb_bool_str | exact kb_NoneType_str | exact kb_dict_str | exact kb_str_int | exact kb_int_int | exact kb_list_int | exact kb_tuple_int | exact kb_bool_int | exact kb_NoneType_int | exact kb_dict_int | exact kb_str_bool | exact kb_int_bool | exact kb_list_bool | exact kb_tuple_bool | exact kb_bool_bool | exact kb_NoneType_bool | exact kb_dict_bool | exact kb_str_list | exact kb_int_list | exact kb_list_list | exact kb_tuple_list | exact kb_bool_list | exact kb_NoneType_list | exact kb_dict_list | exact kb_str_tuple | exact kb_int_tuple | exact kb_list_tuple | exact kb_tuple_tuple | exact kb_bool_tuple | exact kb_NoneType_tuple | exact kb_dict_tuple | exact kb_str_dict | exact kb_int_dict | exact kb_list_dict | exact kb_tuple_dict | exact kb_bool_dict | exact kb_NoneType_dict | exact kb_dict_dict)
local macro_rules | `(tactic| walk_at "wk") => `(tactic| first | with_reducible assumption | ((with_reducible refine' WkAt.new ?ha ?hb); (case hb => with_reducible assumption); (case ha => walk_at "wk")) | ((with_reducible refine' WkAt.sm ?hb ?ha); (case hb => with_reducible assumption); (case ha => walk_at "wk")) | ((with_reducible refine' WkAt.dr ?hb ?hc ?ha); (case hb => with_reducible assumption); (case hc => with_reducible assumption); (case ha => walk_at "wk")))
local macro_rules | `(tactic| walk_at "ed") => `(tactic| first | with_reducible assumption | ((with_reducible refine' EdAt.new ?ha ?hb); (case hb => with_reducible assumption); (case ha => walk_at "ed")) | ((with_reducible refine' EdAt.sm ?hb ?ha); (case hb => with_reducible assumption); (case ha => walk_at "ed")) | ((with_reducible refine' EdAt.dr ?hb ?hc ?ha); (case hb => with_reducible assumption); (case hc => with_reducible assumption); (case ha => walk_at "ed")))
local macro_rules | `(tactic| walk_at "fl") => `(tactic| first | with_reducible assumption | ((with_reducible refine' WkAt.rows ?hT ?hW); (case hT => assumption); (case hW => walk_at "wk")) | ((with_reducible refine' WkAt.name ?hT ?hW); (case hT => assumption); (case hW => walk_at "wk")) | ((with_reducible refine' EdAt.work ?hT ?hW); (case hT => assumption); (case hW => walk_at "ed")) | ((with_reducible refine' EdAt.nums ?hT ?hW); (case hT => assumption); (case hW => walk_at "ed")))
local macro_rules | `(tactic| walk_at "mt") => `(tactic| first | with_reducible assumption | ((with_reducible refine' WkAt.mt ?hn1 ?hn2 ?hW); (case hW => walk_at "wk"); (case hn1 => decide +kernel); (case hn2 => decide +kernel)) | ((with_reducible refine' EdAt.mt ?hn1 ?hn2 ?hW); (case hW => walk_at "ed"); (case hn1 => decide +kernel); (case hn2 => decide +kernel)))
local macro_rules | `(tactic| walk_at "is") => `(tactic| first | with_reducible assumption | ((with_reducible refine' WkAt.is ?hW); (case hW => walk_at "wk")) | ((with_reducible refine' EdAt.is ?hW); (case hW => walk_at "ed")))
local macro_rules | `(tactic| walk_at "ic") => `(tactic| first
  | ((with_reducible show CMul _ _); first | exact Or.inl ⟨by decide, by decide⟩ | exact Or.inr ⟨by decide, by decide⟩ | exact Or.inl ⟨by omega, by omega⟩ | exact Or.inr ⟨by omega, by omega⟩)
  | ((with_reducible show CDiv _ _); first | exact ⟨by decide, by decide⟩ | exact ⟨by omega, by omega⟩)
  | ((with_reducible show CPow _ _); first | exact ⟨by decide, by decide, by decide⟩ | exact ⟨by decide, by decide, by omega⟩)
  | (show (0 : Int) < _; first | decide | omega))
local macro_rules | `(tactic| walk_at "s1") => `(tactic| first
  | with_reducible refine k_seq ?_
  | with_reducible refine k_set ?_
  | with_reducible refine k_asg ?_
  | with_reducible refine k_par ?_
  | with_reducible refine k_par2 ?_
  | with_reducible refine k_drop ?_
  | with_reducible refine k_ret ?_
  | with_reducible refine k_next ?_
  | with_reducible refine k_if ?_
  | ((with_reducible refine' k_aug ?hv ?_); (case hv => exact rfl))
  | with_reducible refine k_ipI ?_
  | with_reducible refine k_gname ?_
  | with_reducible refine k_gsub ?_
  | ((with_reducible refine' k_gtup ?hv ?hw ?_); (case hv => walk_at "st"); (case hw => rfl))
  | with_reducible refine k_gcons ?_
  | with_reducible refine k_gnil ?_
  | with_reducible refine k_test ?_
  | with_reducible refine k_B ?_
  | with_reducible refine k_blE ?_
  | with_reducible refine k_and ?_
  | with_reducible refine k_or ?_
  | with_reducible refine k_not ?_
  | with_reducible refine iteT ?_
  | with_reducible refine iteF ?_
  | with_reducible refine iteNT ?_
  | with_reducible refine iteNF ?_
  | ((with_reducible refine' k_var ?hv ?_); (case hv => exact rfl))
  | with_reducible refine k_c ?_
  | with_reducible refine k_op ?_
  | with_reducible refine k_un ?_
  | with_reducible refine k_U ?_
  | with_reducible refine k_I0 ?_
  | ((with_reducible refine' k_I ?hv ?_); (case hv => walk_at "ic"))
  | with_reducible refine k_eqI ?_
  | with_reducible refine k_neI ?_
  | with_reducible refine k_eqS ?_
  | with_reducible refine k_neS ?_
  | with_reducible refine k_eqB ?_
  | with_reducible refine k_neB ?_
  | with_reducible refine k_for ?_
  | with_reducible refine k_iE ?_
  | with_reducible refine k_iA ?_
  | ((with_reducible refine' k_itl ?hv ?_); (case hv => walk_at "sl"))
  | ((with_reducible refine' k_itt ?hv ?_); (case hv => walk_at "st"))
  | with_reducible refine k_its ?_
  | ((with_reducible refine' k_rg1n ?hv ?_); (case hv => first | decide | omega))
  | ((with_reducible refine' k_rg1 ?hv ?hw ?_); (case hv => first | decide | omega); (case hw => first | decide | omega))
  | ((with_reducible refine' k_inS ?hv ?_); (case hv => walk_at "sa"))
  | ((with_reducible refine' k_inI ?hv ?_); (case hv => walk_at "sa"))
  | ((with_reducible refine' k_ninS ?hv ?_); (case hv => walk_at "sa"))
  | ((with_reducible refine' k_ninI ?hv ?_); (case hv => walk_at "sa"))
  | ((with_reducible refine' k_zipl ?hv ?hw ?_); (case hv => walk_at "sl"); (case hw => walk_at "sl"))
  | with_reducible refine k_nil ?_
  | with_reducible refine k_cons ?_
  | with_reducible refine k_cb ?_
  | with_reducible refine k_call ?_
  | with_reducible refine k_lst ?_
  | with_reducible refine k_tup ?_
  | with_reducible refine k_ifx ?_
  | with_reducible refine k_andv ?_
  | with_reducible refine k_orv ?_
  | with_reducible refine k_notv ?_
  | with_reducible refine k_inti ?_
  | with_reducible refine k_intb ?_
  | with_reducible refine k_sl ?_
  | with_reducible refine k_nopart ?_
  | with_reducible refine k_part ?_
  | with_reducible refine k_parti ?_
  | ((with_reducible refine' k_lenl ?hv ?_); (case hv => walk_at "sl"))
  | ((with_reducible refine' k_lent ?hv ?_); (case hv => walk_at "st"))
  | ((with_reducible refine' k_lens ?hv ?_); (case hv => exact szl (by walk_at "ln")))
  | ((with_reducible refine' k_lena ?hv ?_); (case hv => walk_at "sa"))
  | ((with_reducible refine' k_ixl ?hv ?hn ?_); (case hv => walk_at "sl"); (case hn => first | rfl | assumption))
  | ((with_reducible refine' k_ixt ?hv ?hn ?_); (case hv => walk_at "st"); (case hn => first | rfl | assumption))
  | ((with_reducible refine' k_ixa ?hv ?hn ?_); (case hv => walk_at "sa"); (case hn => first | rfl | assumption))
  | with_reducible refine k_chain ?_
  | ((with_reducible refine' k_isi ?hv ?hw ?_); (case hv => walk_at "ty"); (case hw => walk_at "kb"))
  | ((with_reducible refine' k_isi2 ?hb ?hp ?hv ?hw ?hx ?_); (case hp => walk_at "gt"); (case hv => walk_at "ty"); (case hw => walk_at "kb"); (case hx => walk_at "kb"); (case hb => first | exact or_t | exact or_f))
  | ((with_reducible refine' k_all ?hv ?_); (case hv => walk_at "gt"))
  | ((with_reducible refine' k_any ?hv ?_); (case hv => walk_at "gt"))
  | with_reducible refine k_insign ?_
  | with_reducible refine k_fldR ?_
  | ((with_reducible refine' k_fl ?hv ?_); (case hv => walk_at "fl"))
  | with_reducible refine k_sfld ?_
  | with_reducible refine k_meth ?_
  | ((with_reducible refine' k_mt ?hv ?_); (case hv => walk_at "mt"))
  | with_reducible refine k_make ?_
  | ((with_reducible refine' k_own ?hv ?hw ?_); (case hv => walk_at "is"); (case hw => walk_at "is"))
  | with_reducible refine k_lrg ?_
  | with_reducible refine k_rgt ?_
  | with_reducible refine k_rgti ?_
  | with_reducible refine k_bm ?_
  | with_reducible refine k_bm0 ?_
  | with_reducible refine k_tys ?_
  | ((with_reducible refine' k_tyl ?hv ?_); (case hv => walk_at "sl"))
  | ((with_reducible refine' k_ext ?hv ?hw ?hn ?_); (case hv => walk_at "gt"); (case hw => walk_at "gt"); (case hn => walk_at "ln"))
  | ((with_reducible refine' k_app ?hv ?hn ?_); (case hv => walk_at "gt"); (case hn => walk_at "ln"))
  | ((with_reducible refine' k_popat ?hv ?hn ?hw ?_); (case hv => walk_at "gt"); (case hn => with_reducible assumption); (case hw => walk_at "ln"))
  | with_reducible refine k_lc ?_
  | with_reducible refine k_yes0 ?_
  | ((with_reducible show wipe _ _ = wipe _ _ ∧ _); refine ⟨rfl, ?_⟩)
  | ((with_reducible refine' k_adds ?hv ?_); (case hv => walk_at "ln"))
  | ((with_reducible refine' k_st1 ?hv ?_); (case hv => walk_at "gt"))
  | ((with_reducible refine' k_st2 ?hv ?_); (case hv => walk_at "gt"))
  | ((with_reducible refine' k_st3 ?hv ?_); (case hv => walk_at "gt"))
  | ((with_reducible refine' k_setl ?hv ?hn ?_); (case hv => walk_at "gt"); (case hn => rfl)))
local macro_rules | `(tactic| walk_at "put") => `(tactic| ((refine' ⟨_, ?ha, sz ?hb, ?_⟩); (case ha => walk_at "gt"); (case hb => walk_at "ln")))
local macro_rules | `(tactic| walk_at "go") => `(tactic| repeat (walk_at "s1"))

abbrev s_law_all_words : Stmt := top 26
theorem sc_law_all_words : FnScope ["_law_found", "_law_x", "_law_y"] [] (defScope s_law_all_words) := ⟨rfl, rfl, rfl, by decide +kernel, rfl, by decide +kernel, by decide +kernel⟩
abbrev s_law_some_words : Stmt := top 27
theorem sc_law_some_words : FnScope ["_law_state", "_law_many", "_law_left", "_law_found", "_law_k"] ["_law_state", "_law_many"] (defScope s_law_some_words) := ⟨rfl, rfl, rfl, by decide +kernel, rfl, by decide +kernel, by decide +kernel⟩
def aw0 : List Str := ["a", "b", "k", "zz", "abcdefgh"]
def awL : List Nat := (Str.ofString "abcdef").cps.toList
def awR : List Nat := (Str.ofString "ghijklmnop").cps.toList
def awRow (c : Nat) : List Str := awR.map fun d => (⟨#[c]⟩ : Str) ++ (⟨#[d]⟩ : Str)
def allWords : List Str := aw0 ++ awL.flatMap awRow
theorem all_nodup : allWords.Nodup := by decide +kernel
theorem all_len : allWords.length = 65 := by decide +kernel
section
variable {P : Program} {w : World} {K : PySem.W.Frag} {mg : Str → Option Value} {base : Heap}
def spAllWords : Sp := fun vs H Q _ => vs = [] ∧ ∀ l H', Same H H' → H l = none → H' l = some (.lst (allWords.map V.str)) → Q (.ref l) H'
theorem ok_all_words (D : Def K mg "_law_all_words" s_law_all_words) : Cal P w K mg base 1 "_law_all_words" [] spAllWords := by
  refine Cal.of D sc_law_all_words (fun _ _ _ _ _ _ us hl => match us, hl with | [], _ => rfl) (fun vs H Q E h => ?_) (fun f cdv A outer s H vs Q E hr h => ?_)
  · obtain ⟨rfl, _⟩ := h; rfl
  · obtain ⟨rfl, k⟩ := h
    refine ⟨_, (pss_cons (ps_set (i := 0) sc_law_all_words.nd rfl (Or.inl rfl) (pe_lst (pa_cons pe_str (pa_cons pe_str (pa_cons pe_str (pa_cons pe_str (pa_cons pe_str pa_nil)))))))
      (pss_cons (ps_for PassesOwn.never rfl (p_str pe_str) (pg_name (i := 1) sc_law_all_words.nd rfl (Or.inr rfl)) (pss_one (ps_expr (e_bm K PySem.F.plainAttrs_list PySem.F.slot_list_extend PySem.F.type_list_extend mt_extend (pv 0) (pa_cons (pe_lc (own := [("_law_y", 2)]) (g := (gName 2)) rfl sc_law_all_words.nd (p_str pe_str) (blkOk_by (own := [("_law_y", 2)]) (N := ["_law_found", "_law_x", "_law_y"]) (sc := defScope s_law_all_words) (by decide +kernel)) (fun _ _ _ _ _ => (pg_name (i := 2) sc_law_all_words.nd rfl (Or.inl rfl) (.inr rfl))) (fun _ _ _ _ _ => pts_nil) (fun _ _ _ _ _ => (pe_op o_adds (pv 1) (pv 2)))) pa_nil)))))
      (pss_one (ps_ret (pv 0))))), ?_⟩
    walk_at "go"
    refine ⟨Nat.le_of_ble_eq_true rfl, fun l nl => ?_⟩
    walk_at "go"
    refine for_w (walk_str (z := "abcdef")) (fun i σ' H' => ∃ v1 v2, σ' = [some (.ref l), v1, v2] ∧ Same H H' ∧ H' l = some (.lst ((aw0 ++ (awL.take i).flatMap awRow).map V.str))) ⟨_, _, rfl, Same.new (Same.refl H) nl, upd_same⟩ (fun _ _ _ _ _ => trivial) ?_ ?_
    · rintro i x σ' H1 H2 hi ⟨v1, v2, rfl, S1, h1⟩ ⟨rfl, c, hc, rfl⟩
      have hi6 : i < 6 := hi
      have hc' : awL[i]? = some c := by simpa [awL] using hc
      walk_at "go"
      refine lc_w (walk_str (z := "ghijklmnop")) (fun D j H' => Same H2 H' ∧ H' D = some (.lst (((awR.take j).map fun d => (⟨#[c]⟩ : Str) ++ (⟨#[d]⟩ : Str)).map V.str))) (fun D nD => ⟨Same.new (Same.refl _) nD, upd_same⟩) (fun _ _ _ _ _ _ => trivial) ?_ ?_
      · rintro D j y H3 H4 nD hj ⟨S3, h3⟩ ⟨rfl, d, hd, rfl⟩
        have hj10 : j < 10 := hj
        have hd' : awR[j]? = some d := by simpa [awR] using hd
        walk_at "go"
        have e := List.take_add_one (l := awR) (i := j)
        rw [hd'] at e
        have hlen : (awR.take j).length ≤ 10 := Nat.le_trans (List.length_take_le _ _) (by omega)
        refine ⟨_, h3, sz (by rw [List.length_map, List.length_map]; omega), Same.mut S3 nD, ?_⟩
        rw [upd_same, e]
        simp
      · rintro D H3 nD ⟨S3, h3⟩
        have e10 : (awR.take (Str.ofString "ghijklmnop").cps.size) = awR := by decide +kernel
        rw [e10] at h3
        have h1' := S3 _ _ h1
        have hlen : (List.map V.str (aw0 ++ (List.take i awL).flatMap awRow)).length + (List.map V.str (List.map (fun d => (⟨#[c]⟩ : Str) ++ (⟨#[d]⟩ : Str)) awR)).length < 100000 := by
          rw [List.length_map, List.length_map, List.length_map, List.length_append]
          have : ((awL.take i).flatMap awRow).length ≤ 60 := by
            have : i = 0 ∨ i = 1 ∨ i = 2 ∨ i = 3 ∨ i = 4 ∨ i = 5 := by omega
            rcases this with h | h | h | h | h | h <;> subst h <;> decide +kernel
          have h5 : aw0.length = 5 := rfl
          have h10 : awR.length = 10 := by decide +kernel
          omega
        walk_at "go"
        refine ⟨_, _, rfl, ?_, ?_⟩
        · exact Same.mut (S1.trans S3) nl
        · rw [upd_same, List.take_add_one, hc']
          simp [awRow]
    · rintro σ' H1 ⟨v1, v2, rfl, S1, h1⟩
      have e6 : (awL.take (Str.ofString "abcdef").cps.size) = awL := by decide +kernel
      rw [e6] at h1
      walk_at "go"
      exact k l H1 S1 nl h1

theorem map_erase {α β : Type} {f : α → β} : ∀ (l : List α) (n : Nat), (l.map f).eraseIdx n = (l.eraseIdx n).map f
  | [], n => rfl
  | a :: l, 0 => rfl
  | a :: l, n + 1 => by
    show f a :: (l.map f).eraseIdx n = f a :: (l.eraseIdx n).map f
    rw [map_erase l n]
theorem perm_erase {α : Type} : ∀ (l : List α) (n : Nat) (h : n < l.length), (l[n] :: l.eraseIdx n).Perm l
  | [], n, h => absurd h (Nat.not_lt_zero n)
  | a :: l, 0, h => List.Perm.refl _
  | a :: l, n + 1, h => by
    have h' : n < l.length := Nat.lt_of_succ_lt_succ h
    show (l[n] :: a :: l.eraseIdx n).Perm (a :: l)
    exact (List.Perm.swap a l[n] _).trans ((perm_erase l n h').cons a)
/-- n of the words, no two alike -/
def Words (ws : List Str) (n : Nat) : Prop := ws.length = n ∧ ∃ rest, (ws ++ rest).Perm allWords
theorem Words.nodup {ws : List Str} {n : Nat} (h : Words ws n) : ws.Nodup := by
  obtain ⟨_, rest, p⟩ := h
  exact (List.nodup_append.mp (p.nodup_iff.mpr all_nodup)).1
theorem Words.mem {ws : List Str} {n : Nat} (h : Words ws n) {x : Str} (hx : x ∈ ws) : x ∈ allWords := by
  obtain ⟨_, rest, p⟩ := h
  exact p.mem_iff.mp (List.mem_append_left _ hx)
def spSomeWords : Sp := fun vs H Q _ => ∃ (S : Ds) (n : Nat), vs = [.ref S.st, .int (n : Nat)] ∧ Dr H S ∧ n ≤ 60 ∧
  ∀ ws l H', Words ws n → Fr S.st H H' → H l = none → Dr H' S → H' l = some (.lst (ws.map V.str)) → Q (.ref l) H'
theorem ok_some_words (B : Bn mg) (C_law_all_words : Cal P w K mg base 1 "_law_all_words" [] spAllWords) (C_law_take : Cal P w K mg base 2 "_law_take" ["_law_state", "_law_many"] spTake) (D : Def K mg "_law_some_words" s_law_some_words) :
    Cal P w K mg base 3 "_law_some_words" ["_law_state", "_law_many"] spSomeWords := by
  refine Cal.of D sc_law_some_words (fun _ _ _ _ _ _ us hl => match us, hl with | [_, _], _ => rfl) (fun vs H Q E h => ?_) (fun f cdv A outer s H vs Q E hr h => ?_)
  · obtain ⟨_, _, rfl, _⟩ := h; rfl
  · obtain ⟨S, n, rfl, D0, hn, k⟩ := h
    refine ⟨_, (pss_cons (ps_par (i := 2) (j := 3) (by rfl) sc_law_some_words.nd rfl rfl (by decide) rfl rfl (pa_cons (pe_fn0 C_law_all_words hr (by decide)) (pa_cons (pe_lst pa_nil) pa_nil)) (by rfl))
      (pss_cons (ps_for PassesOwn.never rfl (p_range1 B.range (pa_cons (pv 1) pa_nil)) (pg_name (i := 4) sc_law_some_words.nd rfl (Or.inl rfl)) (pss_one (ps_expr (e_bm K PySem.F.plainAttrs_list PySem.F.slot_list_append PySem.F.type_list_append mt_append (pv 3) (pa_cons (e_bm K PySem.F.plainAttrs_list PySem.F.slot_list_pop PySem.F.type_list_pop mt_popAt (pv 2) (pa_cons (pe_fn C_law_take hr (by decide) (pa_cons (pv 0) (pa_cons (pe_callB (n_len K) (by rfl) B.len PySem.boot_len (pa_cons (pv 2) pa_nil)) pa_nil))) pa_nil)) pa_nil)))))
      (pss_one (ps_ret (pv 3))))), ?_⟩
    walk_at "go"
    refine ⟨rfl, fun l0 H1 S1 n0 h0 => ?_⟩
    walk_at "go"
    refine ⟨Nat.le_of_ble_eq_true rfl, fun l1 n1 => ?_⟩
    have n1' : H l1 = none := S1.free n1
    have ne01 : l0 ≠ l1 := ne_of_none h0 n1
    have ns0 : l0 ≠ S.st := D0.ne n0
    have ns1 : l1 ≠ S.st := D0.ne n1'
    walk_at "go"
    refine for_w walk_range (fun i σ' H' => ∃ got rest v, σ' = [some (.ref S.st), some (.int (n : Nat)), some (.ref l0), some (.ref l1), v] ∧ Fr S.st H H' ∧ Dr H' S ∧ H' l1 = some (.lst (got.map V.str)) ∧ H' l0 = some (.lst (rest.map V.str)) ∧ (got ++ rest).Perm allWords ∧ got.length = i)
      ⟨[], allWords, none, rfl, Fr.new (Lf.Same.fr S1) n1, (D0.same S1).new n1, upd_same, upd_new h0 n1, List.Perm.refl _, rfl⟩ (fun _ _ _ _ _ => trivial) ?_ ?_
    · rintro i x σ' H2 H3 hi ⟨got, rest, v, rfl, F2, D2, g1, g0, hp, hg⟩ ⟨rfl, rfl⟩
      have hl : got.length + rest.length = 65 := by
        have := hp.length_eq
        rw [List.length_append, all_len] at this
        exact this
      have hlr : (rest.map V.str).length = rest.length := List.length_map _
      walk_at "go"
      refine ⟨S, _, rfl, D2, by omega, by omega, fun d H4 hd F4 D4 => ?_⟩
      have hd' : d < rest.length := by omega
      have e : (rest.map V.str)[d]? = some (.str rest[d]) := by
        rw [List.getElem?_map, List.getElem?_eq_getElem hd']; rfl
      have g0' := F4 _ _ ns0 g0
      have g1' := F4 _ _ ns1 g1
      walk_at "go"
      refine ⟨got ++ [rest[d]], rest.eraseIdx d, _, rfl, Fr.mut (Fr.mut (F2.trans F4) n0) n1', (D4.mut D0 n0).mut D0 n1', ?_, ?_, ?_, ?_⟩
      · rw [upd_same, List.map_append]; rfl
      · rw [upd_ne ne01, upd_same, map_erase]
      · refine List.Perm.trans ?_ hp
        rw [List.append_assoc]
        exact List.Perm.append_left _ (perm_erase _ _ hd')
      · rw [List.length_append, hg]; rfl
    · rintro σ' H2 ⟨got, rest, v, rfl, F2, D2, g1, g0, hp, hg⟩
      walk_at "go"
      exact k got l1 H2 ⟨hg, rest, hp⟩ F2 n1' D2 g1
end
end Lf

set_option Elab.async false
set_option linter.all false
set_option maxRecDepth 100000
set_option maxHeartbeats 2000000
/-! The program's words and works. -/
namespace Lf
open PySem L2
local macro_rules | `(tactic| walk_at "nq") => `(tactic| first | with_reducible assumption | with_reducible exact Ne.symm (by assumption) | with_reducible exact ne_of_none (by assumption) (by assumption) | with_reducible exact Ne.symm (ne_of_none (by assumption) (by assumption)))
local macro_rules | `(tactic| walk_at "gt") => `(tactic| first | with_reducible assumption | with_reducible exact upd_same | ((with_reducible refine' upd_new ?ha ?hb); (case hb => with_reducible assumption); (case ha => walk_at "gt")) | ((with_reducible refine' upd_old ?ha ?hb); (case hb => walk_at "nq"); (case ha => walk_at "gt")) | ((with_reducible refine' sm_get ?hb ?ha); (case hb => with_reducible assumption); (case ha => walk_at "gt")) | ((with_reducible refine' fr_get ?hb ?ha ?hc); (case hb => with_reducible assumption); (case hc => walk_at "nq"); (case ha => walk_at "gt")))
local macro_rules | `(tactic| walk_at "sl") => `(tactic| first | with_reducible assumption | ((with_reducible refine' sl_of ?ha); (case ha => walk_at "gt")) | ((with_reducible refine' sl_new ?ha ?hb); (case hb => with_reducible assumption); (case ha => walk_at "sl")) | ((with_reducible refine' sl_sm ?hb ?ha); (case hb => with_reducible assumption); (case ha => walk_at "sl")) | ((with_reducible refine' sl_fr ?hb ?hc ?ha); (case hb => with_reducible assumption); (case hc => walk_at "nq"); (case ha => walk_at "sl")))
local macro_rules | `(tactic| walk_at "st") => `(tactic| first | with_reducible assumption | ((with_reducible refine' st_of ?ha); (case ha => walk_at "gt")) | ((with_reducible refine' st_new ?ha ?hb); (case hb => with_reducible assumption); (case ha => walk_at "st")) | ((with_reducible refine' st_sm ?hb ?ha); (case hb => with_reducible assumption); (case ha => walk_at "st")) | ((with_reducible refine' st_fr ?hb ?hc ?ha); (case hb => with_reducible assumption); (case hc => walk_at "nq"); (case ha => walk_at "st")))
local macro_rules | `(tactic| walk_at "sa") => `(tactic| first | with_reducible assumption | ((with_reducible refine' sa_l ?ha); (case ha => walk_at "gt")) | ((with_reducible refine' sa_t ?ha); (case ha => walk_at "gt")) | ((with_reducible refine' sa_new ?ha ?hb); (case hb => with_reducible assumption); (case ha => walk_at "sa")) | ((with_reducible refine' sa_sm ?hb ?ha); (case hb => with_reducible assumption); (case ha => walk_at "sa")) | ((with_reducible refine' sa_fr ?hb ?hc ?ha); (case hb => with_reducible assumption); (case hc => walk_at "nq"); (case ha => walk_at "sa")) | ((with_reducible refine' Or.inl ?ha); (case ha => walk_at "sl")) | ((with_reducible refine' Or.inr ?ha); (case ha => walk_at "st")))
local macro_rules | `(tactic| walk_at "ln") => `(tactic| first | decide | omega | exact Nat.le_of_ble_eq_true rfl | (simp only [List.length_append, List.length_map, List.length_cons, List.length_nil, List.length_flatMap]; omega))
local macro_rules | `(tactic| walk_at "ty") => `(tactic| first | with_reducible assumption | with_reducible exact .base (.int _) | with_reducible exact .base (.str _) | with_reducible exact .base (.bl _) | with_reducible exact .base .non | ((with_reducible refine' TyX.base (TyOf.lst ?ha)); (case ha => walk_at "gt")) | ((with_reducible refine' TyX.base (TyOf.tup ?ha)); (case ha => walk_at "gt")) | ((with_reducible refine' TyX.base (TyOf.dK ?ha)); (case ha => walk_at "gt")) | ((with_reducible refine' ty_new ?ha ?hb); (case hb => with_reducible assumption); (case ha => walk_at "ty")) | ((with_reducible refine' ty_sm ?hb ?ha); (case hb => with_reducible assumption); (case ha => walk_at "ty")))
local macro_rules | `(tactic| walk_at "kb") => `(tactic| first | with_reducible assumption | exact kb_str_str | exact kb_int_str | exact kb_list_str | exact kb_tuple_str | exact kb_bool_str | exact kb_NoneType_str | exact kb_dict_str | exact kb_str_int | exact kb_int_int | exact kb_list_int | exact kb_tuple_int | exact kb_bool_int | exact kb_NoneType_int | exact kb_dict_int | exact kb_str_bool | exact kb_int_bool | exact kb_list_bool | exact kb_tuple_bool | exact kb_bool_bool | exact kb_NoneType_bool | exact kb_dict_bool | exact kb_str_list | exact kb_int_list | exact kb_list_list | exact kb_tuple_list | exact kb_bool_list | exact kb_NoneType_list | exact kb_dict_list | exact kb_str_tuple | exact kb_int_tuple | exact kb_list_tuple | exact kb_tuple_tuple | exact kb_bool_tuple | exact kb_NoneType_tuple | exact kb_dict_tuple | exact kb_str_dict | exact kb_int_dict | exact kb_list_dict | exact kb_tuple_dict | exact kb_bool_dict | exact kb_NoneType_dict | exact kb_dict_dict)
local macro_rules | `(tactic| walk_at "wk") => `(tactic| first | with_reducible assumption | ((with_reducible refine' WkAt.new ?ha ?hb); (case hb => with_reducible assumption); (case ha => walk_at "wk")) | ((with_reducible refine' WkAt.sm ?hb ?ha); (case hb => with_reducible assumption); (case ha => walk_at "wk")) | ((with_reducible refine' WkAt.dr ?hb ?hc ?ha); (case hb => with_reducible assumption); (case hc => with_reducible assumption); (case ha => walk_at "wk")))
local macro_rules | `(tactic| walk_at "ed") => `(tactic| first | with_reducible assumption | ((with_reducible refine' EdAt.new ?ha ?hb); (case hb => with_reducible assumption); (case ha => walk_at "ed")) | ((with_reducible refine' EdAt.sm ?hb ?ha); (case hb => with_reducible assumption); (case ha => walk_at "ed")) | ((with_reducible refine' EdAt.dr ?hb ?hc ?ha); (case hb => with_reducible assumption); (case hc => with_reducible assumption); (case ha => walk_at "ed")))
local macro_rules | `(tactic| walk_at "fl") => `(tactic| first | with_reducible assumption | ((with_reducible refine' WkAt.rows ?hT ?hW); (case hT => assumption); (case hW => walk_at "wk")) | ((with_reducible refine' WkAt.name ?hT ?hW); (case hT => assumption); (case hW => walk_at "wk")) | ((with_reducible refine' EdAt.work ?hT ?hW); (case hT => assumption); (case hW => walk_at "ed")) | ((with_reducible refine' EdAt.nums ?hT ?hW); (case hT => assumption); (case hW => walk_at "ed")))
local macro_rules | `(tactic| walk_at "mt") => `(tactic| first | with_reducible assumption | ((with_reducible refine' WkAt.mt ?hn1 ?hn2 ?hW); (case hW => walk_at "wk"); (case hn1 => decide +kernel); (case hn2 => decide +kernel)) | ((with_reducible refine' EdAt.mt ?hn1 ?hn2 ?hW); (case hW => walk_at "ed"); (case hn1 => decide +kernel); (case hn2 => decide +kernel)))
local macro_rules | `(tactic| walk_at "is") => `(tactic| first | with_reducible assumption | ((with_reducible refine' WkAt.is ?hW); (case hW => walk_at "wk")) | ((with_reducible refine' EdAt.is ?hW); (case hW => walk_at "ed")))
local macro_rules | `(tactic| walk_at "ic") => `(tactic| first
  | ((with_reducible show CMul _ _); first | exact Or.inl ⟨by decide, by decide⟩ | exact Or.inr ⟨by decide, by decide⟩ | exact Or.inl ⟨by omega, by omega⟩ | exact Or.inr ⟨by omega, by omega⟩)
  | ((with_reducible show CDiv _ _); first | exact ⟨by decide, by decide⟩ | exact ⟨by omega, by omega⟩)
  | ((with_reducible show CPow _ _); first | exact ⟨by decide, by decide, by decide⟩ | exact ⟨by decide, by decide, by omega⟩)
  | (show (0 : Int) < _; first | decide | omega))
local macro_rules | `(tactic| walk_at "s1") => `(tactic| first
  | with_reducible refine k_seq ?_
  | with_reducible refine k_set ?_
  | with_reducible refine k_asg ?_
  | with_reducible refine k_par ?_
  | with_reducible refine k_par2 ?_
  | with_reducible refine k_drop ?_
  | with_reducible refine k_ret ?_
  | with_reducible refine k_next ?_
  | with_reducible refine k_if ?_
  | ((with_reducible refine' k_aug ?hv ?_); (case hv => exact rfl))
  | with_reducible refine k_ipI ?_
  | with_reducible refine k_gname ?_
  | with_reducible refine k_gsub ?_
  | ((with_reducible refine' k_gtup ?hv ?hw ?_); (case hv => walk_at "st"); (case hw => rfl))
  | with_reducible refine k_gcons ?_
  | with_reducible refine k_gnil ?_
  | with_reducible refine k_test ?_
  | with_reducible refine k_B ?_
  | with_reducible refine k_blE ?_
  | with_reducible refine k_and ?_
  | with_reducible refine k_or ?_
  | with_reducible refine k_not ?_
  | with_reducible refine iteT ?_
  | with_reducible refine iteF ?_
  | with_reducible refine iteNT ?_
  | with_reducible refine iteNF ?_
  | ((with_reducible refine' k_var ?hv ?_); (case hv => exact rfl))
  | with_reducible refine k_c ?_
  | with_reducible refine k_op ?_
  | with_reducible refine k_un ?_
  | with_reducible refine k_U ?_
  | with_reducible refine k_I0 ?_
  | ((with_reducible refine' k_I ?hv ?_); (case hv => walk_at "ic"))
  | with_reducible refine k_eqI ?_
  | with_reducible refine k_neI ?_
  | with_reducible refine k_eqS ?_
  | with_reducible refine k_neS ?_
  | with_reducible refine k_eqB ?_
  | with_reducible refine k_neB ?_
  | with_reducible refine k_for ?_
  | with_reducible refine k_iE ?_
  | with_reducible refine k_iA ?_
  | ((with_reducible refine' k_itl ?hv ?_); (case hv => walk_at "sl"))
  | ((with_reducible refine' k_itt ?hv ?_); (case hv => walk_at "st"))
  | with_reducible refine k_its ?_
  | ((with_reducible refine' k_rg1n ?hv ?_); (case hv => first | decide | omega))
  | ((with_reducible refine' k_rg1 ?hv ?hw ?_); (case hv => first | decide | omega); (case hw => first | decide | omega))
  | ((with_reducible refine' k_inS ?hv ?_); (case hv => walk_at "sa"))
  | ((with_reducible refine' k_inI ?hv ?_); (case hv => walk_at "sa"))
  | ((with_reducible refine' k_ninS ?hv ?_); (case hv => walk_at "sa"))
  | ((with_reducible refine' k_ninI ?hv ?_); (case hv => walk_at "sa"))
  | ((with_reducible refine' k_zipl ?hv ?hw ?_); (case hv => walk_at "sl"); (case hw => walk_at "sl"))
  | with_reducible refine k_nil ?_
  | with_reducible refine k_cons ?_
  | with_reducible refine k_cb ?_
  | with_reducible refine k_call ?_
  | with_reducible refine k_lst ?_
  | with_reducible refine k_tup ?_
  | with_reducible refine k_ifx ?_
  | with_reducible refine k_andv ?_
  | with_reducible refine k_orv ?_
  | with_reducible refine k_notv ?_
  | with_reducible refine k_inti ?_
  | with_reducible refine k_intb ?_
  | with_reducible refine k_sl ?_
  | with_reducible refine k_nopart ?_
  | with_reducible refine k_part ?_
  | with_reducible refine k_parti ?_
  | ((with_reducible refine' k_lenl ?hv ?_); (case hv => walk_at "sl"))
  | ((with_reducible refine' k_lent ?hv ?_); (case hv => walk_at "st"))
  | ((with_reducible refine' k_lens ?hv ?_); (case hv => exact szl (by walk_at "ln")))
  | ((with_reducible refine' k_lena ?hv ?_); (case hv => walk_at "sa"))
  | ((with_reducible refine' k_ixl ?hv ?hn ?_); (case hv => walk_at "sl"); (case hn => first | rfl | assumption))
  | ((with_reducible refine' k_ixt ?hv ?hn ?_); (case hv => walk_at "st"); (case hn => first | rfl | assumption))
  | ((with_reducible refine' k_ixa ?hv ?hn ?_); (case hv => walk_at "sa"); (case hn => first | rfl | assumption))
  | with_reducible refine k_chain ?_
  | ((with_reducible refine' k_isi ?hv ?hw ?_); (case hv => walk_at "ty"); (case hw => walk_at "kb"))
  | ((with_reducible refine' k_isi2 ?hb ?hp ?hv ?hw ?hx ?_); (case hp => walk_at "gt"); (case hv => walk_at "ty"); (case hw => walk_at "kb"); (case hx => walk_at "kb"); (case hb => first | exact or_t | exact or_f))
  | ((with_reducible refine' k_all ?hv ?_); (case hv => walk_at "gt"))
  | ((with_reducible refine' k_any ?hv ?_); (case hv => walk_at "gt"))
  | with_reducible refine k_insign ?_
  | with_reducible refine k_fldR ?_
  | ((with_reducible refine' k_fl ?hv ?_); (case hv => walk_at "fl"))
  | with_reducible refine k_sfld ?_
  | with_reducible refine k_meth ?_
  | ((with_reducible refine' k_mt ?hv ?_); (case hv => walk_at "mt"))
  | with_reducible refine k_make ?_
  | ((with_reducible refine' k_own ?hv ?hw ?_); (case hv => walk_at "is"); (case hw => walk_at "is"))
  | with_reducible refine k_lrg ?_
  | with_reducible refine k_rgt ?_
  | with_reducible refine k_rgti ?_
  | with_reducible refine k_bm ?_
  | with_reducible refine k_bm0 ?_
  | with_reducible refine k_tys ?_
  | ((with_reducible refine' k_tyl ?hv ?_); (case hv => walk_at "sl"))
  | ((with_reducible refine' k_ext ?hv ?hw ?hn ?_); (case hv => walk_at "gt"); (case hw => walk_at "gt"); (case hn => walk_at "ln"))
  | ((with_reducible refine' k_app ?hv ?hn ?_); (case hv => walk_at "gt"); (case hn => walk_at "ln"))
  | ((with_reducible refine' k_popat ?hv ?hn ?hw ?_); (case hv => walk_at "gt"); (case hn => with_reducible assumption); (case hw => walk_at "ln"))
  | with_reducible refine k_lc ?_
  | with_reducible refine k_yes0 ?_
  | ((with_reducible show wipe _ _ = wipe _ _ ∧ _); refine ⟨rfl, ?_⟩)
  | ((with_reducible refine' k_adds ?hv ?_); (case hv => walk_at "ln"))
  | ((with_reducible refine' k_st1 ?hv ?_); (case hv => walk_at "gt"))
  | ((with_reducible refine' k_st2 ?hv ?_); (case hv => walk_at "gt"))
  | ((with_reducible refine' k_st3 ?hv ?_); (case hv => walk_at "gt"))
  | ((with_reducible refine' k_setl ?hv ?hn ?_); (case hv => walk_at "gt"); (case hn => rfl)))
local macro_rules | `(tactic| walk_at "put") => `(tactic| ((refine' ⟨_, ?ha, sz ?hb, ?_⟩); (case ha => walk_at "gt"); (case hb => walk_at "ln")))
local macro_rules | `(tactic| walk_at "go") => `(tactic| repeat (walk_at "s1"))

abbrev sis_word : Stmt := top 11
theorem scis_word : FnScope ["thing", "letter"] ["thing"] (defScope sis_word) := ⟨rfl, rfl, rfl, by decide +kernel, rfl, by decide +kernel, by decide +kernel⟩
abbrev sis_row : Stmt := top 12
theorem scis_row : FnScope ["thing"] ["thing"] (defScope sis_row) := ⟨rfl, rfl, rfl, by decide +kernel, rfl, by decide +kernel, by decide +kernel⟩
abbrev sis_integer : Stmt := top 10
theorem scis_integer : FnScope ["thing"] ["thing"] (defScope sis_integer) := ⟨rfl, rfl, rfl, by decide +kernel, rfl, by decide +kernel, by decide +kernel⟩
abbrev sis_upto : Stmt := top 13
theorem scis_upto : FnScope ["thing", "most"] ["thing", "most"] (defScope sis_upto) := ⟨rfl, rfl, rfl, by decide +kernel, rfl, by decide +kernel, by decide +kernel⟩
def letters : Str := "abcdefghijklmnopqrstuvwxyz"
/-- a word -/
def isW (z : Str) : Bool := decide (1 ≤ z.length) && (decide (z.length ≤ 8) && z.cps.toList.all fun c => decide (c ∈ letters.cps.toList))
def wordV : V → Bool
  | .str z => isW z
  | _ => false
section
variable {P : Program} {w : World} {K : PySem.W.Frag} {mg : Str → Option Value} {base : Heap}
/-- the constants of the words -/
structure Cw (mg : Str → Option Value) : Prop where
  letters : ∃ t, mg "LETTERS" = some (.str letters t)
  longest : ∃ t, mg "LONGEST" = some (.int 8 t)
def spIsWord (K : PySem.W.Frag) : Sp := fun vs H Q _ => ∃ v, vs = [v] ∧ ((∃ z, v = .str z ∧ z.length < 100000) ∨ (wordV v = false ∧ ∃ t, TyX K H v t ∧ PySem.W.kitOne K t (.type "str") = some false)) ∧
  ∀ H', Same H H' → Q (.bl (wordV v)) H'
theorem ok_is_word (B : Bn mg) (W : Cw mg) (D : Def K mg "is_word" sis_word) : Cal P w K mg base 1 "is_word" ["thing"] (spIsWord K) := by
  obtain ⟨⟨tL, cL⟩, ⟨tM, cM⟩⟩ := W
  refine Cal.of D scis_word (fun _ _ _ _ _ _ us hl => match us, hl with | [_], _ => rfl) (fun vs H Q E h => ?_) (fun f cdv A outer s H vs Q E hr h => ?_)
  · obtain ⟨_, rfl, _⟩ := h; rfl
  · obtain ⟨v, rfl, hv, k⟩ := h
    refine ⟨_, (pss_cons (ps_if (PW.pt (pw_or (pt_not (pt_val (pe_callB (n_isi K) (by rfl) B.isinstance (by decide +kernel) (pa_cons (pv 0) (pa_cons (pe_bltn (v := .ty "str") (by rfl) B.str (by decide +kernel) rfl) pa_nil))))) (pw_or1 (pt_not (pt_chain op_le op_le pe_int (pe_callB (n_len K) (by rfl) B.len PySem.boot_len (pa_cons (pv 0) pa_nil)) (pe_glob (v := .int 8) rfl cM ⟨_, rfl⟩)))))) (pss_one (ps_ret pe_bl)) pss_nil)
      (pss_one (ps_ret (pe_callB (n_all K rfl) (by rfl) B.all (by decide +kernel) (pa_cons (pe_lc (own := [("letter", 1)]) (g := (gName 1)) rfl scis_word.nd (p_str (pv 0)) (blkOk_by (own := [("letter", 1)]) (N := ["thing", "letter"]) (sc := defScope sis_word) (by decide +kernel)) (fun _ _ _ _ _ => (pg_name (i := 1) scis_word.nd rfl (Or.inl rfl) (.inr rfl))) (fun _ _ _ _ _ => pts_nil) (fun _ _ _ _ _ => (pe_cmpR o_insign (pv 1) (pe_glob (v := .str letters) rfl cL ⟨_, rfl⟩) rfl))) pa_nil))))), ?_⟩
    rcases hv with ⟨z, rfl, hz⟩ | ⟨hv, t, ht, hk⟩
    · walk_at "go"
      refine k_dec (fun h1 => ?_) (fun h1 => ?_)
      · walk_at "go"
        refine k_ndec (fun h2 => ?_) (fun h2 => ?_)
        · walk_at "go"
          refine lc_w (walk_str (z := z)) (fun D j H' => Same H H' ∧ H' D = some (.lst (((z.cps.toList.take j).map fun c => decide (c ∈ letters.cps.toList)).map V.bl))) (fun D nD => ⟨Same.new (Same.refl _) nD, upd_same⟩) (fun _ _ _ _ _ _ => trivial) ?_ ?_
          · rintro D j y H3 H4 nD hj ⟨S3, h3⟩ ⟨rfl, c, hc, rfl⟩
            have hc' : z.cps.toList[j]? = some c := by simpa using hc
            walk_at "go"
            refine ⟨_, h3, sz ?_, Same.mut S3 nD, ?_⟩
            · rw [List.length_map, List.length_map]
              have := List.length_take_le' j z.cps.toList
              have e : z.cps.toList.length = z.length := by simp [Str.length]
              omega
            · rw [upd_same, List.take_add_one, hc']
              simp
          · rintro D H3 nD ⟨S3, h3⟩
            have e : z.cps.toList.take z.cps.size = z.cps.toList := List.take_of_length_le (by simp)
            rw [e] at h3
            walk_at "go"
            have q := k H3 S3
            have e2 : wordV (.str z) = ((z.cps.toList.map fun c => decide (c ∈ letters.cps.toList)).all id) := by
              show isW z = _
              unfold isW
              rw [decide_eq_true (show 1 ≤ z.length by omega), decide_eq_true (show z.length ≤ 8 by omega), Bool.true_and, Bool.true_and, List.all_map]
              rfl
            rw [e2] at q
            exact q
        · walk_at "go"
          have q := k H (Same.refl H)
          have e2 : wordV (.str z) = false := by
            show isW z = _
            unfold isW
            rw [decide_eq_false (show ¬ z.length ≤ 8 by omega), Bool.false_and, Bool.and_false]
          rw [e2] at q
          exact q
      · walk_at "go"
        have q := k H (Same.refl H)
        have e2 : wordV (.str z) = false := by
          show isW z = _
          unfold isW
          rw [decide_eq_false (show ¬ 1 ≤ z.length by omega), Bool.false_and]
        rw [e2] at q
        exact q
    · walk_at "go"
      have q := k H (Same.refl H)
      rw [hv] at q
      exact q
def spIsRow (K : PySem.W.Frag) : Sp := fun vs H Q _ => ∃ v b, vs = [v] ∧ (∃ t b1 b2, TyX K H v t ∧ PySem.W.kitOne K t (.type "list") = some b1 ∧ PySem.W.kitOne K t (.type "tuple") = some b2 ∧ (b1 || b2) = b) ∧ ∀ H', Same H H' → Q (.bl b) H'
theorem ok_is_row (B : Bn mg) (D : Def K mg "is_row" sis_row) : Cal P w K mg base 1 "is_row" ["thing"] (spIsRow K) := by
  refine Cal.of D scis_row (fun _ _ _ _ _ _ us hl => match us, hl with | [_], _ => rfl) (fun vs H Q E h => ?_) (fun f cdv A outer s H vs Q E hr h => ?_)
  · obtain ⟨_, _, rfl, _⟩ := h; rfl
  · obtain ⟨v, b, rfl, ⟨t, b1, b2, ht, h1, h2, hb⟩, k⟩ := h
    refine ⟨_, (pss_one (ps_ret (pe_callB (n_isiT K) (by rfl) B.isinstance (by decide +kernel) (pa_cons (pv 0) (pa_cons (pe_tup (pa_cons (pe_bltn (v := .ty "list") (by rfl) B.list (by decide +kernel) rfl) (pa_cons (pe_bltn (v := .ty "tuple") (by rfl) B.tuple (by decide +kernel) rfl) pa_nil))) pa_nil))))), ?_⟩
    walk_at "go"
    refine ⟨Nat.le_of_ble_eq_true rfl, fun p np => ?_⟩
    walk_at "go"
    subst hb
    exact k _ (Same.new (Same.refl H) np)
def spIsInt (K : PySem.W.Frag) : Sp := fun vs H Q _ => ∃ v b, vs = [v] ∧ (∃ t b1 b2, TyX K H v t ∧ PySem.W.kitOne K t (.type "int") = some b1 ∧ PySem.W.kitOne K t (.type "bool") = some b2 ∧ (b1 && !b2) = b) ∧ Q (.bl b) H
theorem ok_is_integer (B : Bn mg) (D : Def K mg "is_integer" sis_integer) : Cal P w K mg base 1 "is_integer" ["thing"] (spIsInt K) := by
  refine Cal.of D scis_integer (fun _ _ _ _ _ _ us hl => match us, hl with | [_], _ => rfl) (fun vs H Q E h => ?_) (fun f cdv A outer s H vs Q E hr h => ?_)
  · obtain ⟨_, _, rfl, _⟩ := h; rfl
  · obtain ⟨v, b, rfl, ⟨t, b1, b2, ht, h1, h2, hb⟩, k⟩ := h
    refine ⟨_, (pss_one (ps_ret (pe_and (pe_callB (n_isi K) (by rfl) B.isinstance (by decide +kernel) (pa_cons (pv 0) (pa_cons (pe_bltn (v := .ty "int") (by rfl) B.int (by decide +kernel) rfl) pa_nil))) (pe_one (pe_not (pe_callB (n_isi K) (by rfl) B.isinstance (by decide +kernel) (pa_cons (pv 0) (pa_cons (pe_bltn (v := .ty "bool") (by rfl) B.bool (by decide +kernel) rfl) pa_nil)))))))), ?_⟩
    walk_at "go"
    cases b1 with
    | true =>
      walk_at "go"
      subst hb
      exact k
    | false =>
      walk_at "go"
      subst hb
      exact k
/-- 0 <= n <= most, of an integer -/
def spIsUpto (K : PySem.W.Frag) : Sp := fun vs H Q _ => ∃ (v : V) (m : Int) (b : Bool), vs = [v, .int m] ∧ ((∃ n : Int, v = .int n ∧ b = decide (0 ≤ n ∧ n ≤ m)) ∨ (b = false ∧ ∃ t b1 b2, TyX K H v t ∧ PySem.W.kitOne K t (.type "int") = some b1 ∧ PySem.W.kitOne K t (.type "bool") = some b2 ∧ (b1 && !b2) = false)) ∧ Q (.bl b) H
theorem ok_is_upto (Cis_integer : Cal P w K mg base 1 "is_integer" ["thing"] (spIsInt K)) (D : Def K mg "is_upto" sis_upto) : Cal P w K mg base 2 "is_upto" ["thing", "most"] (spIsUpto K) := by
  refine Cal.of D scis_upto (fun _ _ _ _ _ _ us hl => match us, hl with | [_, _], _ => rfl) (fun vs H Q E h => ?_) (fun f cdv A outer s H vs Q E hr h => ?_)
  · obtain ⟨_, _, _, rfl, _⟩ := h; rfl
  · obtain ⟨v, m, b, rfl, hv, k⟩ := h
    refine ⟨_, (pss_one (ps_ret (pe_and (pe_fn Cis_integer hr (by decide) (pa_cons (pv 0) pa_nil)) (pe_one (pe_chain op_le op_le pe_int (pv 0) (pv 1)))))), ?_⟩
    walk_at "go"
    rcases hv with ⟨n, rfl, hb⟩ | ⟨hb, t, b1, b2, ht, h1, h2, h3⟩
    · refine ⟨_, true, rfl, ⟨_, true, false, .base (.int n), kb_int_int, kb_int_bool, rfl⟩, ?_⟩
      walk_at "go"
      refine k_dec (fun h => ?_) (fun h => ?_)
      · walk_at "go"
        have e : decide (n ≤ m) = b := by rw [hb]; exact decide_eq_decide.mpr ⟨fun q => ⟨h, q⟩, fun q => q.2⟩
        rw [e]; exact k
      · walk_at "go"
        have e : b = false := by rw [hb]; exact decide_eq_false fun q => h q.1
        rw [e] at k; exact k
    · refine ⟨_, false, rfl, ⟨t, b1, b2, ht, h1, h2, h3⟩, ?_⟩
      walk_at "go"
      rw [hb] at k
      exact k
end
end Lf

set_option Elab.async false
set_option linter.all false
set_option maxRecDepth 100000
set_option maxHeartbeats 2000000
/-! Operators by methods of own classes. -/
namespace Lf
open PySem PySem.Spec PyProof.Rows L2
section
variable {X : Cx} {k j : Nat} {ps : List Str} {sp : Sp} {C : Addr}
/-- x op y, both of the class at C -/
def rOwn (C : Addr) (sp : Sp) : R2 := fun x y H Q => ∃ a b dx fs dy gs, x = .ref a ∧ y = .ref b ∧ H a = some (.ins C dx fs) ∧ H b = some (.ins C dy gs) ∧ sp [x, y] H Q E0
theorem k_own {a b : Addr} {H : Hp} {Q : VK} (ha : Is H a C) (hb : Is H b C) (h : sp [.ref a, .ref b] H Q E0) : rOwn C sp (.ref a) (.ref b) H Q := by
  obtain ⟨dx, fs, h1⟩ := ha
  obtain ⟨dy, gs, h2⟩ := hb
  exact ⟨a, b, dx, fs, dy, gs, rfl, rfl, h1, h2, h⟩
theorem cmpBack_of {pins : List (Addr × Obj)} {σ : L2.St} {Q : VK} {u : Value} {s' : Shared} (h : EP X pins σ Q u s') : PySem.W.CmpBack (EP X pins σ Q) u s' := by
  cases u with
  | notImplemented =>
    obtain ⟨v, H', I, r, q⟩ := h
    cases v with
    | int i => obtain ⟨t, e⟩ := r; cases e
    | str i => obtain ⟨t, e⟩ := r; cases e
    | byt i => obtain ⟨t, e⟩ := r; cases e
    | flt i => obtain ⟨t, e⟩ := r; cases e
    | _ => cases r
  | _ => exact h
theorem o_bin {op : Operator} (c : CalM X.prog X.w X.K X.mg X.base k C (PySem.dunder op.info.2) ps sp) (hr : Room j X.A) (hk : k ≤ j) (hc : PySem.W.selfFirst X.K C = true) : OpR X (binaryOp op) (rOwn C sp) := by
  intro pins s σ H x y u v Q I rx ry h
  obtain ⟨a, b, dx, fs, dy, gs, rfl, rfl, ha, hb, hsp⟩ := h
  cases rx
  cases ry
  obtain ⟨f, fd, hm, hbi, hF⟩ := c
  obtain ⟨mA, J, _⟩ := ins_get I.hok ha
  obtain ⟨mB, J', _⟩ := ins_get I.hok hb
  obtain ⟨od, J, _⟩ := J.look
  obtain ⟨od', J', _⟩ := J'.look
  obtain ⟨m, hFr⟩ := I.fr
  refine PySem.W.binop_K hFr I.ok.mod.kin J J'.type hc hm.at_ hm.fn ?_
  exact wpAny_mono (run_fn (us := [.ref a, .ref b]) (vs := [.ref a, .ref b]) hF (hr.mono hk) hbi .nil pass0 I (.cons rfl (.cons rfl .nil)) hsp) (fun u s' q => cmpBack_of q) fun _ _ e => e
theorem o_cmp {op : CmpOp} (c : CalM X.prog X.w X.K X.mg X.base k C (cmpInfo op).2.1 ps sp) (hr : Room j X.A) (hk : k ≤ j) (hop : ∀ u v, compareOp op u v = richCompare op u v := by intro _ _; rfl) : OpR X (compareOp op) (rOwn C sp) := by
  intro pins s σ H x y u v Q I rx ry h
  obtain ⟨a, b, dx, fs, dy, gs, rfl, rfl, ha, hb, hsp⟩ := h
  cases rx
  cases ry
  obtain ⟨f, fd, hm, hbi, hF⟩ := c
  obtain ⟨mA, J, _⟩ := ins_get I.hok ha
  obtain ⟨mB, J', _⟩ := ins_get I.hok hb
  obtain ⟨od, J, _⟩ := J.look
  obtain ⟨od', J', _⟩ := J'.look
  obtain ⟨m, hFr⟩ := I.fr
  rw [hop]
  refine PySem.W.cmp_K (op := op) (tb := .ref C) hr.units0 hFr I.ok.mod.kin J J'.type (by simp [PySem.W.notFirst]) hm.at_ hm.fn ?_
  exact wpAny_mono (run_fn (us := [.ref a, .ref b]) (vs := [.ref a, .ref b]) hF (hr.mono hk) hbi .nil pass0 I (.cons rfl (.cons rfl .nil)) hsp) (fun u s' q => cmpBack_of q) fun _ _ e => e
/-- v in x, x of the class at C -/
def rOwnIn (C : Addr) (sp : Sp) : R2 := fun v x H Q => ∃ a dx fs, x = .ref a ∧ H a = some (.ins C dx fs) ∧ sp [x, v] H (fun z H' => ∃ b, z = .bl b ∧ Q (.bl b) H') E0
theorem k_ownin {a : Addr} {v : V} {H : Hp} {Q : VK} (ha : Is H a C) (h : sp [.ref a, v] H (fun z H' => ∃ b, z = .bl b ∧ Q (.bl b) H') E0) : rOwnIn C sp v (.ref a) H Q := by
  obtain ⟨dx, fs, h1⟩ := ha
  exact ⟨a, dx, fs, rfl, h1, h⟩
theorem o_in (c : CalM X.prog X.w X.K X.mg X.base k C "__contains__" ps sp) (hr : Room j X.A) (hk : k ≤ j) : OpR X (compareOp .In) (rOwnIn C sp) := by
  intro pins s σ H x y u v Q I rx ry h
  obtain ⟨a, dx, fs, rfl, ha, hsp⟩ := h
  cases ry
  obtain ⟨f, fd, hm, hbi, hF⟩ := c
  obtain ⟨mA, J, _⟩ := ins_get I.hok ha
  obtain ⟨od, J, _⟩ := J.look
  obtain ⟨m, hFr⟩ := I.fr
  refine PySem.W.in_K hFr I.ok.mod.kin J hm.at_ hm.fn ?_
  refine wpAny_mono (run_fn (us := [.ref a, u]) (vs := [.ref a, x]) hF (hr.mono hk) hbi .nil pass0 I (.cons rfl (.cons rx .nil)) hsp) (fun z s' q => ?_) fun _ _ e => e
  obtain ⟨w', H', I', r', b, rfl, q⟩ := q
  cases r'
  exact wpAny_truthy_bool ⟨.bl b, H', I', rfl, q⟩
/-- len(x), x of the class at C -/
def rLenO (C : Addr) (sp : Sp) : List V → Hp → VK → Prop := fun xs H Q => ∃ a dx fs, xs = [.ref a] ∧ H a = some (.ins C dx fs) ∧ sp [.ref a] H (fun z H' => ∃ n : Nat, z = .int (n : Nat) ∧ n < 1000000 ∧ Q z H') E0
theorem k_lenO {a : Addr} {H : Hp} {Q : VK} (ha : Is H a C) (h : sp [.ref a] H (fun z H' => ∃ n : Nat, z = .int (n : Nat) ∧ n < 1000000 ∧ Q z H') E0) : rLenO C sp [.ref a] H Q := by
  obtain ⟨dx, fs, h1⟩ := ha
  exact ⟨a, dx, fs, rfl, h1, h⟩
theorem c_lenO (c : CalM X.prog X.w X.K X.mg X.base k C "__len__" ps sp) (hr : Room j X.A) (hk : k + 1 ≤ j) : CallR X (.builtin "len") (rLenO C sp) := by
  intro pins s σ H xs us Q I r h
  obtain ⟨a, dx, fs, rfl, ha, hsp⟩ := h
  cases r with
  | cons r1 r2 =>
    cases r2
    cases r1
    obtain ⟨f, fd, hm, hbi, hF⟩ := c
    obtain ⟨mA, J, _⟩ := ins_get I.hok ha
    obtain ⟨od, J, _⟩ := J.look
    obtain ⟨m, hFr⟩ := I.fr
    refine PySem.W.len_K hFr I.ok.mod.kin J hm.at_ hm.fn ?_
    have e0 := I.env0.in1
    have hl := hF.len _ _ _ _ hsp
    refine wpAny_call (codeAny_mono (hF.run X.A.in1 X.stack s H ⟨[.ref a], []⟩ [.ref a] [.ref a] _ E0 (hr.mono hk).in1 e0 (by
      have := hbi s [.ref a] I.kIn (by simpa using hl)
      simpa using this) (.cons rfl .nil) hsp) fun r s' hq => ?_)
    cases r with
    | error e => exact hq.elim
    | ok fl =>
      cases fl with
      | ret w =>
        obtain ⟨z, H', I', rz, n, rfl, hn, q⟩ := I.after hq
        obtain ⟨t, rfl⟩ := rz
        exact ⟨⟨by omega, by omega⟩, .int n, H', I'.kept (fun b o e => e), ⟨_, rfl⟩, q⟩
      | next => exact False.elim hq
      | brk => exact False.elim hq
      | cont => exact False.elim hq
end
end Lf

set_option Elab.async false
set_option linter.all false
set_option maxRecDepth 100000
set_option maxHeartbeats 2000000
/-! == of flat lists and tuples. -/
namespace Lf
open PySem L2
def okS (ws : List Str) : Prop := ∀ x ∈ ws, PyData.strOk x = true
theorem eqv_strs : ∀ (xs ys : List Str), PyData.eqvAll (xs.map PyData.str) (ys.map PyData.str) = decide (xs = ys)
  | [], [] => rfl
  | [], _ :: _ => rfl
  | _ :: _, [] => rfl
  | x :: xs, y :: ys => by
    show ((x == y) && PyData.eqvAll (xs.map PyData.str) (ys.map PyData.str)) = _
    rw [eqv_strs xs ys, Bool.eq_iff_iff, Bool.and_eq_true, decide_eq_true_iff, decide_eq_true_iff, beq_iff_eq, List.cons.injEq]
theorem eqv_ints : ∀ (xs ys : List Int), PyData.eqvAll (xs.map PyData.int) (ys.map PyData.int) = decide (xs = ys)
  | [], [] => rfl
  | [], _ :: _ => rfl
  | _ :: _, [] => rfl
  | x :: xs, y :: ys => by
    show ((x == y) && PyData.eqvAll (xs.map PyData.int) (ys.map PyData.int)) = _
    rw [eqv_ints xs ys, Bool.eq_iff_iff, Bool.and_eq_true, decide_eq_true_iff, decide_eq_true_iff, beq_iff_eq, List.cons.injEq]
theorem eqv_bools : ∀ (xs ys : List Bool), PyData.eqvAll (xs.map PyData.bool) (ys.map PyData.bool) = decide (xs = ys)
  | [], [] => rfl
  | [], _ :: _ => rfl
  | _ :: _, [] => rfl
  | x :: xs, y :: ys => by
    show ((x == y) && PyData.eqvAll (xs.map PyData.bool) (ys.map PyData.bool)) = _
    rw [eqv_bools xs ys, Bool.eq_iff_iff, Bool.and_eq_true, decide_eq_true_iff, decide_eq_true_iff, beq_iff_eq, List.cons.injEq]
theorem lay_strs : ∀ {ws : List Str}, okS ws → PyData.canLayAll0 (ws.map PyData.str) = true
  | [], _ => rfl
  | x :: ws, h => by
    show (PyData.strOk x && PyData.canLayAll0 (ws.map PyData.str)) = true
    rw [h x List.mem_cons_self, lay_strs fun y hy => h y (List.mem_cons_of_mem _ hy)]
    rfl
theorem lay_ints : ∀ (ns : List Int), PyData.canLayAll0 (ns.map PyData.int) = true
  | [] => rfl
  | x :: ns => by
    show (true && PyData.canLayAll0 (ns.map PyData.int)) = true
    rw [lay_ints ns]
    rfl
theorem lay_bools : ∀ (ns : List Bool), PyData.canLayAll0 (ns.map PyData.bool) = true
  | [] => rfl
  | x :: ns => by
    show (true && PyData.canLayAll0 (ns.map PyData.bool)) = true
    rw [lay_bools ns]
    rfl
theorem dep_strs : ∀ (ws : List Str), PyData.depthAll (ws.map PyData.str) = 0
  | [] => rfl
  | x :: ws => by
    show max 0 (PyData.depthAll (ws.map PyData.str)) = 0
    rw [dep_strs ws]
    rfl
theorem dep_ints : ∀ (ws : List Int), PyData.depthAll (ws.map PyData.int) = 0
  | [] => rfl
  | x :: ws => by
    show max 0 (PyData.depthAll (ws.map PyData.int)) = 0
    rw [dep_ints ws]
    rfl
theorem dep_bools : ∀ (ws : List Bool), PyData.depthAll (ws.map PyData.bool) = 0
  | [] => rfl
  | x :: ws => by
    show max 0 (PyData.depthAll (ws.map PyData.bool)) = 0
    rw [dep_bools ws]
    rfl
theorem shaped_l {ds : List PyData} (h1 : PyData.canLayAll0 ds = true) (h2 : PyData.depthAll ds ≤ 60) : SeqAt.shaped (.list ds) = true := by
  unfold SeqAt.shaped
  rw [Bool.and_eq_true]
  refine ⟨h1, decide_eq_true ?_⟩
  show PyData.depthAll ds + 1 ≤ 64
  omega
theorem shaped_t {ds : List PyData} (h1 : PyData.canLayAll0 ds = true) (h2 : PyData.depthAll ds ≤ 60) : SeqAt.shaped (.tuple ds) = true := by
  unfold SeqAt.shaped
  rw [Bool.and_eq_true]
  refine ⟨h1, decide_eq_true ?_⟩
  show PyData.depthAll ds + 1 ≤ 64
  omega
section
variable {K : PySem.W.Frag} {H : Hp} {Q : VK} {p q : Addr}
theorem dp_strs : ∀ (ws : List Str), DpAll K H (ws.map V.str) (ws.map PyData.str)
  | [] => .nil
  | x :: ws => .cons (.str x) (dp_strs ws)
theorem dp_ints : ∀ (ws : List Int), DpAll K H (ws.map V.int) (ws.map PyData.int)
  | [] => .nil
  | x :: ws => .cons (.int x) (dp_ints ws)
theorem dp_bools : ∀ (ws : List Bool), DpAll K H (ws.map V.bl) (ws.map PyData.bool)
  | [] => .nil
  | x :: ws => .cons (.bl x) (dp_bools ws)
theorem k_eqTS {ws us : List Str} (hp : H p = some (.tup (ws.map V.str))) (hq : H q = some (.tup (us.map V.str))) (h1 : okS ws) (h2 : okS us) (h : Q (.bl (decide (ws = us))) H) : rEqD K (.ref p) (.ref q) H Q :=
  ⟨_, _, .tup (st_of hp) (dp_strs ws), .tup (st_of hq) (dp_strs us), shaped_t (lay_strs h1) (by rw [dep_strs]; omega), shaped_t (lay_strs h2) (by rw [dep_strs]; omega), by
    show Q (.bl (PyData.eqvAll _ _)) H
    rw [eqv_strs]; exact h⟩
theorem k_eqTI {ws us : List Int} (hp : H p = some (.tup (ws.map V.int))) (hq : H q = some (.tup (us.map V.int))) (h : Q (.bl (decide (ws = us))) H) : rEqD K (.ref p) (.ref q) H Q :=
  ⟨_, _, .tup (st_of hp) (dp_ints ws), .tup (st_of hq) (dp_ints us), shaped_t (lay_ints _) (by rw [dep_ints]; omega), shaped_t (lay_ints _) (by rw [dep_ints]; omega), by
    show Q (.bl (PyData.eqvAll _ _)) H
    rw [eqv_ints]; exact h⟩
theorem k_eqLI {ws us : List Int} (hp : H p = some (.lst (ws.map V.int))) (hq : H q = some (.lst (us.map V.int))) (h : Q (.bl (decide (ws = us))) H) : rEqD K (.ref p) (.ref q) H Q :=
  ⟨_, _, .lst (sl_of hp) (dp_ints ws), .lst (sl_of hq) (dp_ints us), shaped_l (lay_ints _) (by rw [dep_ints]; omega), shaped_l (lay_ints _) (by rw [dep_ints]; omega), by
    show Q (.bl (PyData.eqvAll _ _)) H
    rw [eqv_ints]; exact h⟩
theorem k_neLI {ws us : List Int} (hp : H p = some (.lst (ws.map V.int))) (hq : H q = some (.lst (us.map V.int))) (h : Q (.bl (!decide (ws = us))) H) : rNeD K (.ref p) (.ref q) H Q :=
  ⟨_, _, .lst (sl_of hp) (dp_ints ws), .lst (sl_of hq) (dp_ints us), shaped_l (lay_ints _) (by rw [dep_ints]; omega), shaped_l (lay_ints _) (by rw [dep_ints]; omega), by
    show Q (.bl (!PyData.eqvAll _ _)) H
    rw [eqv_ints]; exact h⟩
theorem k_neLB {ws us : List Bool} (hp : H p = some (.lst (ws.map V.bl))) (hq : H q = some (.lst (us.map V.bl))) (h : Q (.bl (!decide (ws = us))) H) : rNeD K (.ref p) (.ref q) H Q :=
  ⟨_, _, .lst (sl_of hp) (dp_bools ws), .lst (sl_of hq) (dp_bools us), shaped_l (lay_bools _) (by rw [dep_bools]; omega), shaped_l (lay_bools _) (by rw [dep_bools]; omega), by
    show Q (.bl (!PyData.eqvAll _ _)) H
    rw [eqv_bools]; exact h⟩
end
end Lf

set_option Elab.async false
set_option linter.all false
set_option maxRecDepth 100000
set_option maxHeartbeats 2000000
/-! Works. -/
namespace Lf
open PySem L2
local macro_rules | `(tactic| walk_at "nq") => `(tactic| first | with_reducible assumption | with_reducible exact Ne.symm (by assumption) | with_reducible exact ne_of_none (by assumption) (by assumption) | with_reducible exact Ne.symm (ne_of_none (by assumption) (by assumption)))
local macro_rules | `(tactic| walk_at "gt") => `(tactic| first | with_reducible assumption | with_reducible exact upd_same | ((with_reducible refine' upd_new ?ha ?hb); (case hb => with_reducible assumption); (case ha => walk_at "gt")) | ((with_reducible refine' upd_old ?ha ?hb); (case hb => walk_at "nq"); (case ha => walk_at "gt")) | ((with_reducible refine' sm_get ?hb ?ha); (case hb => with_reducible assumption); (case ha => walk_at "gt")) | ((with_reducible refine' fr_get ?hb ?ha ?hc); (case hb => with_reducible assumption); (case hc => walk_at "nq"); (case ha => walk_at "gt")))
local macro_rules | `(tactic| walk_at "sl") => `(tactic| first | with_reducible assumption | ((with_reducible refine' sl_of ?ha); (case ha => walk_at "gt")) | ((with_reducible refine' sl_new ?ha ?hb); (case hb => with_reducible assumption); (case ha => walk_at "sl")) | ((with_reducible refine' sl_sm ?hb ?ha); (case hb => with_reducible assumption); (case ha => walk_at "sl")) | ((with_reducible refine' sl_fr ?hb ?hc ?ha); (case hb => with_reducible assumption); (case hc => walk_at "nq"); (case ha => walk_at "sl")))
local macro_rules | `(tactic| walk_at "st") => `(tactic| first | with_reducible assumption | ((with_reducible refine' st_of ?ha); (case ha => walk_at "gt")) | ((with_reducible refine' st_new ?ha ?hb); (case hb => with_reducible assumption); (case ha => walk_at "st")) | ((with_reducible refine' st_sm ?hb ?ha); (case hb => with_reducible assumption); (case ha => walk_at "st")) | ((with_reducible refine' st_fr ?hb ?hc ?ha); (case hb => with_reducible assumption); (case hc => walk_at "nq"); (case ha => walk_at "st")))
local macro_rules | `(tactic| walk_at "sa") => `(tactic| first | with_reducible assumption | ((with_reducible refine' sa_l ?ha); (case ha => walk_at "gt")) | ((with_reducible refine' sa_t ?ha); (case ha => walk_at "gt")) | ((with_reducible refine' sa_new ?ha ?hb); (case hb => with_reducible assumption); (case ha => walk_at "sa")) | ((with_reducible refine' sa_sm ?hb ?ha); (case hb => with_reducible assumption); (case ha => walk_at "sa")) | ((with_reducible refine' sa_fr ?hb ?hc ?ha); (case hb => with_reducible assumption); (case hc => walk_at "nq"); (case ha => walk_at "sa")) | ((with_reducible refine' Or.inl ?ha); (case ha => walk_at "sl")) | ((with_reducible refine' Or.inr ?ha); (case ha => walk_at "st")))
local macro_rules | `(tactic| walk_at "ln") => `(tactic| first | decide | omega | exact Nat.le_of_ble_eq_true rfl | (simp only [List.length_append, List.length_map, List.length_cons, List.length_nil, List.length_flatMap]; omega))
local macro_rules | `(tactic| walk_at "ty") => `(tactic| first | with_reducible assumption | with_reducible exact .base (.int _) | with_reducible exact .base (.str _) | with_reducible exact .base (.bl _) | with_reducible exact .base .non | ((with_reducible refine' TyX.base (TyOf.lst ?ha)); (case ha => walk_at "gt")) | ((with_reducible refine' TyX.base (TyOf.tup ?ha)); (case ha => walk_at "gt")) | ((with_reducible refine' TyX.base (TyOf.dK ?ha)); (case ha => walk_at "gt")) | ((with_reducible refine' ty_new ?ha ?hb); (case hb => with_reducible assumption); (case ha => walk_at "ty")) | ((with_reducible refine' ty_sm ?hb ?ha); (case hb => with_reducible assumption); (case ha => walk_at "ty")))
local macro_rules | `(tactic| walk_at "kb") => `(tactic| first | with_reducible assumption | exact kb_str_str | exact kb_int_str | exact kb_list_str | exact kb_tuple_str | exact kb_bool_str | exact kb_NoneType_str | exact kb_dict_str | exact kb_str_int | exact kb_int_int | exact kb_list_int | exact kb_tuple_int | exact kb_bool_int | exact kb_NoneType_int | exact kb_dict_int | exact kb_str_bool | exact kb_int_bool | exact kb_list_bool | exact kb_tuple_bool | exact kb_bool_bool | exact kb_NoneType_bool | exact kb_dict_bool | exact kb_str_list | exact kb_int_list | exact kb_list_list | exact kb_tuple_list | exact kb_bool_list | exact kb_NoneType_list | exact kb_dict_list | exact kb_str_tuple | exact kb_int_tuple | exact kb_list_tuple | exact kb_tuple_tuple | exact kb_bool_tuple | exact kb_NoneType_tuple | exact kb_dict_tuple | exact kb_str_dict | exact kb_int_dict | exact kb_list_dict | exact kb_tuple_dict | exact kb_bool_dict | exact kb_NoneType_dict | exact kb_dict_dict)
local macro_rules | `(tactic| walk_at "wk") => `(tactic| first | with_reducible assumption | ((with_reducible refine' WkAt.new ?ha ?hb); (case hb => with_reducible assumption); (case ha => walk_at "wk")) | ((with_reducible refine' WkAt.sm ?hb ?ha); (case hb => with_reducible assumption); (case ha => walk_at "wk")) | ((with_reducible refine' WkAt.dr ?hb ?hc ?ha); (case hb => with_reducible assumption); (case hc => with_reducible assumption); (case ha => walk_at "wk")))
local macro_rules | `(tactic| walk_at "ed") => `(tactic| first | with_reducible assumption | ((with_reducible refine' EdAt.new ?ha ?hb); (case hb => with_reducible assumption); (case ha => walk_at "ed")) | ((with_reducible refine' EdAt.sm ?hb ?ha); (case hb => with_reducible assumption); (case ha => walk_at "ed")) | ((with_reducible refine' EdAt.dr ?hb ?hc ?ha); (case hb => with_reducible assumption); (case hc => with_reducible assumption); (case ha => walk_at "ed")))
local macro_rules | `(tactic| walk_at "fl") => `(tactic| first | with_reducible assumption | ((with_reducible refine' WkAt.rows ?hT ?hW); (case hT => assumption); (case hW => walk_at "wk")) | ((with_reducible refine' WkAt.name ?hT ?hW); (case hT => assumption); (case hW => walk_at "wk")) | ((with_reducible refine' EdAt.work ?hT ?hW); (case hT => assumption); (case hW => walk_at "ed")) | ((with_reducible refine' EdAt.nums ?hT ?hW); (case hT => assumption); (case hW => walk_at "ed")))
local macro_rules | `(tactic| walk_at "mt") => `(tactic| first | with_reducible assumption | ((with_reducible refine' WkAt.mt ?hn1 ?hn2 ?hW); (case hW => walk_at "wk"); (case hn1 => decide +kernel); (case hn2 => decide +kernel)) | ((with_reducible refine' EdAt.mt ?hn1 ?hn2 ?hW); (case hW => walk_at "ed"); (case hn1 => decide +kernel); (case hn2 => decide +kernel)))
local macro_rules | `(tactic| walk_at "is") => `(tactic| first | with_reducible assumption | ((with_reducible refine' WkAt.is ?hW); (case hW => walk_at "wk")) | ((with_reducible refine' EdAt.is ?hW); (case hW => walk_at "ed")))
local macro_rules | `(tactic| walk_at "ic") => `(tactic| first
  | ((with_reducible show CMul _ _); first | exact Or.inl ⟨by decide, by decide⟩ | exact Or.inr ⟨by decide, by decide⟩ | exact Or.inl ⟨by omega, by omega⟩ | exact Or.inr ⟨by omega, by omega⟩)
  | ((with_reducible show CDiv _ _); first | exact ⟨by decide, by decide⟩ | exact ⟨by omega, by omega⟩)
  | ((with_reducible show CPow _ _); first | exact ⟨by decide, by decide, by decide⟩ | exact ⟨by decide, by decide, by omega⟩)
  | (show (0 : Int) < _; first | decide | omega))
local macro_rules | `(tactic| walk_at "s1") => `(tactic| first
  | with_reducible refine k_seq ?_
  | with_reducible refine k_set ?_
  | with_reducible refine k_asg ?_
  | with_reducible refine k_par ?_
  | with_reducible refine k_par2 ?_
  | with_reducible refine k_drop ?_
  | with_reducible refine k_ret ?_
  | with_reducible refine k_next ?_
  | with_reducible refine k_if ?_
  | ((with_reducible refine' k_aug ?hv ?_); (case hv => exact rfl))
  | with_reducible refine k_ipI ?_
  | with_reducible refine k_gname ?_
  | with_reducible refine k_gsub ?_
  | ((with_reducible refine' k_gtup ?hv ?hw ?_); (case hv => walk_at "st"); (case hw => rfl))
  | with_reducible refine k_gcons ?_
  | with_reducible refine k_gnil ?_
  | with_reducible refine k_test ?_
  | with_reducible refine k_B ?_
  | with_reducible refine k_blE ?_
  | with_reducible refine k_and ?_
  | with_reducible refine k_or ?_
  | with_reducible refine k_not ?_
  | with_reducible refine iteT ?_
  | with_reducible refine iteF ?_
  | with_reducible refine iteNT ?_
  | with_reducible refine iteNF ?_
  | ((with_reducible refine' k_var ?hv ?_); (case hv => exact rfl))
  | with_reducible refine k_c ?_
  | with_reducible refine k_op ?_
  | with_reducible refine k_un ?_
  | with_reducible refine k_U ?_
  | with_reducible refine k_I0 ?_
  | ((with_reducible refine' k_I ?hv ?_); (case hv => walk_at "ic"))
  | with_reducible refine k_eqI ?_
  | with_reducible refine k_neI ?_
  | with_reducible refine k_eqS ?_
  | with_reducible refine k_neS ?_
  | with_reducible refine k_eqB ?_
  | with_reducible refine k_neB ?_
  | with_reducible refine k_for ?_
  | with_reducible refine k_iE ?_
  | with_reducible refine k_iA ?_
  | ((with_reducible refine' k_itl ?hv ?_); (case hv => walk_at "sl"))
  | ((with_reducible refine' k_itt ?hv ?_); (case hv => walk_at "st"))
  | with_reducible refine k_its ?_
  | ((with_reducible refine' k_rg1n ?hv ?_); (case hv => first | decide | omega))
  | ((with_reducible refine' k_rg1 ?hv ?hw ?_); (case hv => first | decide | omega); (case hw => first | decide | omega))
  | ((with_reducible refine' k_inS ?hv ?_); (case hv => walk_at "sa"))
  | ((with_reducible refine' k_inI ?hv ?_); (case hv => walk_at "sa"))
  | ((with_reducible refine' k_ninS ?hv ?_); (case hv => walk_at "sa"))
  | ((with_reducible refine' k_ninI ?hv ?_); (case hv => walk_at "sa"))
  | ((with_reducible refine' k_zipl ?hv ?hw ?_); (case hv => walk_at "sl"); (case hw => walk_at "sl"))
  | with_reducible refine k_nil ?_
  | with_reducible refine k_cons ?_
  | with_reducible refine k_cb ?_
  | with_reducible refine k_call ?_
  | with_reducible refine k_lst ?_
  | with_reducible refine k_tup ?_
  | with_reducible refine k_ifx ?_
  | with_reducible refine k_andv ?_
  | with_reducible refine k_orv ?_
  | with_reducible refine k_notv ?_
  | with_reducible refine k_inti ?_
  | with_reducible refine k_intb ?_
  | with_reducible refine k_sl ?_
  | with_reducible refine k_nopart ?_
  | with_reducible refine k_part ?_
  | with_reducible refine k_parti ?_
  | ((with_reducible refine' k_lenl ?hv ?_); (case hv => walk_at "sl"))
  | ((with_reducible refine' k_lent ?hv ?_); (case hv => walk_at "st"))
  | ((with_reducible refine' k_lens ?hv ?_); (case hv => exact szl (by walk_at "ln")))
  | ((with_reducible refine' k_lena ?hv ?_); (case hv => walk_at "sa"))
  | ((with_reducible refine' k_ixl ?hv ?hn ?_); (case hv => walk_at "sl"); (case hn => first | rfl | assumption))
  | ((with_reducible refine' k_ixt ?hv ?hn ?_); (case hv => walk_at "st"); (case hn => first | rfl | assumption))
  | ((with_reducible refine' k_ixa ?hv ?hn ?_); (case hv => walk_at "sa"); (case hn => first | rfl | assumption))
  | with_reducible refine k_chain ?_
  | ((with_reducible refine' k_isi ?hv ?hw ?_); (case hv => walk_at "ty"); (case hw => walk_at "kb"))
  | ((with_reducible refine' k_isi2 ?hb ?hp ?hv ?hw ?hx ?_); (case hp => walk_at "gt"); (case hv => walk_at "ty"); (case hw => walk_at "kb"); (case hx => walk_at "kb"); (case hb => first | exact or_t | exact or_f))
  | ((with_reducible refine' k_all ?hv ?_); (case hv => walk_at "gt"))
  | ((with_reducible refine' k_any ?hv ?_); (case hv => walk_at "gt"))
  | with_reducible refine k_insign ?_
  | with_reducible refine k_fldR ?_
  | ((with_reducible refine' k_fl ?hv ?_); (case hv => walk_at "fl"))
  | with_reducible refine k_sfld ?_
  | with_reducible refine k_meth ?_
  | ((with_reducible refine' k_mt ?hv ?_); (case hv => walk_at "mt"))
  | with_reducible refine k_make ?_
  | ((with_reducible refine' k_own ?hv ?hw ?_); (case hv => walk_at "is"); (case hw => walk_at "is"))
  | ((with_reducible refine' k_ownin ?hv ?_); (case hv => walk_at "is"))
  | ((with_reducible refine' k_lenO ?hv ?_); (case hv => walk_at "is"))
  | with_reducible refine k_lrg ?_
  | with_reducible refine k_rgt ?_
  | with_reducible refine k_rgti ?_
  | with_reducible refine k_bm ?_
  | with_reducible refine k_bm0 ?_
  | with_reducible refine k_tys ?_
  | ((with_reducible refine' k_tyl ?hv ?_); (case hv => walk_at "sl"))
  | ((with_reducible refine' k_ext ?hv ?hw ?hn ?_); (case hv => walk_at "gt"); (case hw => walk_at "gt"); (case hn => walk_at "ln"))
  | ((with_reducible refine' k_app ?hv ?hn ?_); (case hv => walk_at "gt"); (case hn => walk_at "ln"))
  | ((with_reducible refine' k_popat ?hv ?hn ?hw ?_); (case hv => walk_at "gt"); (case hn => with_reducible assumption); (case hw => walk_at "ln"))
  | with_reducible refine k_lc ?_
  | with_reducible refine k_yes0 ?_
  | ((with_reducible show wipe _ _ = wipe _ _ ∧ _); refine ⟨rfl, ?_⟩)
  | ((with_reducible refine' k_adds ?hv ?_); (case hv => walk_at "ln"))
  | ((with_reducible refine' k_st1 ?hv ?_); (case hv => walk_at "gt"))
  | ((with_reducible refine' k_st2 ?hv ?_); (case hv => walk_at "gt"))
  | ((with_reducible refine' k_st3 ?hv ?_); (case hv => walk_at "gt"))
  | ((with_reducible refine' k_setl ?hv ?hn ?_); (case hv => walk_at "gt"); (case hn => rfl)))
local macro_rules | `(tactic| walk_at "put") => `(tactic| ((refine' ⟨_, ?ha, sz ?hb, ?_⟩); (case ha => walk_at "gt"); (case hb => walk_at "ln")))
local macro_rules | `(tactic| walk_at "go") => `(tactic| repeat (walk_at "s1"))

abbrev schecked_passages : Stmt := top 15
theorem scchecked_passages : FnScope ["things", "found", "index", "thing"] ["things"] (defScope schecked_passages) := ⟨rfl, rfl, rfl, by decide +kernel, rfl, by decide +kernel, by decide +kernel⟩
abbrev sWork___init__ : Stmt := inClass (top 16) 0
theorem scWork___init__ : FnScope ["self", "name", "passages"] ["self", "name", "passages"] (defScope sWork___init__) := ⟨rfl, rfl, rfl, by decide +kernel, rfl, by decide +kernel, by decide +kernel⟩
theorem ty_sl {K : PySem.W.Frag} {H : Hp} {a : Addr} {xs : List V} (h : SqL K H a xs) : TyX K H (.ref a) (.type "list") := by
  rcases h with (h | ⟨o, h⟩) | ⟨o, its, n, h, c, _⟩
  · exact .base (.lst h)
  · exact .base (.frz h)
  · exact .kList h c
theorem ty_st {K : PySem.W.Frag} {H : Hp} {a : Addr} {xs : List V} (h : SqT K H a xs) : TyX K H (.ref a) (.type "tuple") := by
  rcases h with (h | ⟨o, h⟩) | ⟨o, its, n, h, c, _⟩
  · exact .base (.tup h)
  · exact .fTuple h
  · exact .kTuple h c
theorem row_sa {K : PySem.W.Frag} {H : Hp} {a : Addr} {xs : List V} (h : SqA K H a xs) : ∃ t b1 b2, TyX K H (.ref a) t ∧ PySem.W.kitOne K t (.type "list") = some b1 ∧ PySem.W.kitOne K t (.type "tuple") = some b2 ∧ (b1 || b2) = true := by
  rcases h with h | h
  · exact ⟨_, true, false, ty_sl h, kb_list_list, kb_list_tuple, rfl⟩
  · exact ⟨_, false, true, ty_st h, kb_tuple_list, kb_tuple_tuple, rfl⟩
theorem map_get {α : Type} {f : α → V} {l : List α} {i : Nat} {x : V} (h : (l.map f)[i]? = some x) : ∃ z, l[i]? = some z ∧ x = f z := by
  rw [List.getElem?_map] at h
  cases e : l[i]? with
  | none => rw [e] at h; cases h
  | some z => rw [e] at h; exact ⟨z, rfl, (Option.some.inj h).symm⟩
theorem nodup_take {α : Type} {l : List α} (nd : l.Nodup) {i : Nat} {z : α} (h : l[i]? = some z) : z ∉ l.take i := by
  intro hm
  obtain ⟨j, hj, e⟩ := List.mem_take_iff_getElem.mp hm
  have hi : i < l.length := (List.getElem?_eq_some_iff.mp h).1
  have e2 : l[i] = z := (List.getElem?_eq_some_iff.mp h).2
  have hji : j < i := by omega
  exact (List.pairwise_iff_getElem.mp nd j i (by omega) hi hji) (e.trans e2.symm)
/-- passages that a work can have -/
structure Good (ws : List Str) : Prop where
  ne : ws ≠ []
  nd : ws.Nodup
  wd : ∀ x ∈ ws, isW x = true
  le : ws.length ≤ 100
theorem isW_len {z : Str} (h : isW z = true) : z.length < 100000 := by
  unfold isW at h
  rw [Bool.and_eq_true, Bool.and_eq_true] at h
  have := of_decide_eq_true h.2.1
  omega
section
variable {P : Program} {w : World} {K : PySem.W.Frag} {mg : Str → Option Value} {base : Heap}
def spPassages (K : PySem.W.Frag) : Sp := fun vs H Q _ => ∃ (a : Addr) (ws : List Str), vs = [.ref a] ∧ SqA K H a (ws.map V.str) ∧ Good ws ∧
  ∀ t H', Same H H' → H t = none → H' t = some (.tup (ws.map V.str)) → Q (.ref t) H'
theorem ok_passages (B : Bn mg) (Cis_row : Cal P w K mg base 1 "is_row" ["thing"] (spIsRow K)) (Cis_word : Cal P w K mg base 1 "is_word" ["thing"] (spIsWord K)) (D : Def K mg "checked_passages" schecked_passages) :
    Cal P w K mg base 2 "checked_passages" ["things"] (spPassages K) := by
  refine Cal.of D scchecked_passages (fun _ _ _ _ _ _ us hl => match us, hl with | [_], _ => rfl) (fun vs H Q E h => ?_) (fun f cdv A outer s H vs Q E hr h => ?_)
  · obtain ⟨_, _, rfl, _⟩ := h; rfl
  · obtain ⟨a, ws, rfl, hS, G, k⟩ := h
    have hlm : (ws.map V.str).length = ws.length := List.length_map _
    have hl0 : 0 < ws.length := List.length_pos_iff.mpr G.ne
    refine ⟨_, (pss_cons (ps_if (PW.pt (pw_or (pt_not (pt_val (pe_fn Cis_row hr (by decide) (pa_cons (pv 0) pa_nil)))) (pw_or1 (pt_cmpR op_eq (pe_callB (n_len K) (by rfl) B.len PySem.boot_len (pa_cons (pv 0) pa_nil)) pe_int (nomark _))))) (pss_one ps_never) pss_nil)
      (pss_cons (ps_set (i := 1) scchecked_passages.nd rfl (Or.inl rfl) (pe_lst pa_nil))
      (pss_cons (ps_for PassesOwn.never rfl (q_enum K B.enumerate (pa_cons (pv 0) pa_nil)) (pg_tup rfl (pgs_cons (pg_name (i := 2) scchecked_passages.nd rfl (Or.inl rfl)) (pgs_cons (pg_name (i := 3) scchecked_passages.nd rfl (Or.inl rfl)) pgs_nil))) (pss_cons (ps_if (PW.pt (pw_or (pt_not (pt_val (pe_fn Cis_word hr (by decide) (pa_cons (pv 3) pa_nil)))) (pw_or1 (pt_cmpR (o_inq K) (pv 3) (pv 1) rfl)))) (pss_one ps_never) pss_nil)
      (pss_one (ps_expr (e_bm K PySem.F.plainAttrs_list PySem.F.slot_list_append PySem.F.type_list_append mt_append (pv 1) (pa_cons (pv 3) pa_nil))))))
      (pss_one (ps_ret (pe_callTy (n_tuple K) (by rfl) B.tuple (by decide +kernel) (pa_cons (pv 1) pa_nil))))))), ?_⟩
    walk_at "go"
    refine ⟨_, true, rfl, row_sa hS, fun H1 S1 => ?_⟩
    walk_at "go"
    refine k_dec (fun h => absurd h (by omega)) (fun h => ?_)
    walk_at "go"
    refine ⟨Nat.le_of_ble_eq_true rfl, fun l nl => ?_⟩
    walk_at "go"
    refine for_enum hS (fun i σ' H' => ∃ v2 v3, σ' = [some (.ref a), some (.ref l), v2, v3] ∧ Same H1 H' ∧ H' l = some (.lst ((ws.take i).map V.str))) ⟨_, _, rfl, Same.new (Same.refl H1) nl, upd_same⟩ ?_ ?_ ?_
    · rintro i σ' H' _ ⟨_, _, _, S2, _⟩ u hu
      exact rd_sm (S1.trans S2) hu
    · rintro i x σ' H2 T hi ⟨v2, v3, rfl, S2, g⟩ nT hx
      obtain ⟨z, hz, rfl⟩ := map_get hx
      have hm : z ∈ ws := List.mem_of_getElem? hz
      have hwz := G.wd z hm
      have hi' : i < ws.length := by omega
      have hlt : ((ws.take i).map V.str).length < 10000 := by
        rw [List.length_map]
        have := List.length_take_le' i ws
        have := G.le
        omega
      walk_at "go"
      refine ⟨_, rfl, .inl ⟨z, rfl, isW_len hwz⟩, fun H3 S3 => ?_⟩
      rw [show wordV (.str z) = true from hwz]
      have g3 : H3 l = some (.lst ((ws.take i).map V.str)) := S3 _ _ (upd_new g nT)
      walk_at "go"
      refine k_dec (fun h => ?_) (fun h => ?_)
      · exact absurd h (nodup_take G.nd hz)
      · walk_at "go"
        refine ⟨_, _, rfl, ?_, ?_⟩
        · exact Same.mut (S2.trans ((Same.new (Same.refl H2) nT).trans S3)) nl
        · rw [upd_same, List.take_add_one, hz, List.map_append]
          rfl
    · rintro σ' H2 ⟨v2, v3, rfl, S2, g⟩
      rw [hlm, List.take_length] at g
      walk_at "go"
      refine k_tupl (sl_of g) fun t nt => ?_
      exact k t _ (Same.new (S1.trans S2) nt) ((S1.trans S2).free nt) upd_same

/-! ### the objects -/
/-- a work's fields -/
def wfs (nm : Str) (t : Addr) : List (Str × V) := putF "rows" (.ref t) (putF "name" (.str nm) [])
theorem wfs_rows (nm : Str) (t : Addr) : (wfs nm t).lookup ("rows" : Str) = some (.ref t) := by unfold wfs; rw [lookup_putF, if_pos rfl]
theorem wfs_name (nm : Str) (t : Addr) : (wfs nm t).lookup ("name" : Str) = some (.str nm) := by
  unfold wfs
  rw [lookup_putF, if_neg (by decide +kernel), lookup_putF, if_pos rfl]
theorem wfs_no (nm : Str) (t : Addr) {m : Str} (h1 : ¬ m = "rows") (h2 : ¬ m = "name") : (wfs nm t).lookup m = none := by
  unfold wfs
  rw [lookup_putF, if_neg h1, lookup_putF, if_neg h2]
  rfl
/-- an edition's fields -/
def efs (wp n : Addr) : List (Str × V) := putF "numbers" (.ref n) (putF "work" (.ref wp) [])
theorem efs_nums (wp n : Addr) : (efs wp n).lookup ("numbers" : Str) = some (.ref n) := by unfold efs; rw [lookup_putF, if_pos rfl]
theorem efs_work (wp n : Addr) : (efs wp n).lookup ("work" : Str) = some (.ref wp) := by
  unfold efs
  rw [lookup_putF, if_neg (by decide +kernel), lookup_putF, if_pos rfl]
theorem efs_no (wp n : Addr) {m : Str} (h1 : ¬ m = "numbers") (h2 : ¬ m = "work") : (efs wp n).lookup m = none := by
  unfold efs
  rw [lookup_putF, if_neg h1, lookup_putF, if_neg h2]
  rfl
/-- where the classes stand, and what the module says of them -/
structure Cs where
  W : Addr
  E : Addr
structure Tw (K : PySem.W.Frag) (mg : Str → Option Value) (Z : Cs) : Prop where
  mgW : mg "Work" = some (.ref Z.W)
  mgE : mg "Edition" = some (.ref Z.E)
  caW : PySem.W.findIn K (.ref Z.W) "__class__" = some (some (.builtin "object.__class__"))
  caE : PySem.W.findIn K (.ref Z.E) "__class__" = some (some (.builtin "object.__class__"))
  cn : PySem.W.specialIn K (.builtin "object.__class__") "__get__" = some (some (.builtin "getset_descriptor.__get__"))
  ct : PySem.W.takesIn K (.builtin "object.__class__") = some true
  cmW : PySem.W.mroIn K Z.W (.type "object") = some true
  cmE : PySem.W.mroIn K Z.E (.type "object") = some true
  sfE : PySem.W.selfFirst K Z.E = true
  clW : Cls K Z.W
  nName : NoAttr K Z.W "name"
  nRows : NoAttr K Z.W "rows"
  clE : Cls K Z.E
  nWork : NoAttr K Z.E "work"
  nNums : NoAttr K Z.E "numbers"
/-- the work nm of the passages ws at p, its tuple at t -/
def WkAt (Z : Cs) (H : Hp) (p t : Addr) (nm : Str) (ws : List Str) : Prop := (∃ dx, H p = some (.ins Z.W dx (wfs nm t))) ∧ H t = some (.tup (ws.map V.str))
abbrev iv (ns : List Nat) : List V := (ns.map fun n : Nat => (n : Int)).map V.int
/-- the edition of the passages ns of the work at wp, its tuple at n -/
def EdAt (Z : Cs) (H : Hp) (p n wp : Addr) (ns : List Nat) : Prop := (∃ dx, H p = some (.ins Z.E dx (efs wp n))) ∧ H n = some (.tup (iv ns))
section
variable {Z : Cs} {H H' : Hp} {p t n wp q : Addr} {nm : Str} {ws : List Str} {ns : List Nat} {o : HO} {S : Ds} {m : Str}
theorem WkAt.sm (s : Same H H') (h : WkAt Z H p t nm ws) : WkAt Z H' p t nm ws := by
  obtain ⟨⟨dx, h1⟩, h2⟩ := h
  exact ⟨⟨dx, s _ _ h1⟩, s _ _ h2⟩
theorem WkAt.new (h : WkAt Z H p t nm ws) (nq : H q = none) : WkAt Z (upd H q o) p t nm ws := h.sm fun _ _ e => upd_new e nq
theorem Dr.keep (f : Fr S.st H H') (d : Dr H S) (h : H q = some o) (hl : ∀ xs, o ≠ .lst xs) : H' q = some o := by
  obtain ⟨_, _, _, _, h1, _⟩ := d
  exact f _ _ (ne_of h h1 (hl _)) h
theorem WkAt.dr (f : Fr S.st H H') (d : Dr H S) (h : WkAt Z H p t nm ws) : WkAt Z H' p t nm ws := by
  obtain ⟨⟨dx, h1⟩, h2⟩ := h
  exact ⟨⟨dx, d.keep f h1 (by intro _ z; cases z)⟩, d.keep f h2 (by intro _ z; cases z)⟩
theorem WkAt.rows (T : Tw K mg Z) (h : WkAt Z H p t nm ws) : Fl K H p "rows" (.ref t) := by
  obtain ⟨⟨dx, h1⟩, h2⟩ := h
  exact ⟨_, _, _, h1, T.clW, T.nRows, wfs_rows nm t⟩
theorem WkAt.name (T : Tw K mg Z) (h : WkAt Z H p t nm ws) : Fl K H p "name" (.str nm) := by
  obtain ⟨⟨dx, h1⟩, h2⟩ := h
  exact ⟨_, _, _, h1, T.clW, T.nName, wfs_name nm t⟩
theorem WkAt.mt (n1 : ¬ m = "rows") (n2 : ¬ m = "name") (h : WkAt Z H p t nm ws) : Mt H p Z.W m := by
  obtain ⟨⟨dx, h1⟩, h2⟩ := h
  exact ⟨_, _, h1, wfs_no nm t n1 n2⟩
theorem WkAt.is (h : WkAt Z H p t nm ws) : Is H p Z.W := by
  obtain ⟨⟨dx, h1⟩, h2⟩ := h
  exact ⟨_, _, h1⟩
theorem WkAt.ty (T : Tw K mg Z) (h : WkAt Z H p t nm ws) : TyX K H (.ref p) (.ref Z.W) := by
  obtain ⟨⟨dx, h1⟩, h2⟩ := h
  exact .base (.ins h1 T.clW T.caW T.cn T.ct T.cmW)
theorem EdAt.ty (T : Tw K mg Z) (h : EdAt Z H p n wp ns) : TyX K H (.ref p) (.ref Z.E) := by
  obtain ⟨⟨dx, h1⟩, h2⟩ := h
  exact .base (.ins h1 T.clE T.caE T.cn T.ct T.cmE)
theorem EdAt.sm (s : Same H H') (h : EdAt Z H p n wp ns) : EdAt Z H' p n wp ns := by
  obtain ⟨⟨dx, h1⟩, h2⟩ := h
  exact ⟨⟨dx, s _ _ h1⟩, s _ _ h2⟩
theorem EdAt.new (h : EdAt Z H p n wp ns) (nq : H q = none) : EdAt Z (upd H q o) p n wp ns := h.sm fun _ _ e => upd_new e nq
theorem EdAt.dr (f : Fr S.st H H') (d : Dr H S) (h : EdAt Z H p n wp ns) : EdAt Z H' p n wp ns := by
  obtain ⟨⟨dx, h1⟩, h2⟩ := h
  exact ⟨⟨dx, d.keep f h1 (by intro _ z; cases z)⟩, d.keep f h2 (by intro _ z; cases z)⟩
theorem EdAt.nums (T : Tw K mg Z) (h : EdAt Z H p n wp ns) : Fl K H p "numbers" (.ref n) := by
  obtain ⟨⟨dx, h1⟩, h2⟩ := h
  exact ⟨_, _, _, h1, T.clE, T.nNums, efs_nums wp n⟩
theorem EdAt.work (T : Tw K mg Z) (h : EdAt Z H p n wp ns) : Fl K H p "work" (.ref wp) := by
  obtain ⟨⟨dx, h1⟩, h2⟩ := h
  exact ⟨_, _, _, h1, T.clE, T.nWork, efs_work wp n⟩
theorem EdAt.mt (n1 : ¬ m = "numbers") (n2 : ¬ m = "work") (h : EdAt Z H p n wp ns) : Mt H p Z.E m := by
  obtain ⟨⟨dx, h1⟩, h2⟩ := h
  exact ⟨_, _, h1, efs_no wp n n1 n2⟩
theorem EdAt.is (h : EdAt Z H p n wp ns) : Is H p Z.E := by
  obtain ⟨⟨dx, h1⟩, h2⟩ := h
  exact ⟨_, _, h1⟩
end
def spWorkInit (K : PySem.W.Frag) (Z : Cs) : Sp := fun vs H Q _ => ∃ (p dx a : Addr) (nm : Str) (ws : List Str), vs = [.ref p, .str nm, .ref a] ∧ H p = some (.ins Z.W dx []) ∧ isW nm = true ∧ SqA K H a (ws.map V.str) ∧ Good ws ∧
  ∀ t H', Fr p H H' → H t = none → WkAt Z H' p t nm ws → Q .non H'
theorem ok_work_init {Z : Cs} (T : Tw K mg Z) (Cis_word : Cal P w K mg base 1 "is_word" ["thing"] (spIsWord K)) (Cchecked_passages : Cal P w K mg base 2 "checked_passages" ["things"] (spPassages K))
    (D : DefM K Z.W "__init__" "Work.__init__" sWork___init__) : CalM P w K mg base 3 Z.W "__init__" ["self", "name", "passages"] (spWorkInit K Z) := by
  refine CalM.of D scWork___init__ (fun _ _ _ _ _ _ us hl => match us, hl with | [_, _, _], _ => rfl) (fun vs H Q E h => ?_) (fun f cdv A outer s H vs Q E hr h => ?_)
  · obtain ⟨_, _, _, _, _, rfl, _⟩ := h; rfl
  · obtain ⟨p, dx, a, nm, ws, rfl, hp, hn, hS, G, k⟩ := h
    refine ⟨_, (pss_cons (ps_if (pt_not (pt_val (pe_fn Cis_word hr (by decide) (pa_cons (pv 1) pa_nil)))) (pss_one ps_never) pss_nil)
      (pss_cons (t_fld K (pv 0) (pv 1))
      (pss_one (t_fld K (pv 0) (pe_fn Cchecked_passages hr (by decide) (pa_cons (pv 2) pa_nil)))))), ?_⟩
    walk_at "go"
    refine ⟨_, rfl, .inl ⟨nm, rfl, isW_len hn⟩, fun H1 S1 => ?_⟩
    rw [show wordV (.str nm) = true from hn]
    walk_at "go"
    have hp1 := S1 _ _ hp
    refine k_put hp1 T.clW T.nName (Nat.le_of_ble_eq_true rfl) ?_
    walk_at "go"
    refine ⟨a, ws, rfl, sa_ins hp1 (sa_sm S1 hS), G, fun t H2 S2 nt ht => ?_⟩
    walk_at "go"
    have hp2 := S2 _ _ (upd_same (H := H1) (a := p) (o := .ins Z.W dx (putF "name" (.str nm) [])))
    refine k_put hp2 T.clW T.nRows (Nat.le_of_ble_eq_true rfl) ?_
    have npt : p ≠ t := ne_of_none upd_same nt
    refine k t _ (fun b o nb hb => ?_) ?_ ⟨⟨dx, upd_same⟩, ?_⟩
    · rw [upd_ne nb]
      exact S2 _ _ (by rw [upd_ne nb]; exact S1 _ _ hb)
    · exact S1.free (new_none nt)
    · rw [upd_ne npt.symm]; exact ht
end
end Lf

set_option Elab.async false
set_option linter.all false
set_option maxRecDepth 100000
set_option maxHeartbeats 2000000
/-! Works are compared, editions are made. -/
namespace Lf
open PySem L2
local macro_rules | `(tactic| walk_at "nq") => `(tactic| first | with_reducible assumption | with_reducible exact Ne.symm (by assumption) | with_reducible exact ne_of_none (by assumption) (by assumption) | with_reducible exact Ne.symm (ne_of_none (by assumption) (by assumption)))
local macro_rules | `(tactic| walk_at "gt") => `(tactic| first | with_reducible assumption | with_reducible exact upd_same | ((with_reducible refine' upd_new ?ha ?hb); (case hb => with_reducible assumption); (case ha => walk_at "gt")) | ((with_reducible refine' upd_old ?ha ?hb); (case hb => walk_at "nq"); (case ha => walk_at "gt")) | ((with_reducible refine' sm_get ?hb ?ha); (case hb => with_reducible assumption); (case ha => walk_at "gt")) | ((with_reducible refine' fr_get ?hb ?ha ?hc); (case hb => with_reducible assumption); (case hc => walk_at "nq"); (case ha => walk_at "gt")))
local macro_rules | `(tactic| walk_at "sl") => `(tactic| first | with_reducible assumption | ((with_reducible refine' sl_of ?ha); (case ha => walk_at "gt")) | ((with_reducible refine' sl_new ?ha ?hb); (case hb => with_reducible assumption); (case ha => walk_at "sl")) | ((with_reducible refine' sl_sm ?hb ?ha); (case hb => with_reducible assumption); (case ha => walk_at "sl")) | ((with_reducible refine' sl_fr ?hb ?hc ?ha); (case hb => with_reducible assumption); (case hc => walk_at "nq"); (case ha => walk_at "sl")))
local macro_rules | `(tactic| walk_at "st") => `(tactic| first | with_reducible assumption | ((with_reducible refine' st_of ?ha); (case ha => walk_at "gt")) | ((with_reducible refine' st_new ?ha ?hb); (case hb => with_reducible assumption); (case ha => walk_at "st")) | ((with_reducible refine' st_sm ?hb ?ha); (case hb => with_reducible assumption); (case ha => walk_at "st")) | ((with_reducible refine' st_fr ?hb ?hc ?ha); (case hb => with_reducible assumption); (case hc => walk_at "nq"); (case ha => walk_at "st")))
local macro_rules | `(tactic| walk_at "sa") => `(tactic| first | with_reducible assumption | ((with_reducible refine' sa_l ?ha); (case ha => walk_at "gt")) | ((with_reducible refine' sa_t ?ha); (case ha => walk_at "gt")) | ((with_reducible refine' sa_new ?ha ?hb); (case hb => with_reducible assumption); (case ha => walk_at "sa")) | ((with_reducible refine' sa_sm ?hb ?ha); (case hb => with_reducible assumption); (case ha => walk_at "sa")) | ((with_reducible refine' sa_fr ?hb ?hc ?ha); (case hb => with_reducible assumption); (case hc => walk_at "nq"); (case ha => walk_at "sa")) | ((with_reducible refine' Or.inl ?ha); (case ha => walk_at "sl")) | ((with_reducible refine' Or.inr ?ha); (case ha => walk_at "st")))
local macro_rules | `(tactic| walk_at "ln") => `(tactic| first | decide | omega | exact Nat.le_of_ble_eq_true rfl | (simp only [List.length_append, List.length_map, List.length_cons, List.length_nil, List.length_flatMap]; omega))
local macro_rules | `(tactic| walk_at "ty") => `(tactic| first | with_reducible assumption | with_reducible exact .base (.int _) | with_reducible exact .base (.str _) | with_reducible exact .base (.bl _) | with_reducible exact .base .non | ((with_reducible refine' TyX.base (TyOf.lst ?ha)); (case ha => walk_at "gt")) | ((with_reducible refine' TyX.base (TyOf.tup ?ha)); (case ha => walk_at "gt")) | ((with_reducible refine' TyX.base (TyOf.dK ?ha)); (case ha => walk_at "gt")) | ((with_reducible refine' ty_new ?ha ?hb); (case hb => with_reducible assumption); (case ha => walk_at "ty")) | ((with_reducible refine' ty_sm ?hb ?ha); (case hb => with_reducible assumption); (case ha => walk_at "ty")))
local macro_rules | `(tactic| walk_at "kb") => `(tactic| first | with_reducible assumption | exact kb_str_str | exact kb_int_str | exact kb_list_str | exact kb_tuple_str | exact kb_bool_str | exact kb_NoneType_str | exact kb_dict_str | exact kb_str_int | exact kb_int_int | exact kb_list_int | exact kb_tuple_int | exact kb_bool_int | exact kb_NoneType_int | exact kb_dict_int | exact kb_str_bool | exact kb_int_bool | exact kb_list_bool | exact kb_tuple_bool | exact kb_bool_bool | exact kb_NoneType_bool | exact kb_dict_bool | exact kb_str_list | exact kb_int_list | exact kb_list_list | exact kb_tuple_list | exact kb_bool_list | exact kb_NoneType_list | exact kb_dict_list | exact kb_str_tuple | exact kb_int_tuple | exact kb_list_tuple | exact kb_tuple_tuple | exact kb_bool_tuple | exact kb_NoneType_tuple | exact kb_dict_tuple | exact kb_str_dict | exact kb_int_dict | exact kb_list_dict | exact kb_tuple_dict | exact kb_bool_dict | exact kb_NoneType_dict | exact kb_dict_dict)
local macro_rules | `(tactic| walk_at "wk") => `(tactic| first | with_reducible assumption | ((with_reducible refine' WkAt.new ?ha ?hb); (case hb => with_reducible assumption); (case ha => walk_at "wk")) | ((with_reducible refine' WkAt.sm ?hb ?ha); (case hb => with_reducible assumption); (case ha => walk_at "wk")) | ((with_reducible refine' WkAt.dr ?hb ?hc ?ha); (case hb => with_reducible assumption); (case hc => with_reducible assumption); (case ha => walk_at "wk")))
local macro_rules | `(tactic| walk_at "ed") => `(tactic| first | with_reducible assumption | ((with_reducible refine' EdAt.new ?ha ?hb); (case hb => with_reducible assumption); (case ha => walk_at "ed")) | ((with_reducible refine' EdAt.sm ?hb ?ha); (case hb => with_reducible assumption); (case ha => walk_at "ed")) | ((with_reducible refine' EdAt.dr ?hb ?hc ?ha); (case hb => with_reducible assumption); (case hc => with_reducible assumption); (case ha => walk_at "ed")))
local macro_rules | `(tactic| walk_at "fl") => `(tactic| first | with_reducible assumption | ((with_reducible refine' WkAt.rows ?hT ?hW); (case hT => assumption); (case hW => walk_at "wk")) | ((with_reducible refine' WkAt.name ?hT ?hW); (case hT => assumption); (case hW => walk_at "wk")) | ((with_reducible refine' EdAt.work ?hT ?hW); (case hT => assumption); (case hW => walk_at "ed")) | ((with_reducible refine' EdAt.nums ?hT ?hW); (case hT => assumption); (case hW => walk_at "ed")))
local macro_rules | `(tactic| walk_at "mt") => `(tactic| first | with_reducible assumption | ((with_reducible refine' WkAt.mt ?hn1 ?hn2 ?hW); (case hW => walk_at "wk"); (case hn1 => decide +kernel); (case hn2 => decide +kernel)) | ((with_reducible refine' EdAt.mt ?hn1 ?hn2 ?hW); (case hW => walk_at "ed"); (case hn1 => decide +kernel); (case hn2 => decide +kernel)))
local macro_rules | `(tactic| walk_at "is") => `(tactic| first | with_reducible assumption | ((with_reducible refine' WkAt.is ?hW); (case hW => walk_at "wk")) | ((with_reducible refine' EdAt.is ?hW); (case hW => walk_at "ed")))
local macro_rules | `(tactic| walk_at "ic") => `(tactic| first
  | ((with_reducible show CMul _ _); first | exact Or.inl ⟨by decide, by decide⟩ | exact Or.inr ⟨by decide, by decide⟩ | exact Or.inl ⟨by omega, by omega⟩ | exact Or.inr ⟨by omega, by omega⟩)
  | ((with_reducible show CDiv _ _); first | exact ⟨by decide, by decide⟩ | exact ⟨by omega, by omega⟩)
  | ((with_reducible show CPow _ _); first | exact ⟨by decide, by decide, by decide⟩ | exact ⟨by decide, by decide, by omega⟩)
  | (show (0 : Int) < _; first | decide | omega))
local macro_rules | `(tactic| walk_at "s1") => `(tactic| first
  | with_reducible refine k_seq ?_
  | with_reducible refine k_set ?_
  | with_reducible refine k_asg ?_
  | with_reducible refine k_par ?_
  | with_reducible refine k_par2 ?_
  | with_reducible refine k_drop ?_
  | with_reducible refine k_ret ?_
  | with_reducible refine k_next ?_
  | with_reducible refine k_if ?_
  | ((with_reducible refine' k_aug ?hv ?_); (case hv => exact rfl))
  | with_reducible refine k_ipI ?_
  | with_reducible refine k_gname ?_
  | with_reducible refine k_gsub ?_
  | ((with_reducible refine' k_gtup ?hv ?hw ?_); (case hv => walk_at "st"); (case hw => rfl))
  | with_reducible refine k_gcons ?_
  | with_reducible refine k_gnil ?_
  | with_reducible refine k_test ?_
  | with_reducible refine k_B ?_
  | with_reducible refine k_blE ?_
  | with_reducible refine k_and ?_
  | with_reducible refine k_or ?_
  | with_reducible refine k_not ?_
  | with_reducible refine iteT ?_
  | with_reducible refine iteF ?_
  | with_reducible refine iteNT ?_
  | with_reducible refine iteNF ?_
  | ((with_reducible refine' k_var ?hv ?_); (case hv => exact rfl))
  | with_reducible refine k_c ?_
  | with_reducible refine k_op ?_
  | with_reducible refine k_un ?_
  | with_reducible refine k_U ?_
  | with_reducible refine k_I0 ?_
  | ((with_reducible refine' k_I ?hv ?_); (case hv => walk_at "ic"))
  | with_reducible refine k_eqI ?_
  | with_reducible refine k_neI ?_
  | with_reducible refine k_eqS ?_
  | with_reducible refine k_neS ?_
  | with_reducible refine k_eqB ?_
  | with_reducible refine k_neB ?_
  | with_reducible refine k_for ?_
  | with_reducible refine k_iE ?_
  | with_reducible refine k_iA ?_
  | ((with_reducible refine' k_itl ?hv ?_); (case hv => walk_at "sl"))
  | ((with_reducible refine' k_itt ?hv ?_); (case hv => walk_at "st"))
  | with_reducible refine k_its ?_
  | ((with_reducible refine' k_rg1n ?hv ?_); (case hv => first | decide | omega))
  | ((with_reducible refine' k_rg1 ?hv ?hw ?_); (case hv => first | decide | omega); (case hw => first | decide | omega))
  | ((with_reducible refine' k_inS ?hv ?_); (case hv => walk_at "sa"))
  | ((with_reducible refine' k_inI ?hv ?_); (case hv => walk_at "sa"))
  | ((with_reducible refine' k_ninS ?hv ?_); (case hv => walk_at "sa"))
  | ((with_reducible refine' k_ninI ?hv ?_); (case hv => walk_at "sa"))
  | ((with_reducible refine' k_zipl ?hv ?hw ?_); (case hv => walk_at "sl"); (case hw => walk_at "sl"))
  | with_reducible refine k_nil ?_
  | with_reducible refine k_cons ?_
  | with_reducible refine k_cb ?_
  | with_reducible refine k_call ?_
  | with_reducible refine k_lst ?_
  | with_reducible refine k_tup ?_
  | with_reducible refine k_ifx ?_
  | with_reducible refine k_andv ?_
  | with_reducible refine k_orv ?_
  | with_reducible refine k_notv ?_
  | with_reducible refine k_inti ?_
  | with_reducible refine k_intb ?_
  | with_reducible refine k_sl ?_
  | with_reducible refine k_nopart ?_
  | with_reducible refine k_part ?_
  | with_reducible refine k_parti ?_
  | ((with_reducible refine' k_lenl ?hv ?_); (case hv => walk_at "sl"))
  | ((with_reducible refine' k_lent ?hv ?_); (case hv => walk_at "st"))
  | ((with_reducible refine' k_lens ?hv ?_); (case hv => exact szl (by walk_at "ln")))
  | ((with_reducible refine' k_lena ?hv ?_); (case hv => walk_at "sa"))
  | ((with_reducible refine' k_ixl ?hv ?hn ?_); (case hv => walk_at "sl"); (case hn => first | rfl | assumption))
  | ((with_reducible refine' k_ixt ?hv ?hn ?_); (case hv => walk_at "st"); (case hn => first | rfl | assumption))
  | ((with_reducible refine' k_ixa ?hv ?hn ?_); (case hv => walk_at "sa"); (case hn => first | rfl | assumption))
  | with_reducible refine k_chain ?_
  | ((with_reducible refine' k_isi ?hv ?hw ?_); (case hv => walk_at "ty"); (case hw => walk_at "kb"))
  | ((with_reducible refine' k_isi2 ?hb ?hp ?hv ?hw ?hx ?_); (case hp => walk_at "gt"); (case hv => walk_at "ty"); (case hw => walk_at "kb"); (case hx => walk_at "kb"); (case hb => first | exact or_t | exact or_f))
  | ((with_reducible refine' k_all ?hv ?_); (case hv => walk_at "gt"))
  | ((with_reducible refine' k_any ?hv ?_); (case hv => walk_at "gt"))
  | with_reducible refine k_insign ?_
  | with_reducible refine k_fldR ?_
  | ((with_reducible refine' k_fl ?hv ?_); (case hv => walk_at "fl"))
  | with_reducible refine k_sfld ?_
  | with_reducible refine k_meth ?_
  | ((with_reducible refine' k_mt ?hv ?_); (case hv => walk_at "mt"))
  | with_reducible refine k_make ?_
  | ((with_reducible refine' k_own ?hv ?hw ?_); (case hv => walk_at "is"); (case hw => walk_at "is"))
  | ((with_reducible refine' k_ownin ?hv ?_); (case hv => walk_at "is"))
  | ((with_reducible refine' k_lenO ?hv ?_); (case hv => walk_at "is"))
  | with_reducible refine k_lrg ?_
  | with_reducible refine k_rgt ?_
  | with_reducible refine k_rgti ?_
  | with_reducible refine k_bm ?_
  | with_reducible refine k_bm0 ?_
  | with_reducible refine k_tys ?_
  | ((with_reducible refine' k_tyl ?hv ?_); (case hv => walk_at "sl"))
  | ((with_reducible refine' k_ext ?hv ?hw ?hn ?_); (case hv => walk_at "gt"); (case hw => walk_at "gt"); (case hn => walk_at "ln"))
  | ((with_reducible refine' k_app ?hv ?hn ?_); (case hv => walk_at "gt"); (case hn => walk_at "ln"))
  | ((with_reducible refine' k_popat ?hv ?hn ?hw ?_); (case hv => walk_at "gt"); (case hn => with_reducible assumption); (case hw => walk_at "ln"))
  | with_reducible refine k_lc ?_
  | with_reducible refine k_yes0 ?_
  | ((with_reducible show wipe _ _ = wipe _ _ ∧ _); refine ⟨rfl, ?_⟩)
  | ((with_reducible refine' k_adds ?hv ?_); (case hv => walk_at "ln"))
  | ((with_reducible refine' k_st1 ?hv ?_); (case hv => walk_at "gt"))
  | ((with_reducible refine' k_st2 ?hv ?_); (case hv => walk_at "gt"))
  | ((with_reducible refine' k_st3 ?hv ?_); (case hv => walk_at "gt"))
  | ((with_reducible refine' k_setl ?hv ?hn ?_); (case hv => walk_at "gt"); (case hn => rfl)))
local macro_rules | `(tactic| walk_at "put") => `(tactic| ((refine' ⟨_, ?ha, sz ?hb, ?_⟩); (case ha => walk_at "gt"); (case hb => walk_at "ln")))
local macro_rules | `(tactic| walk_at "go") => `(tactic| repeat (walk_at "s1"))

abbrev sWork___eq__ : Stmt := inClass (top 16) 1
theorem scWork___eq__ : FnScope ["self", "other"] ["self", "other"] (defScope sWork___eq__) := ⟨rfl, rfl, rfl, by decide +kernel, rfl, by decide +kernel, by decide +kernel⟩
abbrev scheck_works : Stmt := top 18
theorem sccheck_works : FnScope ["one", "other"] ["one", "other"] (defScope scheck_works) := ⟨rfl, rfl, rfl, by decide +kernel, rfl, by decide +kernel, by decide +kernel⟩
abbrev snumbers_of : Stmt := top 17
theorem scnumbers_of : FnScope ["work", "things", "found", "index", "thing", "numbers", "at", "word"] ["work", "things"] (defScope snumbers_of) := ⟨rfl, rfl, rfl, by decide +kernel, rfl, by decide +kernel, by decide +kernel⟩
abbrev sEdition___init__ : Stmt := inClass (top 20) 0
theorem scEdition___init__ : FnScope ["self", "work", "passages"] ["self", "work", "passages"] (defScope sEdition___init__) := ⟨rfl, rfl, rfl, by decide +kernel, rfl, by decide +kernel, by decide +kernel⟩
abbrev sedition_of : Stmt := top 19
theorem scedition_of : FnScope ["work", "numbers", "number"] ["work", "numbers"] (defScope sedition_of) := ⟨rfl, rfl, rfl, by decide +kernel, rfl, by decide +kernel, by decide +kernel⟩
abbrev sWork_whole : Stmt := inClass (top 16) 5
theorem scWork_whole : FnScope ["self"] ["self"] (defScope sWork_whole) := ⟨rfl, rfl, rfl, by decide +kernel, rfl, by decide +kernel, by decide +kernel⟩
theorem kit_same {K : PySem.W.Frag} {t : Value} : PySem.W.kitOne K t t = some true := by
  unfold PySem.W.kitOne
  rw [if_pos (beq_self_eq_true t)]
theorem isW_ok {z : Str} (h : isW z = true) : PyData.strOk z = true := by
  unfold isW at h
  rw [Bool.and_eq_true, Bool.and_eq_true] at h
  have h2 := List.all_eq_true.mp h.2.2
  unfold PyData.strOk
  rw [Array.all_eq_true']
  intro c hc
  have h3 := of_decide_eq_true (h2 c (Array.mem_toList_iff.mpr hc))
  have h4 : ∀ d ∈ letters.cps.toList, d < 1114112 := by decide +kernel
  exact decide_eq_true (h4 c h3)
theorem Good.ok {ws : List Str} (G : Good ws) : okS ws := fun x hx => isW_ok (G.wd x hx)
section
variable {P : Program} {w : World} {K : PySem.W.Frag} {mg : Str → Option Value} {base : Heap} {Z : Cs}
def spWorkEq (Z : Cs) : Sp := fun vs H Q _ => ∃ (p q t u : Addr) (n1 n2 : Str) (ws us : List Str), vs = [.ref p, .ref q] ∧ WkAt Z H p t n1 ws ∧ WkAt Z H q u n2 us ∧ okS ws ∧ okS us ∧ Q (.bl (decide (n1 = n2) && decide (ws = us))) H
theorem ok_work_eq (B : Bn mg) (T : Tw K mg Z) (D : DefM K Z.W "__eq__" "Work.__eq__" sWork___eq__) : CalM P w K mg base 1 Z.W "__eq__" ["self", "other"] (spWorkEq Z) := by
  refine CalM.of D scWork___eq__ (fun _ _ _ _ _ _ us hl => match us, hl with | [_, _], _ => rfl) (fun vs H Q E h => ?_) (fun f cdv A outer s H vs Q E hr h => ?_)
  · obtain ⟨_, _, _, _, _, _, _, _, rfl, _⟩ := h; rfl
  · obtain ⟨p, q, t, u, n1, n2, ws, us, rfl, W1, W2, o1, o2, k⟩ := h
    refine ⟨_, (pss_one (ps_ret (pe_and (pe_callB (n_isi K) (by rfl) B.isinstance (by decide +kernel) (pa_cons (pv 1) (pa_cons (pe_glob (v := .ref Z.W) rfl T.mgW rfl) pa_nil))) (pe_and (pe_cmpR op_eq (e_fld K (pv 0)) (e_fld K (pv 1)) (nomark _)) (pe_one (pe_cmpR (o_eqD K hr.units) (e_fld K (pv 0)) (e_fld K (pv 1)) (nomark _))))))), ?_⟩
    walk_at "go"
    refine k_isiO (W2.ty T) kit_same ?_
    walk_at "go"
    refine k_dec (fun h => ?_) (fun h => ?_)
    · walk_at "go"
      refine k_eqTS W1.2 W2.2 o1 o2 ?_
      rw [decide_eq_true h, Bool.true_and] at k
      exact k
    · rw [decide_eq_false h, Bool.false_and] at k
      exact k
def spCheck (Z : Cs) : Sp := fun vs H Q _ => ∃ (p q t u : Addr) (nm : Str) (ws : List Str), vs = [.ref p, .ref q] ∧ WkAt Z H p t nm ws ∧ WkAt Z H q u nm ws ∧ okS ws ∧ Q .non H
theorem ok_check (CWork___eq__ : CalM P w K mg base 1 Z.W "__eq__" ["self", "other"] (spWorkEq Z)) (D : Def K mg "check_works" scheck_works) : Cal P w K mg base 2 "check_works" ["one", "other"] (spCheck Z) := by
  refine Cal.of D sccheck_works (fun _ _ _ _ _ _ us hl => match us, hl with | [_, _], _ => rfl) (fun vs H Q E h => ?_) (fun f cdv A outer s H vs Q E hr h => ?_)
  · obtain ⟨_, _, _, _, _, _, rfl, _⟩ := h; rfl
  · obtain ⟨p, q, t, u, nm, ws, rfl, W1, W2, o1, k⟩ := h
    refine ⟨_, (pss_one (ps_if (pt_not (pt_cmpR (o_cmp CWork___eq__ hr (by decide)) (pv 0) (pv 1) (nomark _))) (pss_one ps_never) pss_nil)), ?_⟩
    walk_at "go"
    refine ⟨p, q, t, u, nm, nm, ws, ws, rfl, W1, W2, o1, o1, ?_⟩
    rw [decide_eq_true rfl, decide_eq_true rfl]
    refine ⟨true, rfl, ?_⟩
    walk_at "go"
    exact k
end
end Lf

set_option Elab.async false
set_option linter.all false
set_option maxRecDepth 100000
set_option maxHeartbeats 2000000
/-! Editions are made. -/
namespace Lf
open PySem L2
local macro_rules | `(tactic| walk_at "nq") => `(tactic| first | with_reducible assumption | with_reducible exact Ne.symm (by assumption) | with_reducible exact ne_of_none (by assumption) (by assumption) | with_reducible exact Ne.symm (ne_of_none (by assumption) (by assumption)))
local macro_rules | `(tactic| walk_at "gt") => `(tactic| first | with_reducible assumption | with_reducible exact upd_same | ((with_reducible refine' upd_new ?ha ?hb); (case hb => with_reducible assumption); (case ha => walk_at "gt")) | ((with_reducible refine' upd_old ?ha ?hb); (case hb => walk_at "nq"); (case ha => walk_at "gt")) | ((with_reducible refine' sm_get ?hb ?ha); (case hb => with_reducible assumption); (case ha => walk_at "gt")) | ((with_reducible refine' fr_get ?hb ?ha ?hc); (case hb => with_reducible assumption); (case hc => walk_at "nq"); (case ha => walk_at "gt")))
local macro_rules | `(tactic| walk_at "sl") => `(tactic| first | with_reducible assumption | ((with_reducible refine' sl_of ?ha); (case ha => walk_at "gt")) | ((with_reducible refine' sl_new ?ha ?hb); (case hb => with_reducible assumption); (case ha => walk_at "sl")) | ((with_reducible refine' sl_sm ?hb ?ha); (case hb => with_reducible assumption); (case ha => walk_at "sl")) | ((with_reducible refine' sl_fr ?hb ?hc ?ha); (case hb => with_reducible assumption); (case hc => walk_at "nq"); (case ha => walk_at "sl")))
local macro_rules | `(tactic| walk_at "st") => `(tactic| first | with_reducible assumption | ((with_reducible refine' st_of ?ha); (case ha => walk_at "gt")) | ((with_reducible refine' st_new ?ha ?hb); (case hb => with_reducible assumption); (case ha => walk_at "st")) | ((with_reducible refine' st_sm ?hb ?ha); (case hb => with_reducible assumption); (case ha => walk_at "st")) | ((with_reducible refine' st_fr ?hb ?hc ?ha); (case hb => with_reducible assumption); (case hc => walk_at "nq"); (case ha => walk_at "st")))
local macro_rules | `(tactic| walk_at "sa") => `(tactic| first | with_reducible assumption | ((with_reducible refine' sa_l ?ha); (case ha => walk_at "gt")) | ((with_reducible refine' sa_t ?ha); (case ha => walk_at "gt")) | ((with_reducible refine' sa_new ?ha ?hb); (case hb => with_reducible assumption); (case ha => walk_at "sa")) | ((with_reducible refine' sa_sm ?hb ?ha); (case hb => with_reducible assumption); (case ha => walk_at "sa")) | ((with_reducible refine' sa_fr ?hb ?hc ?ha); (case hb => with_reducible assumption); (case hc => walk_at "nq"); (case ha => walk_at "sa")) | ((with_reducible refine' Or.inl ?ha); (case ha => walk_at "sl")) | ((with_reducible refine' Or.inr ?ha); (case ha => walk_at "st")))
local macro_rules | `(tactic| walk_at "ln") => `(tactic| first | decide | omega | exact Nat.le_of_ble_eq_true rfl | (simp only [List.length_append, List.length_map, List.length_cons, List.length_nil, List.length_flatMap]; omega))
local macro_rules | `(tactic| walk_at "ty") => `(tactic| first | with_reducible assumption | with_reducible exact .base (.int _) | with_reducible exact .base (.str _) | with_reducible exact .base (.bl _) | with_reducible exact .base .non | ((with_reducible refine' TyX.base (TyOf.lst ?ha)); (case ha => walk_at "gt")) | ((with_reducible refine' TyX.base (TyOf.tup ?ha)); (case ha => walk_at "gt")) | ((with_reducible refine' TyX.base (TyOf.dK ?ha)); (case ha => walk_at "gt")) | ((with_reducible refine' ty_new ?ha ?hb); (case hb => with_reducible assumption); (case ha => walk_at "ty")) | ((with_reducible refine' ty_sm ?hb ?ha); (case hb => with_reducible assumption); (case ha => walk_at "ty")))
local macro_rules | `(tactic| walk_at "kb") => `(tactic| first | with_reducible assumption | exact kb_str_str | exact kb_int_str | exact kb_list_str | exact kb_tuple_str | exact kb_bool_str | exact kb_NoneType_str | exact kb_dict_str | exact kb_str_int | exact kb_int_int | exact kb_list_int | exact kb_tuple_int | exact kb_bool_int | exact kb_NoneType_int | exact kb_dict_int | exact kb_str_bool | exact kb_int_bool | exact kb_list_bool | exact kb_tuple_bool | exact kb_bool_bool | exact kb_NoneType_bool | exact kb_dict_bool | exact kb_str_list | exact kb_int_list | exact kb_list_list | exact kb_tuple_list | exact kb_bool_list | exact kb_NoneType_list | exact kb_dict_list | exact kb_str_tuple | exact kb_int_tuple | exact kb_list_tuple | exact kb_tuple_tuple | exact kb_bool_tuple | exact kb_NoneType_tuple | exact kb_dict_tuple | exact kb_str_dict | exact kb_int_dict | exact kb_list_dict | exact kb_tuple_dict | exact kb_bool_dict | exact kb_NoneType_dict | exact kb_dict_dict)
local macro_rules | `(tactic| walk_at "wk") => `(tactic| first | with_reducible assumption | ((with_reducible refine' WkAt.new ?ha ?hb); (case hb => with_reducible assumption); (case ha => walk_at "wk")) | ((with_reducible refine' WkAt.sm ?hb ?ha); (case hb => with_reducible assumption); (case ha => walk_at "wk")) | ((with_reducible refine' WkAt.dr ?hb ?hc ?ha); (case hb => with_reducible assumption); (case hc => with_reducible assumption); (case ha => walk_at "wk")))
local macro_rules | `(tactic| walk_at "ed") => `(tactic| first | with_reducible assumption | ((with_reducible refine' EdAt.new ?ha ?hb); (case hb => with_reducible assumption); (case ha => walk_at "ed")) | ((with_reducible refine' EdAt.sm ?hb ?ha); (case hb => with_reducible assumption); (case ha => walk_at "ed")) | ((with_reducible refine' EdAt.dr ?hb ?hc ?ha); (case hb => with_reducible assumption); (case hc => with_reducible assumption); (case ha => walk_at "ed")))
local macro_rules | `(tactic| walk_at "fl") => `(tactic| first | with_reducible assumption | ((with_reducible refine' WkAt.rows ?hT ?hW); (case hT => assumption); (case hW => walk_at "wk")) | ((with_reducible refine' WkAt.name ?hT ?hW); (case hT => assumption); (case hW => walk_at "wk")) | ((with_reducible refine' EdAt.work ?hT ?hW); (case hT => assumption); (case hW => walk_at "ed")) | ((with_reducible refine' EdAt.nums ?hT ?hW); (case hT => assumption); (case hW => walk_at "ed")))
local macro_rules | `(tactic| walk_at "mt") => `(tactic| first | with_reducible assumption | ((with_reducible refine' WkAt.mt ?hn1 ?hn2 ?hW); (case hW => walk_at "wk"); (case hn1 => decide +kernel); (case hn2 => decide +kernel)) | ((with_reducible refine' EdAt.mt ?hn1 ?hn2 ?hW); (case hW => walk_at "ed"); (case hn1 => decide +kernel); (case hn2 => decide +kernel)))
local macro_rules | `(tactic| walk_at "is") => `(tactic| first | with_reducible assumption | ((with_reducible refine' WkAt.is ?hW); (case hW => walk_at "wk")) | ((with_reducible refine' EdAt.is ?hW); (case hW => walk_at "ed")))
local macro_rules | `(tactic| walk_at "ic") => `(tactic| first
  | ((with_reducible show CMul _ _); first | exact Or.inl ⟨by decide, by decide⟩ | exact Or.inr ⟨by decide, by decide⟩ | exact Or.inl ⟨by omega, by omega⟩ | exact Or.inr ⟨by omega, by omega⟩)
  | ((with_reducible show CDiv _ _); first | exact ⟨by decide, by decide⟩ | exact ⟨by omega, by omega⟩)
  | ((with_reducible show CPow _ _); first | exact ⟨by decide, by decide, by decide⟩ | exact ⟨by decide, by decide, by omega⟩)
  | (show (0 : Int) < _; first | decide | omega))
local macro_rules | `(tactic| walk_at "s1") => `(tactic| first
  | with_reducible refine k_seq ?_
  | with_reducible refine k_set ?_
  | with_reducible refine k_asg ?_
  | with_reducible refine k_par ?_
  | with_reducible refine k_par2 ?_
  | with_reducible refine k_drop ?_
  | with_reducible refine k_ret ?_
  | with_reducible refine k_next ?_
  | with_reducible refine k_if ?_
  | ((with_reducible refine' k_aug ?hv ?_); (case hv => exact rfl))
  | with_reducible refine k_ipI ?_
  | with_reducible refine k_gname ?_
  | with_reducible refine k_gsub ?_
  | ((with_reducible refine' k_gtup ?hv ?hw ?_); (case hv => walk_at "st"); (case hw => rfl))
  | with_reducible refine k_gcons ?_
  | with_reducible refine k_gnil ?_
  | with_reducible refine k_test ?_
  | with_reducible refine k_B ?_
  | with_reducible refine k_blE ?_
  | with_reducible refine k_and ?_
  | with_reducible refine k_or ?_
  | with_reducible refine k_not ?_
  | with_reducible refine iteT ?_
  | with_reducible refine iteF ?_
  | with_reducible refine iteNT ?_
  | with_reducible refine iteNF ?_
  | ((with_reducible refine' k_var ?hv ?_); (case hv => exact rfl))
  | with_reducible refine k_c ?_
  | with_reducible refine k_op ?_
  | with_reducible refine k_un ?_
  | with_reducible refine k_U ?_
  | with_reducible refine k_I0 ?_
  | ((with_reducible refine' k_I ?hv ?_); (case hv => walk_at "ic"))
  | with_reducible refine k_eqI ?_
  | with_reducible refine k_neI ?_
  | with_reducible refine k_eqS ?_
  | with_reducible refine k_neS ?_
  | with_reducible refine k_eqB ?_
  | with_reducible refine k_neB ?_
  | with_reducible refine k_for ?_
  | with_reducible refine k_iE ?_
  | with_reducible refine k_iA ?_
  | ((with_reducible refine' k_itl ?hv ?_); (case hv => walk_at "sl"))
  | ((with_reducible refine' k_itt ?hv ?_); (case hv => walk_at "st"))
  | with_reducible refine k_its ?_
  | ((with_reducible refine' k_rg1n ?hv ?_); (case hv => first | decide | omega))
  | ((with_reducible refine' k_rg1 ?hv ?hw ?_); (case hv => first | decide | omega); (case hw => first | decide | omega))
  | ((with_reducible refine' k_inS ?hv ?_); (case hv => walk_at "sa"))
  | ((with_reducible refine' k_inI ?hv ?_); (case hv => walk_at "sa"))
  | ((with_reducible refine' k_ninS ?hv ?_); (case hv => walk_at "sa"))
  | ((with_reducible refine' k_ninI ?hv ?_); (case hv => walk_at "sa"))
  | ((with_reducible refine' k_zipl ?hv ?hw ?_); (case hv => walk_at "sl"); (case hw => walk_at "sl"))
  | with_reducible refine k_nil ?_
  | with_reducible refine k_cons ?_
  | with_reducible refine k_cb ?_
  | with_reducible refine k_call ?_
  | with_reducible refine k_lst ?_
  | with_reducible refine k_tup ?_
  | with_reducible refine k_ifx ?_
  | with_reducible refine k_andv ?_
  | with_reducible refine k_orv ?_
  | with_reducible refine k_notv ?_
  | with_reducible refine k_inti ?_
  | with_reducible refine k_intb ?_
  | with_reducible refine k_sl ?_
  | with_reducible refine k_nopart ?_
  | with_reducible refine k_part ?_
  | with_reducible refine k_parti ?_
  | ((with_reducible refine' k_lenl ?hv ?_); (case hv => walk_at "sl"))
  | ((with_reducible refine' k_lent ?hv ?_); (case hv => walk_at "st"))
  | ((with_reducible refine' k_lens ?hv ?_); (case hv => exact szl (by walk_at "ln")))
  | ((with_reducible refine' k_lena ?hv ?_); (case hv => walk_at "sa"))
  | ((with_reducible refine' k_ixl ?hv ?hn ?_); (case hv => walk_at "sl"); (case hn => first | rfl | assumption))
  | ((with_reducible refine' k_ixt ?hv ?hn ?_); (case hv => walk_at "st"); (case hn => first | rfl | assumption))
  | ((with_reducible refine' k_ixa ?hv ?hn ?_); (case hv => walk_at "sa"); (case hn => first | rfl | assumption))
  | with_reducible refine k_chain ?_
  | ((with_reducible refine' k_isi ?hv ?hw ?_); (case hv => walk_at "ty"); (case hw => walk_at "kb"))
  | ((with_reducible refine' k_isi2 ?hb ?hp ?hv ?hw ?hx ?_); (case hp => walk_at "gt"); (case hv => walk_at "ty"); (case hw => walk_at "kb"); (case hx => walk_at "kb"); (case hb => first | exact or_t | exact or_f))
  | ((with_reducible refine' k_all ?hv ?_); (case hv => walk_at "gt"))
  | ((with_reducible refine' k_any ?hv ?_); (case hv => walk_at "gt"))
  | with_reducible refine k_insign ?_
  | with_reducible refine k_fldR ?_
  | ((with_reducible refine' k_fl ?hv ?_); (case hv => walk_at "fl"))
  | with_reducible refine k_sfld ?_
  | with_reducible refine k_meth ?_
  | ((with_reducible refine' k_mt ?hv ?_); (case hv => walk_at "mt"))
  | with_reducible refine k_make ?_
  | ((with_reducible refine' k_own ?hv ?hw ?_); (case hv => walk_at "is"); (case hw => walk_at "is"))
  | ((with_reducible refine' k_ownin ?hv ?_); (case hv => walk_at "is"))
  | ((with_reducible refine' k_lenO ?hv ?_); (case hv => walk_at "is"))
  | with_reducible refine k_lrg ?_
  | with_reducible refine k_rgt ?_
  | with_reducible refine k_rgti ?_
  | with_reducible refine k_bm ?_
  | with_reducible refine k_bm0 ?_
  | with_reducible refine k_tys ?_
  | ((with_reducible refine' k_tyl ?hv ?_); (case hv => walk_at "sl"))
  | ((with_reducible refine' k_ext ?hv ?hw ?hn ?_); (case hv => walk_at "gt"); (case hw => walk_at "gt"); (case hn => walk_at "ln"))
  | ((with_reducible refine' k_app ?hv ?hn ?_); (case hv => walk_at "gt"); (case hn => walk_at "ln"))
  | ((with_reducible refine' k_popat ?hv ?hn ?hw ?_); (case hv => walk_at "gt"); (case hn => with_reducible assumption); (case hw => walk_at "ln"))
  | with_reducible refine k_lc ?_
  | with_reducible refine k_yes0 ?_
  | ((with_reducible show wipe _ _ = wipe _ _ ∧ _); refine ⟨rfl, ?_⟩)
  | ((with_reducible refine' k_adds ?hv ?_); (case hv => walk_at "ln"))
  | ((with_reducible refine' k_st1 ?hv ?_); (case hv => walk_at "gt"))
  | ((with_reducible refine' k_st2 ?hv ?_); (case hv => walk_at "gt"))
  | ((with_reducible refine' k_st3 ?hv ?_); (case hv => walk_at "gt"))
  | ((with_reducible refine' k_setl ?hv ?hn ?_); (case hv => walk_at "gt"); (case hn => rfl)))
local macro_rules | `(tactic| walk_at "put") => `(tactic| ((refine' ⟨_, ?ha, sz ?hb, ?_⟩); (case ha => walk_at "gt"); (case hb => walk_at "ln")))
local macro_rules | `(tactic| walk_at "go") => `(tactic| repeat (walk_at "s1"))

/-- ascending numbers below m -/
structure Asc (ns : List Nat) (m : Nat) : Prop where
  up : ns.Pairwise (· < ·)
  lt : ∀ x ∈ ns, x < m
theorem asc_len : ∀ (ns : List Nat) (lo m : Nat), ns.Pairwise (· < ·) → (∀ x ∈ ns, lo ≤ x ∧ x < m) → ns.length ≤ m - lo
  | [], _, _, _, _ => Nat.zero_le _
  | a :: ns, lo, m, hp, h => by
    have h1 := h a List.mem_cons_self
    have hp' := List.pairwise_cons.mp hp
    have := asc_len ns (a + 1) m hp'.2 fun x hx => ⟨hp'.1 x hx, (h x (List.mem_cons_of_mem _ hx)).2⟩
    rw [List.length_cons]
    omega
theorem Asc.len {ns : List Nat} {m : Nat} (A : Asc ns m) : ns.length ≤ m := asc_len ns 0 m A.up fun x hx => ⟨Nat.zero_le _, A.lt x hx⟩
/-- the word with a number -/
def wd (ws : List Str) (n : Nat) : Str := ws.getD n Str.empty
theorem wd_get {ws : List Str} {n : Nat} (h : n < ws.length) : ws[n]? = some (wd ws n) := by
  unfold wd
  rw [List.getD_eq_getElem?_getD, List.getElem?_eq_getElem h]
  rfl
theorem wd_mem {ws : List Str} {n : Nat} (h : n < ws.length) : wd ws n ∈ ws := List.mem_of_getElem? (wd_get h)
theorem wd_inj {ws : List Str} (nd : ws.Nodup) {n m : Nat} (hn : n < ws.length) (hm : m < ws.length) (e : wd ws n = wd ws m) : n = m := by
  have h1 := (List.getElem?_eq_some_iff.mp (wd_get hn)).2
  have h2 := (List.getElem?_eq_some_iff.mp (wd_get hm)).2
  rcases Nat.lt_trichotomy n m with h | h | h
  · exact absurd (h1.trans (e.trans h2.symm)) (List.pairwise_iff_getElem.mp nd n m hn hm h)
  · exact h
  · exact absurd (h2.trans (e.symm.trans h1.symm)) (List.pairwise_iff_getElem.mp nd m n hm hn h)
theorem asc_take {ns : List Nat} {m i n : Nat} (A : Asc ns m) (h : ns[i]? = some n) : ∀ x ∈ ns.take i, x < n := by
  intro x hx
  obtain ⟨j, hj, e⟩ := List.mem_take_iff_getElem.mp hx
  have hi : i < ns.length := (List.getElem?_eq_some_iff.mp h).1
  have e2 : ns[i] = n := (List.getElem?_eq_some_iff.mp h).2
  have := List.pairwise_iff_getElem.mp A.up j i (by omega) hi (by omega)
  rw [e, e2] at this
  exact this
theorem iv_len (ns : List Nat) : (iv ns).length = ns.length := by unfold iv; rw [List.length_map, List.length_map]
theorem iv_app (ns : List Nat) (n : Nat) : iv (ns ++ [n]) = iv ns ++ [.int (n : Nat)] := by unfold iv; rw [List.map_append, List.map_append]; rfl
theorem take_succ {α : Type} {l : List α} {i : Nat} {x : α} (h : l[i]? = some x) : l.take (i + 1) = l.take i ++ [x] := by rw [List.take_add_one, h]; rfl
theorem last_of {ns : List Nat} (h : ns ≠ []) : ∃ ys x, ns = ys ++ [x] ∧ atI (iv ns) (-1) = some (.int (x : Nat)) := by
  have e : ns = ns.dropLast ++ [ns.getLast h] := (List.dropLast_concat_getLast h).symm
  refine ⟨ns.dropLast, ns.getLast h, e, ?_⟩
  have q := atI_last (iv ns.dropLast) (.int ((ns.getLast h : Nat) : Int))
  rw [← iv_app, ← e] at q
  exact q
section
variable {P : Program} {w : World} {K : PySem.W.Frag} {mg : Str → Option Value} {base : Heap} {Z : Cs}
def spNumbers (K : PySem.W.Frag) (Z : Cs) : Sp := fun vs H Q _ => ∃ (wp t a : Addr) (nm : Str) (ws : List Str) (ns : List Nat), vs = [.ref wp, .ref a] ∧ WkAt Z H wp t nm ws ∧ Good ws ∧ SqA K H a ((ns.map (wd ws)).map V.str) ∧ Asc ns ws.length ∧
  ∀ n H', Same H H' → H n = none → H' n = some (.tup (iv ns)) → Q (.ref n) H'
theorem ok_numbers (B : Bn mg) (T : Tw K mg Z) (Cis_row : Cal P w K mg base 1 "is_row" ["thing"] (spIsRow K)) (Cis_word : Cal P w K mg base 1 "is_word" ["thing"] (spIsWord K)) (D : Def K mg "numbers_of" snumbers_of) :
    Cal P w K mg base 2 "numbers_of" ["work", "things"] (spNumbers K Z) := by
  refine Cal.of D scnumbers_of (fun _ _ _ _ _ _ us hl => match us, hl with | [_, _], _ => rfl) (fun vs H Q E h => ?_) (fun f cdv A outer s H vs Q E hr h => ?_)
  · obtain ⟨_, _, _, _, _, _, rfl, _⟩ := h; rfl
  · obtain ⟨wp, t, a, nm, ws, ns, rfl, W0, G, hS, As, k⟩ := h
    have hlen : ns.length ≤ 100 := Nat.le_trans As.len G.le
    have hlm : ((ns.map (wd ws)).map V.str).length = ns.length := by rw [List.length_map, List.length_map]
    refine ⟨_, (pss_cons (ps_if (pt_not (pt_val (pe_fn Cis_row hr (by decide) (pa_cons (pv 1) pa_nil)))) (pss_one ps_never) pss_nil)
      (pss_cons (ps_set (i := 2) scnumbers_of.nd rfl (Or.inl rfl) (pe_lst pa_nil))
      (pss_cons (ps_for PassesOwn.never rfl (q_enum K B.enumerate (pa_cons (pv 1) pa_nil)) (pg_tup rfl (pgs_cons (pg_name (i := 3) scnumbers_of.nd rfl (Or.inl rfl)) (pgs_cons (pg_name (i := 4) scnumbers_of.nd rfl (Or.inr rfl)) pgs_nil))) (pss_cons (ps_if (pt_not (pt_val (pe_fn Cis_word hr (by decide) (pa_cons (pv 4) pa_nil)))) (pss_one ps_never) pss_nil)
      (pss_cons (ps_setLc (i := 5) (own := [("at", 6), ("word", 7)]) (g := (gTup K 2 (gCons (gName 6) (gCons (gName 7) gNil)))) rfl scnumbers_of.nd rfl rfl (sw_true rfl rfl rfl (by decide +kernel)) (q_enum K B.enumerate (pa_cons (e_fld K (pv 0)) pa_nil)) (blkOk_by (own := [("at", 6), ("word", 7)]) (N := ["work", "things", "found", "index", "thing", "numbers", "at", "word"]) (sc := defScope snumbers_of) (by decide +kernel)) (fun _ _ _ _ _ => (pg_tup rfl (pgs_cons (pg_name (i := 6) scnumbers_of.nd rfl (Or.inl rfl) (.inr rfl)) (pgs_cons (pg_name (i := 7) scnumbers_of.nd rfl (Or.inl rfl) (.inr rfl)) pgs_nil)))) (fun _ _ _ _ _ => (pts_one (pt_cmpR op_eq (pv 7) (pv 4) (nomark _)))) (fun _ _ _ _ _ => (pv 6)))
      (pss_cons (ps_if (PW.pt (pw_or (pt_cmpR (o_eqD K hr.units) (pv 5) (pe_lst pa_nil) (nomark _)) (pw_or1 (PW.pt (pw_and (pt_cmpR (o_neD K hr.units) (pv 2) (pe_lst pa_nil) (nomark _)) (pw_and1 (pt_cmpR op_le (pe_ix (x_list K) (pv 5) pe_int (fun _ _ => rfl)) (pe_ix (x_list K) (pv 2) (pe_un un_neg pe_int) (fun _ _ => rfl)) (nomark _)))))))) (pss_one ps_never) pss_nil)
      (pss_one (ps_expr (e_bm K PySem.F.plainAttrs_list PySem.F.slot_list_append PySem.F.type_list_append mt_append (pv 2) (pa_cons (pe_ix (x_list K) (pv 5) pe_int (fun _ _ => rfl)) pa_nil))))))))
      (pss_one (ps_ret (pe_callTy (n_tuple K) (by rfl) B.tuple (by decide +kernel) (pa_cons (pv 2) pa_nil))))))), ?_⟩
    walk_at "go"
    refine ⟨_, true, rfl, row_sa hS, fun H1 S1 => ?_⟩
    walk_at "go"
    refine ⟨Nat.le_of_ble_eq_true rfl, fun l nl => ?_⟩
    walk_at "go"
    refine for_enum hS (fun i σ' H' => ∃ v3 v4 v5 v6 v7, σ' = [some (.ref wp), some (.ref a), some (.ref l), v3, v4, v5, v6, v7] ∧ Same H1 H' ∧ H' l = some (.lst (iv (ns.take i)))) ⟨_, _, _, _, _, rfl, Same.new (Same.refl H1) nl, upd_same⟩ ?_ ?_ ?_
    · rintro i σ' H' _ ⟨_, _, _, _, _, _, S2, _⟩ u hu
      exact rd_sm (S1.trans S2) hu
    · rintro i x σ' H2 T2 hi ⟨v3, v4, v5, v6, v7, rfl, S2, g⟩ nT hx
      obtain ⟨z, hz, rfl⟩ := map_get hx
      rw [List.getElem?_map] at hz
      obtain ⟨n, hn, rfl⟩ : ∃ n, ns[i]? = some n ∧ z = wd ws n := by
        cases e : ns[i]? with
        | none => rw [e] at hz; cases hz
        | some n => rw [e] at hz; exact ⟨n, rfl, (Option.some.inj hz).symm⟩
      have hnl : n < ws.length := As.lt n (List.mem_of_getElem? hn)
      have hwz := G.wd _ (wd_mem hnl)
      walk_at "go"
      refine ⟨_, rfl, .inl ⟨wd ws n, rfl, isW_len hwz⟩, fun H3 S3 => ?_⟩
      rw [show wordV (.str (wd ws n)) = true from hwz]
      have S23 : Same H2 H3 := (Same.new (Same.refl H2) nT).trans S3
      have S03 : Same H H3 := (S1.trans S2).trans S23
      have W3 : WkAt Z H3 wp t nm ws := W0.sm S03
      have g3 := S23 _ _ g
      walk_at "go"
      refine lc_enum (sa_t W3.2) (fun u hu => hu) (fun D j H' => Same H3 H' ∧ H' D = some (.lst ((if n < j then [(n : Int)] else []).map V.int))) (fun D nD => ⟨Same.new (Same.refl _) nD, upd_same⟩) ?_ ?_ ?_
      · rintro D j H' _ _ ⟨S4, _⟩ u hu
        exact rd_sm S4 hu
      · rintro D j y H4 T4 nD hj ⟨S4, g4⟩ nT4 hy
        obtain ⟨q, hq, rfl⟩ := map_get hy
        have hjl : j < ws.length := by rw [List.length_map] at hj; exact hj
        have eq : q = wd ws j := Option.some.inj (hq.symm.trans (wd_get hjl))
        subst eq
        walk_at "go"
        refine k_dec (fun h => ?_) (fun h => ?_)
        · have ej := wd_inj G.nd hjl hnl h
          subst ej
          rw [if_neg (Nat.lt_irrefl _)] at g4
          walk_at "go"
          refine ⟨_, upd_new g4 nT4, sz (by walk_at "ln"), Same.mut (Same.new S4 nT4) nD, ?_⟩
          rw [upd_same, if_pos (Nat.lt_succ_self _)]
          rfl
        · have ej : n ≠ j := fun e => h (by rw [e])
          refine ⟨Same.new S4 nT4, ?_⟩
          have e : (if n < j + 1 then [(n : Int)] else []) = (if n < j then [(n : Int)] else []) := by
            by_cases q : n < j
            · rw [if_pos q, if_pos (by omega)]
            · rw [if_neg q, if_neg (by omega)]
          rw [e]
          exact upd_new g4 nT4
      · rintro D H4 nD ⟨S4, g4⟩
        rw [List.length_map, if_pos hnl] at g4
        have g4' : H4 l = some (.lst (iv (ns.take i))) := S4 _ _ g3
        walk_at "go"
        refine ⟨Nat.le_of_ble_eq_true rfl, fun e1 ne1 => ?_⟩
        refine k_eqLI (ws := [(n : Int)]) (us := []) (upd_new g4 ne1) upd_same ?_
        walk_at "go"
        rw [decide_eq_false (show ¬ ([(n : Int)] = []) by simp)]
        walk_at "go"
        refine ⟨Nat.le_of_ble_eq_true rfl, fun e2 ne2 => ?_⟩
        refine k_neLI (ws := (ns.take i).map fun m : Nat => (m : Int)) (us := []) (upd_new (upd_new g4' ne1) ne2) upd_same ?_
        walk_at "go"
        have fin : ∀ H5, Same H4 H5 → H5 l = some (.lst (iv (ns.take i))) → H5 D = some (.lst ([(n : Int)].map V.int)) → Same H1 (upd H5 l (.lst (iv (ns.take i) ++ [.int (n : Nat)]))) := fun H5 S5 _ _ => Same.mut (((S2.trans S23).trans S4).trans S5) nl
        have S5 : Same H4 (upd (upd H4 e1 (.lst [])) e2 (.lst [])) := Same.new (Same.new (Same.refl _) ne1) ne2
        have hlt : (iv (ns.take i)).length < 10000 := by
          rw [iv_len]
          have := List.length_take_le' i ns
          omega
        by_cases h0 : (ns.take i).map (fun m : Nat => (m : Int)) = []
        · rw [decide_eq_true h0]
          walk_at "go"
          refine ⟨_, _, _, _, _, rfl, fin _ S5 (by walk_at "gt") (by walk_at "gt"), ?_⟩
          rw [upd_same, take_succ hn, iv_app]
        · rw [decide_eq_false h0]
          have h0' : ns.take i ≠ [] := fun e => h0 (by rw [e]; rfl)
          obtain ⟨ys, lst, hys, hat⟩ := last_of h0'
          have hlt2 : lst < n := asc_take As hn lst (by rw [hys]; simp)
          walk_at "go"
          refine k_dec (fun h => absurd h (by omega)) (fun h => ?_)
          walk_at "go"
          refine ⟨_, _, _, _, _, rfl, fin _ S5 (by walk_at "gt") (by walk_at "gt"), ?_⟩
          rw [upd_same, take_succ hn, iv_app]
    · rintro σ' H2 ⟨v3, v4, v5, v6, v7, rfl, S2, g⟩
      rw [hlm, List.take_length] at g
      walk_at "go"
      refine k_tupl (sl_of g) fun t nt => ?_
      exact k t _ (Same.new (S1.trans S2) nt) ((S1.trans S2).free nt) upd_same

def spEdInit (K : PySem.W.Frag) (Z : Cs) : Sp := fun vs H Q _ => ∃ (p dx wp t a : Addr) (nm : Str) (ws : List Str) (ns : List Nat), vs = [.ref p, .ref wp, .ref a] ∧ H p = some (.ins Z.E dx []) ∧ WkAt Z H wp t nm ws ∧ Good ws ∧ SqA K H a ((ns.map (wd ws)).map V.str) ∧ Asc ns ws.length ∧ p ≠ wp ∧
  ∀ n H', Fr p H H' → H n = none → EdAt Z H' p n wp ns → Q .non H'
theorem ok_ed_init (T : Tw K mg Z) (Cnumbers_of : Cal P w K mg base 2 "numbers_of" ["work", "things"] (spNumbers K Z)) (D : DefM K Z.E "__init__" "Edition.__init__" sEdition___init__) :
    CalM P w K mg base 3 Z.E "__init__" ["self", "work", "passages"] (spEdInit K Z) := by
  refine CalM.of D scEdition___init__ (fun _ _ _ _ _ _ us hl => match us, hl with | [_, _, _], _ => rfl) (fun vs H Q E h => ?_) (fun f cdv A outer s H vs Q E hr h => ?_)
  · obtain ⟨_, _, _, _, _, _, _, _, rfl, _⟩ := h; rfl
  · obtain ⟨p, dx, wp, t, a, nm, ws, ns, rfl, hp, W0, G, hS, As, npw, k⟩ := h
    refine ⟨_, (pss_cons (t_fld K (pv 0) (pv 1))
      (pss_one (t_fld K (pv 0) (pe_fn Cnumbers_of hr (by decide) (pa_cons (pv 1) (pa_cons (pv 2) pa_nil)))))), ?_⟩
    walk_at "go"
    refine k_put hp T.clE T.nWork (Nat.le_of_ble_eq_true rfl) ?_
    walk_at "go"
    have W1 : WkAt Z (upd H p (.ins Z.E dx (putF "work" (.ref wp) []))) wp t nm ws := by
      obtain ⟨⟨dw, h1⟩, h2⟩ := W0
      exact ⟨⟨dw, upd_old h1 npw.symm⟩, upd_old h2 (ne_of h2 hp (by intro z; cases z))⟩
    refine ⟨wp, t, a, nm, ws, ns, rfl, W1, G, sa_ins hp hS, As, fun n H2 S2 nn hn => ?_⟩
    walk_at "go"
    have hp2 := S2 _ _ (upd_same (H := H) (a := p) (o := .ins Z.E dx (putF "work" (.ref wp) [])))
    refine k_put hp2 T.clE T.nNums (Nat.le_of_ble_eq_true rfl) ?_
    have npn : p ≠ n := ne_of_none upd_same nn
    refine k n _ (fun b o nb hb => ?_) (new_none nn) ⟨⟨dx, upd_same⟩, ?_⟩
    · rw [upd_ne nb]
      exact S2 _ _ (by rw [upd_ne nb]; exact hb)
    · rw [upd_ne npn.symm]; exact hn
/-- Edition(work, passages) -/
theorem mk_ed {H : Hp} {Q : VK} {wp t a : Addr} {nm : Str} {ws : List Str} {ns : List Nat} (W0 : WkAt Z H wp t nm ws) (G : Good ws) (hS : SqA K H a ((ns.map (wd ws)).map V.str)) (As : Asc ns ws.length)
    (k : ∀ p n H', Same H H' → H p = none → EdAt Z H' p n wp ns → Q (.ref p) H') :
    MkB Z.E (spEdInit K Z) [.ref wp, .ref a] H Q := by
  intro x dx nx ndx ne
  have S1 : Same H (upd (upd H dx (.own x)) x (.ins Z.E dx [])) := fun b o hb => by
    rw [upd_ne (ne_of_none hb nx), upd_ne (ne_of_none hb ndx)]; exact hb
  obtain ⟨⟨dw, hw⟩, _⟩ := id W0
  refine ⟨x, dx, wp, t, a, nm, ws, ns, rfl, upd_same, W0.sm S1, G, sa_sm S1 hS, As, (ne_of_none hw nx).symm, fun n H' F _ hE => ⟨rfl, k x n H' (fun b o hb => F _ _ (ne_of_none hb nx) (S1 _ _ hb)) nx hE⟩⟩
theorem mk_work {H : Hp} {Q : VK} {a : Addr} {nm : Str} {ws : List Str} (hn : isW nm = true) (G : Good ws) (hS : SqA K H a (ws.map V.str))
    (k : ∀ p t H', Same H H' → H p = none → WkAt Z H' p t nm ws → Q (.ref p) H') :
    MkB Z.W (spWorkInit K Z) [.str nm, .ref a] H Q := by
  intro x dx nx ndx ne
  have S1 : Same H (upd (upd H dx (.own x)) x (.ins Z.W dx [])) := fun b o hb => by
    rw [upd_ne (ne_of_none hb nx), upd_ne (ne_of_none hb ndx)]; exact hb
  exact ⟨x, dx, a, nm, ws, rfl, upd_same, hn, sa_sm S1 hS, G, fun t H' F _ hW => ⟨rfl, k x t H' (fun b o hb => F _ _ (ne_of_none hb nx) (S1 _ _ hb)) nx hW⟩⟩
def spEditionOf (K : PySem.W.Frag) (Z : Cs) : Sp := fun vs H Q _ => ∃ (wp t a : Addr) (nm : Str) (ws : List Str) (ns : List Nat), vs = [.ref wp, .ref a] ∧ WkAt Z H wp t nm ws ∧ Good ws ∧ SqA K H a (iv ns) ∧ Asc ns ws.length ∧
  ∀ p n H', Same H H' → H p = none → EdAt Z H' p n wp ns → Q (.ref p) H'
theorem iv_get {ns : List Nat} {i : Nat} {x : V} (h : (iv ns)[i]? = some x) : ∃ n, ns[i]? = some n ∧ x = .int (n : Nat) := by
  unfold iv at h
  obtain ⟨z, hz, rfl⟩ := map_get h
  rw [List.getElem?_map] at hz
  cases e : ns[i]? with
  | none => rw [e] at hz; cases hz
  | some n => rw [e] at hz; exact ⟨n, rfl, by rw [← Option.some.inj hz]⟩
theorem ok_edition_of (T : Tw K mg Z) (CEdition : CalC P w K mg base 3 "Edition" Z.E ["self", "work", "passages"] (spEdInit K Z)) (D : Def K mg "edition_of" sedition_of) :
    Cal P w K mg base 5 "edition_of" ["work", "numbers"] (spEditionOf K Z) := by
  refine Cal.of D scedition_of (fun _ _ _ _ _ _ us hl => match us, hl with | [_, _], _ => rfl) (fun vs H Q E h => ?_) (fun f cdv A outer s H vs Q E hr h => ?_)
  · obtain ⟨_, _, _, _, _, _, rfl, _⟩ := h; rfl
  · obtain ⟨wp, t, a, nm, ws, ns, rfl, W0, G, hS, As, k⟩ := h
    have hlen : ns.length ≤ 100 := Nat.le_trans As.len G.le
    refine ⟨_, (pss_one (ps_ret (pe_mk CEdition hr (by decide) (pa_cons (pv 0) (pa_cons (pe_lc (own := [("number", 2)]) (g := (gName 2)) rfl scedition_of.nd (q_seq K (pv 1)) (blkOk_by (own := [("number", 2)]) (N := ["work", "numbers", "number"]) (sc := defScope sedition_of) (by decide +kernel)) (fun _ _ _ _ _ => (pg_name (i := 2) scedition_of.nd rfl (Or.inl rfl) (.inr rfl))) (fun _ _ _ _ _ => pts_nil) (fun _ _ _ _ _ => (pe_ix (x_tup K) (e_fld K (pv 0)) (pv 2) (fun _ _ => rfl)))) pa_nil))))), ?_⟩
    walk_at "go"
    refine lc_seq hS (fun u hu => hu) (fun D i H' => Same H H' ∧ H' D = some (.lst (((ns.take i).map (wd ws)).map V.str))) (fun D nD => ⟨Same.new (Same.refl _) nD, upd_same⟩) ?_ ?_ ?_
    · rintro D i H' _ _ ⟨S1, _⟩ u hu
      exact rd_sm S1 hu
    · rintro D i x H' nD hi ⟨S1, g1⟩ hx
      obtain ⟨n, hn, rfl⟩ := iv_get hx
      have hnl : n < ws.length := As.lt n (List.mem_of_getElem? hn)
      have W1 := W0.sm S1
      have hat : atI (ws.map V.str) (n : Int) = some (.str (wd ws n)) := atI_nat (by rw [List.getElem?_map, wd_get hnl]; rfl)
      have hrow := W1.2
      walk_at "go"
      refine ⟨_, g1, sz ?_, Same.mut S1 nD, ?_⟩
      · rw [List.length_map, List.length_map]
        have := List.length_take_le' i ns
        omega
      · rw [upd_same, take_succ hn, List.map_append, List.map_append]; rfl
    · rintro D H' nD ⟨S1, g1⟩
      rw [iv_len, List.take_length] at g1
      walk_at "go"
      exact mk_ed (W0.sm S1) G (sa_l g1) As fun p n H2 S2 np hE => k p n H2 (S1.trans S2) (S1.free np) hE
def spWhole (Z : Cs) : Sp := fun vs H Q _ => ∃ (wp t : Addr) (nm : Str) (ws : List Str), vs = [.ref wp] ∧ WkAt Z H wp t nm ws ∧ Good ws ∧
  ∀ p n H', Same H H' → H p = none → EdAt Z H' p n wp (List.range ws.length) → Q (.ref p) H'
theorem range_asc (n : Nat) : Asc (List.range n) n := ⟨List.pairwise_lt_range, fun x hx => List.mem_range.mp hx⟩
theorem range_wd (ws : List Str) : (List.range ws.length).map (wd ws) = ws := by
  apply List.ext_getElem?
  intro i
  rw [List.getElem?_map]
  by_cases h : i < ws.length
  · rw [List.getElem?_range h]
    exact (wd_get h).symm
  · rw [List.getElem?_eq_none (by rw [List.length_range]; omega), List.getElem?_eq_none (by omega)]
    rfl
theorem ok_whole (T : Tw K mg Z) (CEdition : CalC P w K mg base 3 "Edition" Z.E ["self", "work", "passages"] (spEdInit K Z)) (D : DefM K Z.W "whole" "Work.whole" sWork_whole) :
    CalM P w K mg base 5 Z.W "whole" ["self"] (spWhole Z) := by
  refine CalM.of D scWork_whole (fun _ _ _ _ _ _ us hl => match us, hl with | [_], _ => rfl) (fun vs H Q E h => ?_) (fun f cdv A outer s H vs Q E hr h => ?_)
  · obtain ⟨_, _, _, _, rfl, _⟩ := h; rfl
  · obtain ⟨wp, t, nm, ws, rfl, W0, G, k⟩ := h
    refine ⟨_, (pss_one (ps_ret (pe_mk CEdition hr (by decide) (pa_cons (pv 0) (pa_cons (e_fld K (pv 0)) pa_nil))))), ?_⟩
    walk_at "go"
    exact mk_ed W0 G (sa_t (by rw [range_wd]; exact W0.2)) (range_asc _) k
end
end Lf

set_option Elab.async false
set_option linter.all false
set_option maxRecDepth 100000
set_option maxHeartbeats 2000000
/-! The methods of editions. -/
namespace Lf
open PySem L2
local macro_rules | `(tactic| walk_at "nq") => `(tactic| first | with_reducible assumption | with_reducible exact Ne.symm (by assumption) | with_reducible exact ne_of_none (by assumption) (by assumption) | with_reducible exact Ne.symm (ne_of_none (by assumption) (by assumption)))
local macro_rules | `(tactic| walk_at "gt") => `(tactic| first | with_reducible assumption | with_reducible exact upd_same | ((with_reducible refine' upd_new ?ha ?hb); (case hb => with_reducible assumption); (case ha => walk_at "gt")) | ((with_reducible refine' upd_old ?ha ?hb); (case hb => walk_at "nq"); (case ha => walk_at "gt")) | ((with_reducible refine' sm_get ?hb ?ha); (case hb => with_reducible assumption); (case ha => walk_at "gt")) | ((with_reducible refine' fr_get ?hb ?ha ?hc); (case hb => with_reducible assumption); (case hc => walk_at "nq"); (case ha => walk_at "gt")))
local macro_rules | `(tactic| walk_at "sl") => `(tactic| first | with_reducible assumption | ((with_reducible refine' sl_of ?ha); (case ha => walk_at "gt")) | ((with_reducible refine' sl_new ?ha ?hb); (case hb => with_reducible assumption); (case ha => walk_at "sl")) | ((with_reducible refine' sl_sm ?hb ?ha); (case hb => with_reducible assumption); (case ha => walk_at "sl")) | ((with_reducible refine' sl_fr ?hb ?hc ?ha); (case hb => with_reducible assumption); (case hc => walk_at "nq"); (case ha => walk_at "sl")))
local macro_rules | `(tactic| walk_at "st") => `(tactic| first | with_reducible assumption | ((with_reducible refine' st_of ?ha); (case ha => walk_at "gt")) | ((with_reducible refine' st_new ?ha ?hb); (case hb => with_reducible assumption); (case ha => walk_at "st")) | ((with_reducible refine' st_sm ?hb ?ha); (case hb => with_reducible assumption); (case ha => walk_at "st")) | ((with_reducible refine' st_fr ?hb ?hc ?ha); (case hb => with_reducible assumption); (case hc => walk_at "nq"); (case ha => walk_at "st")))
local macro_rules | `(tactic| walk_at "sa") => `(tactic| first | with_reducible assumption | ((with_reducible refine' sa_l ?ha); (case ha => walk_at "gt")) | ((with_reducible refine' sa_t ?ha); (case ha => walk_at "gt")) | ((with_reducible refine' sa_new ?ha ?hb); (case hb => with_reducible assumption); (case ha => walk_at "sa")) | ((with_reducible refine' sa_sm ?hb ?ha); (case hb => with_reducible assumption); (case ha => walk_at "sa")) | ((with_reducible refine' sa_fr ?hb ?hc ?ha); (case hb => with_reducible assumption); (case hc => walk_at "nq"); (case ha => walk_at "sa")) | ((with_reducible refine' Or.inl ?ha); (case ha => walk_at "sl")) | ((with_reducible refine' Or.inr ?ha); (case ha => walk_at "st")))
local macro_rules | `(tactic| walk_at "ln") => `(tactic| first | decide | omega | exact Nat.le_of_ble_eq_true rfl | (simp only [List.length_append, List.length_map, List.length_cons, List.length_nil, List.length_flatMap]; omega))
local macro_rules | `(tactic| walk_at "ty") => `(tactic| first | with_reducible assumption | with_reducible exact .base (.int _) | with_reducible exact .base (.str _) | with_reducible exact .base (.bl _) | with_reducible exact .base .non | ((with_reducible refine' TyX.base (TyOf.lst ?ha)); (case ha => walk_at "gt")) | ((with_reducible refine' TyX.base (TyOf.tup ?ha)); (case ha => walk_at "gt")) | ((with_reducible refine' TyX.base (TyOf.dK ?ha)); (case ha => walk_at "gt")) | ((with_reducible refine' ty_new ?ha ?hb); (case hb => with_reducible assumption); (case ha => walk_at "ty")) | ((with_reducible refine' ty_sm ?hb ?ha); (case hb => with_reducible assumption); (case ha => walk_at "ty")))
local macro_rules | `(tactic| walk_at "kb") => `(tactic| first | with_reducible assumption | exact kb_str_str | exact kb_int_str | exact kb_list_str | exact kb_tuple_str | exact kb_bool_str | exact kb_NoneType_str | exact kb_dict_str | exact kb_str_int | exact kb_int_int | exact kb_list_int | exact kb_tuple_int | exact kb_bool_int | exact kb_NoneType_int | exact kb_dict_int | exact kb_str_bool | exact kb_int_bool | exact kb_list_bool | exact kb_tuple_bool | exact kb_bool_bool | exact kb_NoneType_bool | exact kb_dict_bool | exact kb_str_list | exact kb_int_list | exact kb_list_list | exact kb_tuple_list | exact kb_bool_list | exact kb_NoneType_list | exact kb_dict_list | exact kb_str_tuple | exact kb_int_tuple | exact kb_list_tuple | exact kb_tuple_tuple | exact kb_bool_tuple | exact kb_NoneType_tuple | exact kb_dict_tuple | exact kb_str_dict | exact kb_int_dict | exact kb_list_dict | exact kb_tuple_dict | exact kb_bool_dict | exact kb_NoneType_dict | exact kb_dict_dict)
local macro_rules | `(tactic| walk_at "wk") => `(tactic| first | with_reducible assumption | ((with_reducible refine' WkAt.new ?ha ?hb); (case hb => with_reducible assumption); (case ha => walk_at "wk")) | ((with_reducible refine' WkAt.sm ?hb ?ha); (case hb => with_reducible assumption); (case ha => walk_at "wk")) | ((with_reducible refine' WkAt.dr ?hb ?hc ?ha); (case hb => with_reducible assumption); (case hc => with_reducible assumption); (case ha => walk_at "wk")))
local macro_rules | `(tactic| walk_at "ed") => `(tactic| first | with_reducible assumption | ((with_reducible refine' EdAt.new ?ha ?hb); (case hb => with_reducible assumption); (case ha => walk_at "ed")) | ((with_reducible refine' EdAt.sm ?hb ?ha); (case hb => with_reducible assumption); (case ha => walk_at "ed")) | ((with_reducible refine' EdAt.dr ?hb ?hc ?ha); (case hb => with_reducible assumption); (case hc => with_reducible assumption); (case ha => walk_at "ed")))
local macro_rules | `(tactic| walk_at "fl") => `(tactic| first | with_reducible assumption | ((with_reducible refine' WkAt.rows ?hT ?hW); (case hT => assumption); (case hW => walk_at "wk")) | ((with_reducible refine' WkAt.name ?hT ?hW); (case hT => assumption); (case hW => walk_at "wk")) | ((with_reducible refine' EdAt.work ?hT ?hW); (case hT => assumption); (case hW => walk_at "ed")) | ((with_reducible refine' EdAt.nums ?hT ?hW); (case hT => assumption); (case hW => walk_at "ed")))
local macro_rules | `(tactic| walk_at "mt") => `(tactic| first | with_reducible assumption | ((with_reducible refine' WkAt.mt ?hn1 ?hn2 ?hW); (case hW => walk_at "wk"); (case hn1 => decide +kernel); (case hn2 => decide +kernel)) | ((with_reducible refine' EdAt.mt ?hn1 ?hn2 ?hW); (case hW => walk_at "ed"); (case hn1 => decide +kernel); (case hn2 => decide +kernel)))
local macro_rules | `(tactic| walk_at "is") => `(tactic| first | with_reducible assumption | ((with_reducible refine' WkAt.is ?hW); (case hW => walk_at "wk")) | ((with_reducible refine' EdAt.is ?hW); (case hW => walk_at "ed")))
local macro_rules | `(tactic| walk_at "ic") => `(tactic| first
  | ((with_reducible show CMul _ _); first | exact Or.inl ⟨by decide, by decide⟩ | exact Or.inr ⟨by decide, by decide⟩ | exact Or.inl ⟨by omega, by omega⟩ | exact Or.inr ⟨by omega, by omega⟩)
  | ((with_reducible show CDiv _ _); first | exact ⟨by decide, by decide⟩ | exact ⟨by omega, by omega⟩)
  | ((with_reducible show CPow _ _); first | exact ⟨by decide, by decide, by decide⟩ | exact ⟨by decide, by decide, by omega⟩)
  | (show (0 : Int) < _; first | decide | omega))
local macro_rules | `(tactic| walk_at "s1") => `(tactic| first
  | with_reducible refine k_seq ?_
  | with_reducible refine k_set ?_
  | with_reducible refine k_asg ?_
  | with_reducible refine k_par ?_
  | with_reducible refine k_par2 ?_
  | with_reducible refine k_drop ?_
  | with_reducible refine k_ret ?_
  | with_reducible refine k_next ?_
  | with_reducible refine k_if ?_
  | ((with_reducible refine' k_aug ?hv ?_); (case hv => exact rfl))
  | with_reducible refine k_ipI ?_
  | with_reducible refine k_gname ?_
  | with_reducible refine k_gsub ?_
  | ((with_reducible refine' k_gtup ?hv ?hw ?_); (case hv => walk_at "st"); (case hw => rfl))
  | with_reducible refine k_gcons ?_
  | with_reducible refine k_gnil ?_
  | with_reducible refine k_test ?_
  | with_reducible refine k_B ?_
  | with_reducible refine k_blE ?_
  | with_reducible refine k_and ?_
  | with_reducible refine k_or ?_
  | with_reducible refine k_not ?_
  | with_reducible refine iteT ?_
  | with_reducible refine iteF ?_
  | with_reducible refine iteNT ?_
  | with_reducible refine iteNF ?_
  | ((with_reducible refine' k_var ?hv ?_); (case hv => exact rfl))
  | with_reducible refine k_c ?_
  | with_reducible refine k_op ?_
  | with_reducible refine k_un ?_
  | with_reducible refine k_U ?_
  | with_reducible refine k_I0 ?_
  | ((with_reducible refine' k_I ?hv ?_); (case hv => walk_at "ic"))
  | with_reducible refine k_eqI ?_
  | with_reducible refine k_neI ?_
  | with_reducible refine k_eqS ?_
  | with_reducible refine k_neS ?_
  | with_reducible refine k_eqB ?_
  | with_reducible refine k_neB ?_
  | with_reducible refine k_for ?_
  | with_reducible refine k_iE ?_
  | with_reducible refine k_iA ?_
  | ((with_reducible refine' k_itl ?hv ?_); (case hv => walk_at "sl"))
  | ((with_reducible refine' k_itt ?hv ?_); (case hv => walk_at "st"))
  | with_reducible refine k_its ?_
  | ((with_reducible refine' k_rg1n ?hv ?_); (case hv => first | decide | omega))
  | ((with_reducible refine' k_rg1 ?hv ?hw ?_); (case hv => first | decide | omega); (case hw => first | decide | omega))
  | ((with_reducible refine' k_inS ?hv ?_); (case hv => walk_at "sa"))
  | ((with_reducible refine' k_inI ?hv ?_); (case hv => walk_at "sa"))
  | ((with_reducible refine' k_ninS ?hv ?_); (case hv => walk_at "sa"))
  | ((with_reducible refine' k_ninI ?hv ?_); (case hv => walk_at "sa"))
  | ((with_reducible refine' k_zipl ?hv ?hw ?_); (case hv => walk_at "sl"); (case hw => walk_at "sl"))
  | with_reducible refine k_nil ?_
  | with_reducible refine k_cons ?_
  | with_reducible refine k_cb ?_
  | with_reducible refine k_call ?_
  | with_reducible refine k_lst ?_
  | with_reducible refine k_tup ?_
  | with_reducible refine k_ifx ?_
  | with_reducible refine k_andv ?_
  | with_reducible refine k_orv ?_
  | with_reducible refine k_notv ?_
  | with_reducible refine k_inti ?_
  | with_reducible refine k_intb ?_
  | with_reducible refine k_sl ?_
  | with_reducible refine k_nopart ?_
  | with_reducible refine k_part ?_
  | with_reducible refine k_parti ?_
  | ((with_reducible refine' k_lenl ?hv ?_); (case hv => walk_at "sl"))
  | ((with_reducible refine' k_lent ?hv ?_); (case hv => walk_at "st"))
  | ((with_reducible refine' k_lens ?hv ?_); (case hv => exact szl (by walk_at "ln")))
  | ((with_reducible refine' k_lena ?hv ?_); (case hv => walk_at "sa"))
  | ((with_reducible refine' k_ixl ?hv ?hn ?_); (case hv => walk_at "sl"); (case hn => first | rfl | assumption))
  | ((with_reducible refine' k_ixt ?hv ?hn ?_); (case hv => walk_at "st"); (case hn => first | rfl | assumption))
  | ((with_reducible refine' k_ixa ?hv ?hn ?_); (case hv => walk_at "sa"); (case hn => first | rfl | assumption))
  | with_reducible refine k_chain ?_
  | ((with_reducible refine' k_isi ?hv ?hw ?_); (case hv => walk_at "ty"); (case hw => walk_at "kb"))
  | ((with_reducible refine' k_isi2 ?hb ?hp ?hv ?hw ?hx ?_); (case hp => walk_at "gt"); (case hv => walk_at "ty"); (case hw => walk_at "kb"); (case hx => walk_at "kb"); (case hb => first | exact or_t | exact or_f))
  | ((with_reducible refine' k_all ?hv ?_); (case hv => walk_at "gt"))
  | ((with_reducible refine' k_any ?hv ?_); (case hv => walk_at "gt"))
  | with_reducible refine k_insign ?_
  | with_reducible refine k_fldR ?_
  | ((with_reducible refine' k_fl ?hv ?_); (case hv => walk_at "fl"))
  | with_reducible refine k_sfld ?_
  | with_reducible refine k_meth ?_
  | ((with_reducible refine' k_mt ?hv ?_); (case hv => walk_at "mt"))
  | with_reducible refine k_make ?_
  | ((with_reducible refine' k_own ?hv ?hw ?_); (case hv => walk_at "is"); (case hw => walk_at "is"))
  | ((with_reducible refine' k_ownin ?hv ?_); (case hv => walk_at "is"))
  | ((with_reducible refine' k_lenO ?hv ?_); (case hv => walk_at "is"))
  | with_reducible refine k_lrg ?_
  | with_reducible refine k_rgt ?_
  | with_reducible refine k_rgti ?_
  | with_reducible refine k_bm ?_
  | with_reducible refine k_bm0 ?_
  | with_reducible refine k_tys ?_
  | ((with_reducible refine' k_tyl ?hv ?_); (case hv => walk_at "sl"))
  | ((with_reducible refine' k_ext ?hv ?hw ?hn ?_); (case hv => walk_at "gt"); (case hw => walk_at "gt"); (case hn => walk_at "ln"))
  | ((with_reducible refine' k_app ?hv ?hn ?_); (case hv => walk_at "gt"); (case hn => walk_at "ln"))
  | ((with_reducible refine' k_popat ?hv ?hn ?hw ?_); (case hv => walk_at "gt"); (case hn => with_reducible assumption); (case hw => walk_at "ln"))
  | with_reducible refine k_lc ?_
  | with_reducible refine k_yes0 ?_
  | ((with_reducible show wipe _ _ = wipe _ _ ∧ _); refine ⟨rfl, ?_⟩)
  | ((with_reducible refine' k_adds ?hv ?_); (case hv => walk_at "ln"))
  | ((with_reducible refine' k_st1 ?hv ?_); (case hv => walk_at "gt"))
  | ((with_reducible refine' k_st2 ?hv ?_); (case hv => walk_at "gt"))
  | ((with_reducible refine' k_st3 ?hv ?_); (case hv => walk_at "gt"))
  | ((with_reducible refine' k_setl ?hv ?hn ?_); (case hv => walk_at "gt"); (case hn => rfl)))
local macro_rules | `(tactic| walk_at "put") => `(tactic| ((refine' ⟨_, ?ha, sz ?hb, ?_⟩); (case ha => walk_at "gt"); (case hb => walk_at "ln")))
local macro_rules | `(tactic| walk_at "go") => `(tactic| repeat (walk_at "s1"))

abbrev sEdition___len__ : Stmt := inClass (top 20) 2
theorem scEdition___len__ : FnScope ["self"] ["self"] (defScope sEdition___len__) := ⟨rfl, rfl, rfl, by decide +kernel, rfl, by decide +kernel, by decide +kernel⟩
abbrev sEdition___contains__ : Stmt := inClass (top 20) 3
theorem scEdition___contains__ : FnScope ["self", "word", "number"] ["self", "word"] (defScope sEdition___contains__) := ⟨rfl, rfl, rfl, by decide +kernel, rfl, by decide +kernel, by decide +kernel⟩
abbrev sEdition___and__ : Stmt := inClass (top 20) 5
theorem scEdition___and__ : FnScope ["self", "other", "number"] ["self", "other"] (defScope sEdition___and__) := ⟨rfl, rfl, rfl, by decide +kernel, rfl, by decide +kernel, by decide +kernel⟩
abbrev sEdition___or__ : Stmt := inClass (top 20) 6
theorem scEdition___or__ : FnScope ["self", "other", "many", "at"] ["self", "other"] (defScope sEdition___or__) := ⟨rfl, rfl, rfl, by decide +kernel, rfl, by decide +kernel, by decide +kernel⟩
abbrev sEdition___sub__ : Stmt := inClass (top 20) 7
theorem scEdition___sub__ : FnScope ["self", "other", "number"] ["self", "other"] (defScope sEdition___sub__) := ⟨rfl, rfl, rfl, by decide +kernel, rfl, by decide +kernel, by decide +kernel⟩
abbrev sEdition___le__ : Stmt := inClass (top 20) 8
theorem scEdition___le__ : FnScope ["self", "other", "number"] ["self", "other"] (defScope sEdition___le__) := ⟨rfl, rfl, rfl, by decide +kernel, rfl, by decide +kernel, by decide +kernel⟩
abbrev sEdition_cut_behind : Stmt := inClass (top 20) 10
theorem scEdition_cut_behind : FnScope ["self", "count"] ["self", "count"] (defScope sEdition_cut_behind) := ⟨rfl, rfl, rfl, by decide +kernel, rfl, by decide +kernel, by decide +kernel⟩
abbrev sEdition_count_at : Stmt := inClass (top 20) 11
theorem scEdition_count_at : FnScope ["self", "cut", "number"] ["self", "cut"] (defScope sEdition_count_at) := ⟨rfl, rfl, rfl, by decide +kernel, rfl, by decide +kernel, by decide +kernel⟩
abbrev sEdition_kernel : Stmt := inClass (top 20) 12
theorem scEdition_kernel : FnScope ["self", "cut"] ["self", "cut"] (defScope sEdition_kernel) := ⟨rfl, rfl, rfl, by decide +kernel, rfl, by decide +kernel, by decide +kernel⟩
theorem mem_iv (n : Nat) (ms : List Nat) : decide ((n : Int) ∈ ms.map fun m : Nat => (m : Int)) = decide (n ∈ ms) := by
  rw [decide_eq_decide]
  constructor
  · intro h
    obtain ⟨m, hm, e⟩ := List.mem_map.mp h
    have : m = n := by omega
    rw [← this]; exact hm
  · intro h
    exact List.mem_map.mpr ⟨n, h, rfl⟩
theorem filter_take {f : Nat → Bool} {l : List Nat} {i x : Nat} (h : l[i]? = some x) : (l.take (i + 1)).filter f = (l.take i).filter f ++ (if f x = true then [x] else []) := by
  rw [take_succ h, List.filter_append]
  congr 1
  by_cases q : f x = true
  · rw [if_pos q, List.filter_cons_of_pos q]; rfl
  · rw [if_neg q, List.filter_cons_of_neg q]; rfl
theorem Asc.filter {ns : List Nat} {m : Nat} (A : Asc ns m) (f : Nat → Bool) : Asc (ns.filter f) m := ⟨A.up.filter f, fun x hx => A.lt x (List.mem_filter.mp hx).1⟩
theorem filt_len {f : Nat → Bool} {l : List Nat} {i : Nat} (h : l.length ≤ 100) : (iv ((l.take i).filter f)).length < 100000 := by
  rw [iv_len]
  have h1 := List.length_filter_le f (l.take i)
  have h2 := List.length_take_le' i l
  omega
/-- the cut behind the first c passages -/
def cutB (ns : List Nat) (c : Nat) : Nat := if c = 0 then 0 else ns.getD (c - 1) 0 + 1
/-- how many passages stand ahead of a cut -/
def cntA (ns : List Nat) (k : Nat) : Nat := (ns.filter fun n => decide (n < k)).length
theorem cntA_le (ns : List Nat) (k : Nat) : cntA ns k ≤ ns.length := List.length_filter_le _ _
def kern (ns : List Nat) (k : Nat) : Nat := cutB ns (cntA ns k)
section
variable {P : Program} {w : World} {K : PySem.W.Frag} {mg : Str → Option Value} {base : Heap} {Z : Cs}
def spEdLen (Z : Cs) : Sp := fun vs H Q _ => ∃ (p n wp : Addr) (ns : List Nat), vs = [.ref p] ∧ EdAt Z H p n wp ns ∧ Q (.int (ns.length : Nat)) H
theorem ok_ed_len (B : Bn mg) (T : Tw K mg Z) (D : DefM K Z.E "__len__" "Edition.__len__" sEdition___len__) : CalM P w K mg base 1 Z.E "__len__" ["self"] (spEdLen Z) := by
  refine CalM.of D scEdition___len__ (fun _ _ _ _ _ _ us hl => match us, hl with | [_], _ => rfl) (fun vs H Q E h => ?_) (fun f cdv A outer s H vs Q E hr h => ?_)
  · obtain ⟨_, _, _, _, rfl, _⟩ := h; rfl
  · obtain ⟨p, n, wp, ns, rfl, E0, k⟩ := h
    have hn := E0.2
    refine ⟨_, (pss_one (ps_ret (pe_callB (n_len K) (by rfl) B.len PySem.boot_len (pa_cons (e_fld K (pv 0)) pa_nil)))), ?_⟩
    walk_at "go"
    rw [iv_len]
    exact k
def spEdIn (Z : Cs) : Sp := fun vs H Q _ => ∃ (p n wp t : Addr) (nm : Str) (ws : List Str) (ns : List Nat) (z : Str), vs = [.ref p, .str z] ∧ EdAt Z H p n wp ns ∧ WkAt Z H wp t nm ws ∧ Good ws ∧ Asc ns ws.length ∧ isW z = true ∧ ∀ H', Same H H' → Q (.bl (decide (z ∈ ns.map (wd ws)))) H'
theorem ok_ed_in (B : Bn mg) (T : Tw K mg Z) (Cis_word : Cal P w K mg base 1 "is_word" ["thing"] (spIsWord K)) (D : DefM K Z.E "__contains__" "Edition.__contains__" sEdition___contains__) : CalM P w K mg base 2 Z.E "__contains__" ["self", "word"] (spEdIn Z) := by
  refine CalM.of D scEdition___contains__ (fun _ _ _ _ _ _ us hl => match us, hl with | [_, _], _ => rfl) (fun vs H Q E h => ?_) (fun f cdv A outer s H vs Q E hr h => ?_)
  · obtain ⟨_, _, _, _, _, _, _, _, rfl, _⟩ := h; rfl
  · obtain ⟨p, n, wp, t, nm, ws, ns, z, rfl, E0, W0, G, As, hz, k⟩ := h
    have hlen : ns.length ≤ 100 := Nat.le_trans As.len G.le
    refine ⟨_, (pss_one (ps_ret (pe_and (pe_fn Cis_word hr (by decide) (pa_cons (pv 1) pa_nil)) (pe_one (pe_cmpR (o_inq K) (pv 1) (pe_lc (own := [("number", 2)]) (g := (gName 2)) rfl scEdition___contains__.nd (q_seq K (e_fld K (pv 0))) (blkOk_by (own := [("number", 2)]) (N := ["self", "word", "number"]) (sc := defScope sEdition___contains__) (by decide +kernel)) (fun _ _ _ _ _ => (pg_name (i := 2) scEdition___contains__.nd rfl (Or.inl rfl) (.inr rfl))) (fun _ _ _ _ _ => pts_nil) (fun _ _ _ _ _ => (pe_ix (x_tup K) (e_fld K (e_fld K (pv 0))) (pv 2) (fun _ _ => rfl)))) rfl))))), ?_⟩
    walk_at "go"
    refine ⟨_, rfl, .inl ⟨z, rfl, isW_len hz⟩, fun H1 S1 => ?_⟩
    rw [show wordV (.str z) = true from hz]
    have E1 := E0.sm S1
    have W1 := W0.sm S1
    walk_at "go"
    refine lc_seq (sa_t E1.2) (fun u hu => hu) (fun D i H' => Same H1 H' ∧ H' D = some (.lst (((ns.take i).map (wd ws)).map V.str))) (fun D nD => ⟨Same.new (Same.refl _) nD, upd_same⟩) ?_ ?_ ?_
    · rintro D i H' _ _ ⟨S2, _⟩ u hu
      exact rd_sm S2 hu
    · rintro D i x H2 nD hi ⟨S2, g2⟩ hx
      obtain ⟨m, hm, rfl⟩ := iv_get hx
      have hml : m < ws.length := As.lt m (List.mem_of_getElem? hm)
      have hat : atI (ws.map V.str) (m : Int) = some (.str (wd ws m)) := atI_nat (by rw [List.getElem?_map, wd_get hml]; rfl)
      have hrow := (W1.sm S2).2
      walk_at "go"
      refine ⟨_, g2, sz ?_, Same.mut S2 nD, ?_⟩
      · rw [List.length_map, List.length_map]
        have := List.length_take_le' i ns
        omega
      · rw [upd_same, take_succ hm, List.map_append, List.map_append]; rfl
    · rintro D H2 nD ⟨S2, g2⟩
      rw [iv_len, List.take_length] at g2
      walk_at "go"
      exact k H2 (S1.trans S2)
/-- an operation of two editions of equal works -/
def spEdOp (Z : Cs) (op : Nat → List Nat → List Nat → List Nat) : Sp := fun vs H Q _ => ∃ (p n wp t q m wq u : Addr) (nm : Str) (ws : List Str) (ns ms : List Nat), vs = [.ref p, .ref q] ∧ EdAt Z H p n wp ns ∧ WkAt Z H wp t nm ws ∧ EdAt Z H q m wq ms ∧ WkAt Z H wq u nm ws ∧ Good ws ∧ Asc ns ws.length ∧
  ∀ r n' H', Same H H' → H r = none → EdAt Z H' r n' wp (op ws.length ns ms) → Q (.ref r) H'
def andN (_ : Nat) (ns ms : List Nat) : List Nat := ns.filter fun x => decide (x ∈ ms)
def subN (_ : Nat) (ns ms : List Nat) : List Nat := ns.filter fun x => !decide (x ∈ ms)
def orN (m : Nat) (ns ms : List Nat) : List Nat := (List.range m).filter fun x => decide (x ∈ ns) || decide (x ∈ ms)
theorem ok_ed_and (B : Bn mg) (T : Tw K mg Z) (Ccheck_works : Cal P w K mg base 2 "check_works" ["one", "other"] (spCheck Z)) (Cedition_of : Cal P w K mg base 5 "edition_of" ["work", "numbers"] (spEditionOf K Z)) (D : DefM K Z.E "__and__" "Edition.__and__" sEdition___and__) :
    CalM P w K mg base 6 Z.E "__and__" ["self", "other"] (spEdOp Z andN) := by
  refine CalM.of D scEdition___and__ (fun _ _ _ _ _ _ us hl => match us, hl with | [_, _], _ => rfl) (fun vs H Q E h => ?_) (fun f cdv A outer s H vs Q E hr h => ?_)
  · obtain ⟨_, _, _, _, _, _, _, _, _, _, _, _, rfl, _⟩ := h; rfl
  · obtain ⟨p, n, wp, t, q, m, wq, u, nm, ws, ns, ms, rfl, E1, W1, E2, W2, G, As, k⟩ := h
    have hlen : ns.length ≤ 100 := Nat.le_trans As.len G.le
    refine ⟨_, (pss_cons (ps_expr (pe_fn Ccheck_works hr (by decide) (pa_cons (e_fld K (pv 0)) (pa_cons (e_fld K (pv 1)) pa_nil))))
      (pss_one (ps_ret (pe_fn Cedition_of hr (by decide) (pa_cons (e_fld K (pv 0)) (pa_cons (pe_lc (own := [("number", 2)]) (g := (gName 2)) rfl scEdition___and__.nd (q_seq K (e_fld K (pv 0))) (blkOk_by (own := [("number", 2)]) (N := ["self", "other", "number"]) (sc := defScope sEdition___and__) (by decide +kernel)) (fun _ _ _ _ _ => (pg_name (i := 2) scEdition___and__.nd rfl (Or.inl rfl) (.inr rfl))) (fun _ _ _ _ _ => (pts_one (pt_cmpR (o_inq K) (pv 2) (e_fld K (pv 1)) rfl))) (fun _ _ _ _ _ => (pv 2))) pa_nil)))))), ?_⟩
    walk_at "go"
    refine ⟨wp, wq, t, u, nm, ws, rfl, W1, W2, G.ok, ?_⟩
    walk_at "go"
    refine lc_seq (sa_t E1.2) (fun u hu => hu) (fun D i H' => Same H H' ∧ H' D = some (.lst (iv ((ns.take i).filter fun x => decide (x ∈ ms))))) (fun D nD => ⟨Same.new (Same.refl _) nD, upd_same⟩) ?_ ?_ ?_
    · rintro D i H' _ _ ⟨S2, _⟩ u hu
      exact rd_sm S2 hu
    · rintro D i x H2 nD hi ⟨S2, g2⟩ hx
      obtain ⟨y, hy, rfl⟩ := iv_get hx
      have hm2 := (E2.sm S2).2
      walk_at "go"
      rw [mem_iv]
      refine k_dec (fun h => ?_) (fun h => ?_)
      · walk_at "go"
        refine ⟨_, g2, sz (filt_len hlen), Same.mut S2 nD, ?_⟩
        rw [upd_same, filter_take hy, if_pos (decide_eq_true h), iv_app]
      · refine ⟨S2, ?_⟩
        rw [filter_take hy, if_neg (by rw [decide_eq_false h]; exact Bool.false_ne_true), List.append_nil]
        exact g2
    · rintro D H2 nD ⟨S2, g2⟩
      rw [iv_len, List.take_length] at g2
      walk_at "go"
      exact ⟨wp, t, D, nm, ws, _, rfl, W1.sm S2, G, sa_l g2, As.filter _, fun r n' H3 S3 nr hE => k r n' H3 (S2.trans S3) (S2.free nr) hE⟩
theorem ok_ed_sub (B : Bn mg) (T : Tw K mg Z) (Ccheck_works : Cal P w K mg base 2 "check_works" ["one", "other"] (spCheck Z)) (Cedition_of : Cal P w K mg base 5 "edition_of" ["work", "numbers"] (spEditionOf K Z)) (D : DefM K Z.E "__sub__" "Edition.__sub__" sEdition___sub__) :
    CalM P w K mg base 6 Z.E "__sub__" ["self", "other"] (spEdOp Z subN) := by
  refine CalM.of D scEdition___sub__ (fun _ _ _ _ _ _ us hl => match us, hl with | [_, _], _ => rfl) (fun vs H Q E h => ?_) (fun f cdv A outer s H vs Q E hr h => ?_)
  · obtain ⟨_, _, _, _, _, _, _, _, _, _, _, _, rfl, _⟩ := h; rfl
  · obtain ⟨p, n, wp, t, q, m, wq, u, nm, ws, ns, ms, rfl, E1, W1, E2, W2, G, As, k⟩ := h
    have hlen : ns.length ≤ 100 := Nat.le_trans As.len G.le
    refine ⟨_, (pss_cons (ps_expr (pe_fn Ccheck_works hr (by decide) (pa_cons (e_fld K (pv 0)) (pa_cons (e_fld K (pv 1)) pa_nil))))
      (pss_one (ps_ret (pe_fn Cedition_of hr (by decide) (pa_cons (e_fld K (pv 0)) (pa_cons (pe_lc (own := [("number", 2)]) (g := (gName 2)) rfl scEdition___sub__.nd (q_seq K (e_fld K (pv 0))) (blkOk_by (own := [("number", 2)]) (N := ["self", "other", "number"]) (sc := defScope sEdition___sub__) (by decide +kernel)) (fun _ _ _ _ _ => (pg_name (i := 2) scEdition___sub__.nd rfl (Or.inl rfl) (.inr rfl))) (fun _ _ _ _ _ => (pts_one (pt_cmpR (o_ninq K) (pv 2) (e_fld K (pv 1)) rfl))) (fun _ _ _ _ _ => (pv 2))) pa_nil)))))), ?_⟩
    walk_at "go"
    refine ⟨wp, wq, t, u, nm, ws, rfl, W1, W2, G.ok, ?_⟩
    walk_at "go"
    refine lc_seq (sa_t E1.2) (fun u hu => hu) (fun D i H' => Same H H' ∧ H' D = some (.lst (iv ((ns.take i).filter fun x => !decide (x ∈ ms))))) (fun D nD => ⟨Same.new (Same.refl _) nD, upd_same⟩) ?_ ?_ ?_
    · rintro D i H' _ _ ⟨S2, _⟩ u hu
      exact rd_sm S2 hu
    · rintro D i x H2 nD hi ⟨S2, g2⟩ hx
      obtain ⟨y, hy, rfl⟩ := iv_get hx
      have hm2 := (E2.sm S2).2
      walk_at "go"
      rw [mem_iv]
      refine k_ndec (fun h => ?_) (fun h => ?_)
      · refine ⟨S2, ?_⟩
        rw [filter_take hy, if_neg (by rw [decide_eq_true h]; exact Bool.false_ne_true), List.append_nil]
        exact g2
      · walk_at "go"
        refine ⟨_, g2, sz (filt_len hlen), Same.mut S2 nD, ?_⟩
        rw [upd_same, filter_take hy, if_pos (by rw [decide_eq_false h]; rfl), iv_app]
    · rintro D H2 nD ⟨S2, g2⟩
      rw [iv_len, List.take_length] at g2
      walk_at "go"
      exact ⟨wp, t, D, nm, ws, _, rfl, W1.sm S2, G, sa_l g2, As.filter _, fun r n' H3 S3 nr hE => k r n' H3 (S2.trans S3) (S2.free nr) hE⟩
theorem ok_ed_or (B : Bn mg) (T : Tw K mg Z) (Ccheck_works : Cal P w K mg base 2 "check_works" ["one", "other"] (spCheck Z)) (Cedition_of : Cal P w K mg base 5 "edition_of" ["work", "numbers"] (spEditionOf K Z)) (D : DefM K Z.E "__or__" "Edition.__or__" sEdition___or__) :
    CalM P w K mg base 6 Z.E "__or__" ["self", "other"] (spEdOp Z orN) := by
  refine CalM.of D scEdition___or__ (fun _ _ _ _ _ _ us hl => match us, hl with | [_, _], _ => rfl) (fun vs H Q E h => ?_) (fun f cdv A outer s H vs Q E hr h => ?_)
  · obtain ⟨_, _, _, _, _, _, _, _, _, _, _, _, rfl, _⟩ := h; rfl
  · obtain ⟨p, n, wp, t, q, m, wq, u, nm, ws, ns, ms, rfl, E1, W1, E2, W2, G, As, k⟩ := h
    have hlen : ns.length ≤ 100 := Nat.le_trans As.len G.le
    refine ⟨_, (pss_cons (ps_expr (pe_fn Ccheck_works hr (by decide) (pa_cons (e_fld K (pv 0)) (pa_cons (e_fld K (pv 1)) pa_nil))))
      (pss_cons (ps_set (i := 2) scEdition___or__.nd rfl (Or.inl rfl) (pe_callB (n_len K) (by rfl) B.len PySem.boot_len (pa_cons (e_fld K (e_fld K (pv 0))) pa_nil)))
      (pss_one (ps_ret (pe_fn Cedition_of hr (by decide) (pa_cons (e_fld K (pv 0)) (pa_cons (pe_lc (own := [("at", 3)]) (g := (gName 3)) rfl scEdition___or__.nd (p_range1 B.range (pa_cons (pv 2) pa_nil)) (blkOk_by (own := [("at", 3)]) (N := ["self", "other", "many", "at"]) (sc := defScope sEdition___or__) (by decide +kernel)) (fun _ _ _ _ _ => (pg_name (i := 3) scEdition___or__.nd rfl (Or.inl rfl) (.inr rfl))) (fun _ _ _ _ _ => (pts_one (PW.pt (pw_or (pt_cmpR (o_inq K) (pv 3) (e_fld K (pv 0)) rfl) (pw_or1 (pt_cmpR (o_inq K) (pv 3) (e_fld K (pv 1)) rfl)))))) (fun _ _ _ _ _ => (pv 3))) pa_nil))))))), ?_⟩
    walk_at "go"
    refine ⟨wp, wq, t, u, nm, ws, rfl, W1, W2, G.ok, ?_⟩
    walk_at "go"
    have hrl : (List.range ws.length).length ≤ 100 := by rw [List.length_range]; exact G.le
    have hrow := W1.2
    have hlm : (ws.map V.str).length = ws.length := List.length_map _
    have hG := G.le
    walk_at "go"
    refine lc_w walk_r0 (fun D i H' => Same H H' ∧ H' D = some (.lst (iv (((List.range ws.length).take i).filter fun x => decide (x ∈ ns) || decide (x ∈ ms))))) (fun D nD => ⟨Same.new (Same.refl _) nD, upd_same⟩) (fun _ _ _ _ _ _ => trivial) ?_ ?_
    · rintro D i x H1 H2 nD hi ⟨S2, g2⟩ ⟨rfl, rfl⟩
      have hi' : i < ws.length := by omega
      have hy : (List.range ws.length)[i]? = some i := List.getElem?_range hi'
      have hm1 := (E1.sm S2).2
      have hm2 := (E2.sm S2).2
      walk_at "go"
      rw [mem_iv]
      have yes : (decide (i ∈ ns) || decide (i ∈ ms)) = true → ∃ acc, H2 D = some (.lst acc) ∧ acc.length < sizeLine ∧ Same H (upd H2 D (.lst (acc ++ [.int (i : Nat)]))) ∧ upd H2 D (.lst (acc ++ [.int (i : Nat)])) D = some (.lst (iv (((List.range ws.length).take (i + 1)).filter fun x => decide (x ∈ ns) || decide (x ∈ ms)))) := fun h => by
        refine ⟨_, g2, sz (filt_len hrl), Same.mut S2 nD, ?_⟩
        rw [upd_same, filter_take hy, if_pos h, iv_app]
      refine k_dec (fun h => ?_) (fun h => ?_)
      · walk_at "go"
        exact yes (by rw [decide_eq_true h]; rfl)
      · walk_at "go"
        rw [mem_iv]
        refine k_dec (fun h2 => ?_) (fun h2 => ?_)
        · walk_at "go"
          exact yes (by rw [decide_eq_true h2, Bool.or_true])
        · refine ⟨S2, ?_⟩
          rw [filter_take hy, if_neg (by rw [decide_eq_false h, decide_eq_false h2]; exact Bool.false_ne_true), List.append_nil]
          exact g2
    · rintro D H2 nD ⟨S2, g2⟩
      rw [hlm, List.take_of_length_le (by rw [List.length_range]; omega)] at g2
      walk_at "go"
      exact ⟨wp, t, D, nm, ws, _, rfl, W1.sm S2, G, sa_l g2, (range_asc _).filter _, fun r n' H3 S3 nr hE => k r n' H3 (S2.trans S3) (S2.free nr) hE⟩
def spEdLe (Z : Cs) : Sp := fun vs H Q _ => ∃ (p n wp t q m wq u : Addr) (nm : Str) (ws : List Str) (ns ms : List Nat), vs = [.ref p, .ref q] ∧ EdAt Z H p n wp ns ∧ WkAt Z H wp t nm ws ∧ EdAt Z H q m wq ms ∧ WkAt Z H wq u nm ws ∧ Good ws ∧ Asc ns ws.length ∧
  ∀ H', Same H H' → Q (.bl (ns.all fun x => decide (x ∈ ms))) H'
theorem ok_ed_le (B : Bn mg) (T : Tw K mg Z) (Ccheck_works : Cal P w K mg base 2 "check_works" ["one", "other"] (spCheck Z)) (D : DefM K Z.E "__le__" "Edition.__le__" sEdition___le__) :
    CalM P w K mg base 3 Z.E "__le__" ["self", "other"] (spEdLe Z) := by
  refine CalM.of D scEdition___le__ (fun _ _ _ _ _ _ us hl => match us, hl with | [_, _], _ => rfl) (fun vs H Q E h => ?_) (fun f cdv A outer s H vs Q E hr h => ?_)
  · obtain ⟨_, _, _, _, _, _, _, _, _, _, _, _, rfl, _⟩ := h; rfl
  · obtain ⟨p, n, wp, t, q, m, wq, u, nm, ws, ns, ms, rfl, E1, W1, E2, W2, G, As, k⟩ := h
    have hlen : ns.length ≤ 100 := Nat.le_trans As.len G.le
    refine ⟨_, (pss_cons (ps_expr (pe_fn Ccheck_works hr (by decide) (pa_cons (e_fld K (pv 0)) (pa_cons (e_fld K (pv 1)) pa_nil))))
      (pss_one (ps_ret (pe_callB (n_all K rfl) (by rfl) B.all (by decide +kernel) (pa_cons (pe_lc (own := [("number", 2)]) (g := (gName 2)) rfl scEdition___le__.nd (q_seq K (e_fld K (pv 0))) (blkOk_by (own := [("number", 2)]) (N := ["self", "other", "number"]) (sc := defScope sEdition___le__) (by decide +kernel)) (fun _ _ _ _ _ => (pg_name (i := 2) scEdition___le__.nd rfl (Or.inl rfl) (.inr rfl))) (fun _ _ _ _ _ => pts_nil) (fun _ _ _ _ _ => (pe_cmpR (o_inq K) (pv 2) (e_fld K (pv 1)) rfl))) pa_nil))))), ?_⟩
    walk_at "go"
    refine ⟨wp, wq, t, u, nm, ws, rfl, W1, W2, G.ok, ?_⟩
    walk_at "go"
    refine lc_seq (sa_t E1.2) (fun u hu => hu) (fun D i H' => Same H H' ∧ H' D = some (.lst (((ns.take i).map fun x => decide (x ∈ ms)).map V.bl))) (fun D nD => ⟨Same.new (Same.refl _) nD, upd_same⟩) ?_ ?_ ?_
    · rintro D i H' _ _ ⟨S2, _⟩ u hu
      exact rd_sm S2 hu
    · rintro D i x H2 nD hi ⟨S2, g2⟩ hx
      obtain ⟨y, hy, rfl⟩ := iv_get hx
      have hm2 := (E2.sm S2).2
      walk_at "go"
      rw [mem_iv]
      refine ⟨_, g2, sz ?_, Same.mut S2 nD, ?_⟩
      · rw [List.length_map, List.length_map]
        have := List.length_take_le' i ns
        omega
      · rw [upd_same, take_succ hy, List.map_append, List.map_append]; rfl
    · rintro D H2 nD ⟨S2, g2⟩
      rw [iv_len, List.take_length] at g2
      walk_at "go"
      have q := k H2 S2
      have e : (ns.map fun x => decide (x ∈ ms)).all id = ns.all fun x => decide (x ∈ ms) := by rw [List.all_map]; rfl
      rw [e]
      exact q
def spCutB (Z : Cs) : Sp := fun vs H Q _ => ∃ (p n wp : Addr) (ns : List Nat) (c : Nat), vs = [.ref p, .int (c : Nat)] ∧ EdAt Z H p n wp ns ∧ c ≤ ns.length ∧ Q (.int (cutB ns c : Nat)) H
theorem ok_cut_behind (B : Bn mg) (T : Tw K mg Z) (Cis_upto : Cal P w K mg base 2 "is_upto" ["thing", "most"] (spIsUpto K)) (D : DefM K Z.E "cut_behind" "Edition.cut_behind" sEdition_cut_behind) :
    CalM P w K mg base 3 Z.E "cut_behind" ["self", "count"] (spCutB Z) := by
  refine CalM.of D scEdition_cut_behind (fun _ _ _ _ _ _ us hl => match us, hl with | [_, _], _ => rfl) (fun vs H Q E h => ?_) (fun f cdv A outer s H vs Q E hr h => ?_)
  · obtain ⟨_, _, _, _, _, rfl, _⟩ := h; rfl
  · obtain ⟨p, n, wp, ns, c, rfl, E1, hc, k⟩ := h
    have hn := E1.2
    have hl := iv_len ns
    refine ⟨_, (pss_cons (ps_if (pt_not (pt_val (pe_fn Cis_upto hr (by decide) (pa_cons (pv 1) (pa_cons (pe_callB (n_len K) (by rfl) B.len PySem.boot_len (pa_cons (e_fld K (pv 0)) pa_nil)) pa_nil))))) (pss_one ps_never) pss_nil)
      (pss_one (ps_ret (pe_ifExp (pt_cmpR op_eq (pv 1) pe_int (nomark _)) pe_int (pe_op op_add (pe_ix (x_tup K) (e_fld K (pv 0)) (pe_op op_sub (pv 1) pe_int) (fun _ _ => rfl)) pe_int))))), ?_⟩
    walk_at "go"
    refine ⟨_, _, true, rfl, .inl ⟨(c : Int), rfl, (decide_eq_true ⟨by omega, by omega⟩).symm⟩, ?_⟩
    walk_at "go"
    refine k_dec (fun h => ?_) (fun h => ?_)
    · walk_at "go"
      have e : cutB ns c = 0 := if_pos (by omega)
      rw [e] at k
      exact k
    · have e : cutB ns c = ns.getD (c - 1) 0 + 1 := if_neg (by omega)
      have hat : atI (iv ns) ((c : Int) - 1) = some (.int ((ns.getD (c - 1) 0 : Nat) : Int)) := by
        rw [show (c : Int) - 1 = ((c - 1 : Nat) : Int) by omega]
        refine atI_nat ?_
        rw [List.getElem?_map, List.getElem?_map, List.getD_eq_getElem?_getD, List.getElem?_eq_getElem (show c - 1 < ns.length by omega)]
        rfl
      walk_at "go"
      rw [e] at k
      exact k
def spCntA (Z : Cs) : Sp := fun vs H Q _ => ∃ (p n wp t : Addr) (nm : Str) (ws : List Str) (ns : List Nat) (c : Nat), vs = [.ref p, .int (c : Nat)] ∧ EdAt Z H p n wp ns ∧ WkAt Z H wp t nm ws ∧ Good ws ∧ Asc ns ws.length ∧ c ≤ ws.length ∧ ∀ H', Same H H' → Q (.int (cntA ns c : Nat)) H'
theorem ok_count_at (B : Bn mg) (T : Tw K mg Z) (Cis_upto : Cal P w K mg base 2 "is_upto" ["thing", "most"] (spIsUpto K)) (D : DefM K Z.E "count_at" "Edition.count_at" sEdition_count_at) :
    CalM P w K mg base 3 Z.E "count_at" ["self", "cut"] (spCntA Z) := by
  refine CalM.of D scEdition_count_at (fun _ _ _ _ _ _ us hl => match us, hl with | [_, _], _ => rfl) (fun vs H Q E h => ?_) (fun f cdv A outer s H vs Q E hr h => ?_)
  · obtain ⟨_, _, _, _, _, _, _, _, rfl, _⟩ := h; rfl
  · obtain ⟨p, n, wp, t, nm, ws, ns, c, rfl, E1, W1, G, As, hc, k⟩ := h
    have hlen : ns.length ≤ 100 := Nat.le_trans As.len G.le
    have hn := E1.2
    have hrow := W1.2
    have hl : (ws.map V.str).length = ws.length := List.length_map _
    refine ⟨_, (pss_cons (ps_if (pt_not (pt_val (pe_fn Cis_upto hr (by decide) (pa_cons (pv 1) (pa_cons (pe_callB (n_len K) (by rfl) B.len PySem.boot_len (pa_cons (e_fld K (e_fld K (pv 0))) pa_nil)) pa_nil))))) (pss_one ps_never) pss_nil)
      (pss_one (ps_ret (pe_callB (n_len K) (by rfl) B.len PySem.boot_len (pa_cons (pe_lc (own := [("number", 2)]) (g := (gName 2)) rfl scEdition_count_at.nd (q_seq K (e_fld K (pv 0))) (blkOk_by (own := [("number", 2)]) (N := ["self", "cut", "number"]) (sc := defScope sEdition_count_at) (by decide +kernel)) (fun _ _ _ _ _ => (pg_name (i := 2) scEdition_count_at.nd rfl (Or.inl rfl) (.inr rfl))) (fun _ _ _ _ _ => (pts_one (pt_cmpR op_lt (pv 2) (pv 1) (nomark _)))) (fun _ _ _ _ _ => (pv 2))) pa_nil))))), ?_⟩
    walk_at "go"
    refine ⟨_, _, true, rfl, .inl ⟨(c : Int), rfl, (decide_eq_true ⟨by omega, by omega⟩).symm⟩, ?_⟩
    walk_at "go"
    refine lc_seq (sa_t E1.2) (fun u hu => hu) (fun D i H' => Same H H' ∧ H' D = some (.lst (iv ((ns.take i).filter fun x => decide (x < c))))) (fun D nD => ⟨Same.new (Same.refl _) nD, upd_same⟩) ?_ ?_ ?_
    · rintro D i H' _ _ ⟨S2, _⟩ u hu
      exact rd_sm S2 hu
    · rintro D i x H2 nD hi ⟨S2, g2⟩ hx
      obtain ⟨y, hy, rfl⟩ := iv_get hx
      walk_at "go"
      refine k_dec (fun h => ?_) (fun h => ?_)
      · walk_at "go"
        refine ⟨_, g2, sz (filt_len hlen), Same.mut S2 nD, ?_⟩
        rw [upd_same, filter_take hy, if_pos (decide_eq_true (by omega)), iv_app]
      · refine ⟨S2, ?_⟩
        rw [filter_take hy, if_neg (by rw [decide_eq_false (by omega)]; exact Bool.false_ne_true), List.append_nil]
        exact g2
    · rintro D H2 nD ⟨S2, g2⟩
      rw [iv_len, List.take_length] at g2
      walk_at "go"
      rw [iv_len]
      exact k H2 S2
def spKern (Z : Cs) : Sp := fun vs H Q _ => ∃ (p n wp t : Addr) (nm : Str) (ws : List Str) (ns : List Nat) (c : Nat), vs = [.ref p, .int (c : Nat)] ∧ EdAt Z H p n wp ns ∧ WkAt Z H wp t nm ws ∧ Good ws ∧ Asc ns ws.length ∧ c ≤ ws.length ∧ ∀ H', Same H H' → Q (.int (kern ns c : Nat)) H'
theorem ok_kernel (T : Tw K mg Z) (CEdition_cut_behind : CalM P w K mg base 3 Z.E "cut_behind" ["self", "count"] (spCutB Z)) (CEdition_count_at : CalM P w K mg base 3 Z.E "count_at" ["self", "cut"] (spCntA Z)) (D : DefM K Z.E "kernel" "Edition.kernel" sEdition_kernel) :
    CalM P w K mg base 4 Z.E "kernel" ["self", "cut"] (spKern Z) := by
  refine CalM.of D scEdition_kernel (fun _ _ _ _ _ _ us hl => match us, hl with | [_, _], _ => rfl) (fun vs H Q E h => ?_) (fun f cdv A outer s H vs Q E hr h => ?_)
  · obtain ⟨_, _, _, _, _, _, _, _, rfl, _⟩ := h; rfl
  · obtain ⟨p, n, wp, t, nm, ws, ns, c, rfl, E1, W1, G, As, hc, k⟩ := h
    refine ⟨_, (pss_one (ps_ret (pe_mt (pv 0) T.clE CEdition_cut_behind hr (by decide) (pa_cons (pe_mt (pv 0) T.clE CEdition_count_at hr (by decide) (pa_cons (pv 1) pa_nil)) pa_nil)))), ?_⟩
    walk_at "go"
    refine ⟨p, n, wp, t, nm, ws, ns, c, rfl, E1, W1, G, As, hc, fun H1 S1 => ?_⟩
    walk_at "go"
    exact ⟨p, n, wp, ns, _, rfl, E1.sm S1, cntA_le _ _, k H1 S1⟩
end
end Lf

set_option Elab.async false
set_option linter.all false
set_option maxRecDepth 100000
set_option maxHeartbeats 2000000
/-! The law's own makers. -/
namespace Lf
open PySem L2
local macro_rules | `(tactic| walk_at "nq") => `(tactic| first | with_reducible assumption | with_reducible exact Ne.symm (by assumption) | with_reducible exact ne_of_none (by assumption) (by assumption) | with_reducible exact Ne.symm (ne_of_none (by assumption) (by assumption)))
local macro_rules | `(tactic| walk_at "gt") => `(tactic| first | with_reducible assumption | with_reducible exact upd_same | ((with_reducible refine' upd_new ?ha ?hb); (case hb => with_reducible assumption); (case ha => walk_at "gt")) | ((with_reducible refine' upd_old ?ha ?hb); (case hb => walk_at "nq"); (case ha => walk_at "gt")) | ((with_reducible refine' sm_get ?hb ?ha); (case hb => with_reducible assumption); (case ha => walk_at "gt")) | ((with_reducible refine' fr_get ?hb ?ha ?hc); (case hb => with_reducible assumption); (case hc => walk_at "nq"); (case ha => walk_at "gt")))
local macro_rules | `(tactic| walk_at "sl") => `(tactic| first | with_reducible assumption | ((with_reducible refine' sl_of ?ha); (case ha => walk_at "gt")) | ((with_reducible refine' sl_new ?ha ?hb); (case hb => with_reducible assumption); (case ha => walk_at "sl")) | ((with_reducible refine' sl_sm ?hb ?ha); (case hb => with_reducible assumption); (case ha => walk_at "sl")) | ((with_reducible refine' sl_fr ?hb ?hc ?ha); (case hb => with_reducible assumption); (case hc => walk_at "nq"); (case ha => walk_at "sl")))
local macro_rules | `(tactic| walk_at "st") => `(tactic| first | with_reducible assumption | ((with_reducible refine' st_of ?ha); (case ha => walk_at "gt")) | ((with_reducible refine' st_new ?ha ?hb); (case hb => with_reducible assumption); (case ha => walk_at "st")) | ((with_reducible refine' st_sm ?hb ?ha); (case hb => with_reducible assumption); (case ha => walk_at "st")) | ((with_reducible refine' st_fr ?hb ?hc ?ha); (case hb => with_reducible assumption); (case hc => walk_at "nq"); (case ha => walk_at "st")))
local macro_rules | `(tactic| walk_at "sa") => `(tactic| first | with_reducible assumption | ((with_reducible refine' sa_l ?ha); (case ha => walk_at "gt")) | ((with_reducible refine' sa_t ?ha); (case ha => walk_at "gt")) | ((with_reducible refine' sa_new ?ha ?hb); (case hb => with_reducible assumption); (case ha => walk_at "sa")) | ((with_reducible refine' sa_sm ?hb ?ha); (case hb => with_reducible assumption); (case ha => walk_at "sa")) | ((with_reducible refine' sa_fr ?hb ?hc ?ha); (case hb => with_reducible assumption); (case hc => walk_at "nq"); (case ha => walk_at "sa")) | ((with_reducible refine' Or.inl ?ha); (case ha => walk_at "sl")) | ((with_reducible refine' Or.inr ?ha); (case ha => walk_at "st")))
local macro_rules | `(tactic| walk_at "ln") => `(tactic| first | decide | omega | exact Nat.le_of_ble_eq_true rfl | (simp only [List.length_append, List.length_map, List.length_cons, List.length_nil, List.length_flatMap]; omega))
local macro_rules | `(tactic| walk_at "ty") => `(tactic| first | with_reducible assumption | with_reducible exact .base (.int _) | with_reducible exact .base (.str _) | with_reducible exact .base (.bl _) | with_reducible exact .base .non | ((with_reducible refine' TyX.base (TyOf.lst ?ha)); (case ha => walk_at "gt")) | ((with_reducible refine' TyX.base (TyOf.tup ?ha)); (case ha => walk_at "gt")) | ((with_reducible refine' TyX.base (TyOf.dK ?ha)); (case ha => walk_at "gt")) | ((with_reducible refine' ty_new ?ha ?hb); (case hb => with_reducible assumption); (case ha => walk_at "ty")) | ((with_reducible refine' ty_sm ?hb ?ha); (case hb => with_reducible assumption); (case ha => walk_at "ty")))
local macro_rules | `(tactic| walk_at "kb") => `(tactic| first | with_reducible assumption | exact kb_str_str | exact kb_int_str | exact kb_list_str | exact kb_tuple_str | exact kb_bool_str | exact kb_NoneType_str | exact kb_dict_str | exact kb_str_int | exact kb_int_int | exact kb_list_int | exact kb_tuple_int | exact kb_bool_int | exact kb_NoneType_int | exact kb_dict_int | exact kb_str_bool | exact kb_int_bool | exact kb_list_bool | exact kb_tuple_bool | exact kb_bool_bool | exact kb_NoneType_bool | exact kb_dict_bool | exact kb_str_list | exact kb_int_list | exact kb_list_list | exact kb_tuple_list | exact kb_bool_list | exact kb_NoneType_list | exact kb_dict_list | exact kb_str_tuple | exact kb_int_tuple | exact kb_list_tuple | exact kb_tuple_tuple | exact kb_bool_tuple | exact kb_NoneType_tuple | exact kb_dict_tuple | exact kb_str_dict | exact kb_int_dict | exact kb_list_dict | exact kb_tuple_dict | exact kb_bool_dict | exact kb_NoneType_dict | exact kb_dict_dict)
local macro_rules | `(tactic| walk_at "wk") => `(tactic| first | with_reducible assumption | ((with_reducible refine' WkAt.new ?ha ?hb); (case hb => with_reducible assumption); (case ha => walk_at "wk")) | ((with_reducible refine' WkAt.sm ?hb ?ha); (case hb => with_reducible assumption); (case ha => walk_at "wk")) | ((with_reducible refine' WkAt.dr ?hb ?hc ?ha); (case hb => with_reducible assumption); (case hc => with_reducible assumption); (case ha => walk_at "wk")))
local macro_rules | `(tactic| walk_at "ed") => `(tactic| first | with_reducible assumption | ((with_reducible refine' EdAt.new ?ha ?hb); (case hb => with_reducible assumption); (case ha => walk_at "ed")) | ((with_reducible refine' EdAt.sm ?hb ?ha); (case hb => with_reducible assumption); (case ha => walk_at "ed")) | ((with_reducible refine' EdAt.dr ?hb ?hc ?ha); (case hb => with_reducible assumption); (case hc => with_reducible assumption); (case ha => walk_at "ed")))
local macro_rules | `(tactic| walk_at "fl") => `(tactic| first | with_reducible assumption | ((with_reducible refine' WkAt.rows ?hT ?hW); (case hT => assumption); (case hW => walk_at "wk")) | ((with_reducible refine' WkAt.name ?hT ?hW); (case hT => assumption); (case hW => walk_at "wk")) | ((with_reducible refine' EdAt.work ?hT ?hW); (case hT => assumption); (case hW => walk_at "ed")) | ((with_reducible refine' EdAt.nums ?hT ?hW); (case hT => assumption); (case hW => walk_at "ed")))
local macro_rules | `(tactic| walk_at "mt") => `(tactic| first | with_reducible assumption | ((with_reducible refine' WkAt.mt ?hn1 ?hn2 ?hW); (case hW => walk_at "wk"); (case hn1 => decide +kernel); (case hn2 => decide +kernel)) | ((with_reducible refine' EdAt.mt ?hn1 ?hn2 ?hW); (case hW => walk_at "ed"); (case hn1 => decide +kernel); (case hn2 => decide +kernel)))
local macro_rules | `(tactic| walk_at "is") => `(tactic| first | with_reducible assumption | ((with_reducible refine' WkAt.is ?hW); (case hW => walk_at "wk")) | ((with_reducible refine' EdAt.is ?hW); (case hW => walk_at "ed")))
local macro_rules | `(tactic| walk_at "ic") => `(tactic| first
  | ((with_reducible show CMul _ _); first | exact Or.inl ⟨by decide, by decide⟩ | exact Or.inr ⟨by decide, by decide⟩ | exact Or.inl ⟨by omega, by omega⟩ | exact Or.inr ⟨by omega, by omega⟩)
  | ((with_reducible show CDiv _ _); first | exact ⟨by decide, by decide⟩ | exact ⟨by omega, by omega⟩)
  | ((with_reducible show CPow _ _); first | exact ⟨by decide, by decide, by decide⟩ | exact ⟨by decide, by decide, by omega⟩)
  | (show (0 : Int) < _; first | decide | omega))
local macro_rules | `(tactic| walk_at "s1") => `(tactic| first
  | with_reducible refine k_seq ?_
  | with_reducible refine k_set ?_
  | with_reducible refine k_asg ?_
  | with_reducible refine k_par ?_
  | with_reducible refine k_par2 ?_
  | with_reducible refine k_drop ?_
  | with_reducible refine k_ret ?_
  | with_reducible refine k_next ?_
  | with_reducible refine k_if ?_
  | ((with_reducible refine' k_aug ?hv ?_); (case hv => exact rfl))
  | with_reducible refine k_ipI ?_
  | with_reducible refine k_gname ?_
  | with_reducible refine k_gsub ?_
  | ((with_reducible refine' k_gtup ?hv ?hw ?_); (case hv => walk_at "st"); (case hw => rfl))
  | with_reducible refine k_gcons ?_
  | with_reducible refine k_gnil ?_
  | with_reducible refine k_test ?_
  | with_reducible refine k_B ?_
  | with_reducible refine k_blE ?_
  | with_reducible refine k_and ?_
  | with_reducible refine k_or ?_
  | with_reducible refine k_not ?_
  | with_reducible refine iteT ?_
  | with_reducible refine iteF ?_
  | with_reducible refine iteNT ?_
  | with_reducible refine iteNF ?_
  | ((with_reducible refine' k_var ?hv ?_); (case hv => exact rfl))
  | with_reducible refine k_c ?_
  | with_reducible refine k_op ?_
  | with_reducible refine k_un ?_
  | with_reducible refine k_U ?_
  | with_reducible refine k_I0 ?_
  | ((with_reducible refine' k_I ?hv ?_); (case hv => walk_at "ic"))
  | with_reducible refine k_eqI ?_
  | with_reducible refine k_neI ?_
  | with_reducible refine k_eqS ?_
  | with_reducible refine k_neS ?_
  | with_reducible refine k_eqB ?_
  | with_reducible refine k_neB ?_
  | with_reducible refine k_for ?_
  | with_reducible refine k_iE ?_
  | with_reducible refine k_iA ?_
  | ((with_reducible refine' k_itl ?hv ?_); (case hv => walk_at "sl"))
  | ((with_reducible refine' k_itt ?hv ?_); (case hv => walk_at "st"))
  | with_reducible refine k_its ?_
  | ((with_reducible refine' k_rg1n ?hv ?_); (case hv => first | decide | omega))
  | ((with_reducible refine' k_rg1 ?hv ?hw ?_); (case hv => first | decide | omega); (case hw => first | decide | omega))
  | ((with_reducible refine' k_inS ?hv ?_); (case hv => walk_at "sa"))
  | ((with_reducible refine' k_inI ?hv ?_); (case hv => walk_at "sa"))
  | ((with_reducible refine' k_ninS ?hv ?_); (case hv => walk_at "sa"))
  | ((with_reducible refine' k_ninI ?hv ?_); (case hv => walk_at "sa"))
  | ((with_reducible refine' k_zipl ?hv ?hw ?_); (case hv => walk_at "sl"); (case hw => walk_at "sl"))
  | with_reducible refine k_nil ?_
  | with_reducible refine k_cons ?_
  | with_reducible refine k_cb ?_
  | with_reducible refine k_call ?_
  | with_reducible refine k_lst ?_
  | with_reducible refine k_tup ?_
  | with_reducible refine k_ifx ?_
  | with_reducible refine k_andv ?_
  | with_reducible refine k_orv ?_
  | with_reducible refine k_notv ?_
  | with_reducible refine k_inti ?_
  | with_reducible refine k_intb ?_
  | with_reducible refine k_sl ?_
  | with_reducible refine k_nopart ?_
  | with_reducible refine k_part ?_
  | with_reducible refine k_parti ?_
  | ((with_reducible refine' k_lenl ?hv ?_); (case hv => walk_at "sl"))
  | ((with_reducible refine' k_lent ?hv ?_); (case hv => walk_at "st"))
  | ((with_reducible refine' k_lens ?hv ?_); (case hv => exact szl (by walk_at "ln")))
  | ((with_reducible refine' k_lena ?hv ?_); (case hv => walk_at "sa"))
  | ((with_reducible refine' k_ixl ?hv ?hn ?_); (case hv => walk_at "sl"); (case hn => first | rfl | assumption))
  | ((with_reducible refine' k_ixt ?hv ?hn ?_); (case hv => walk_at "st"); (case hn => first | rfl | assumption))
  | ((with_reducible refine' k_ixa ?hv ?hn ?_); (case hv => walk_at "sa"); (case hn => first | rfl | assumption))
  | with_reducible refine k_chain ?_
  | ((with_reducible refine' k_isi ?hv ?hw ?_); (case hv => walk_at "ty"); (case hw => walk_at "kb"))
  | ((with_reducible refine' k_isi2 ?hb ?hp ?hv ?hw ?hx ?_); (case hp => walk_at "gt"); (case hv => walk_at "ty"); (case hw => walk_at "kb"); (case hx => walk_at "kb"); (case hb => first | exact or_t | exact or_f))
  | ((with_reducible refine' k_all ?hv ?_); (case hv => walk_at "gt"))
  | ((with_reducible refine' k_any ?hv ?_); (case hv => walk_at "gt"))
  | with_reducible refine k_insign ?_
  | with_reducible refine k_fldR ?_
  | ((with_reducible refine' k_fl ?hv ?_); (case hv => walk_at "fl"))
  | with_reducible refine k_sfld ?_
  | with_reducible refine k_meth ?_
  | ((with_reducible refine' k_mt ?hv ?_); (case hv => walk_at "mt"))
  | with_reducible refine k_make ?_
  | ((with_reducible refine' k_own ?hv ?hw ?_); (case hv => walk_at "is"); (case hw => walk_at "is"))
  | ((with_reducible refine' k_ownin ?hv ?_); (case hv => walk_at "is"))
  | ((with_reducible refine' k_lenO ?hv ?_); (case hv => walk_at "is"))
  | with_reducible refine k_lrg ?_
  | with_reducible refine k_rgt ?_
  | with_reducible refine k_rgti ?_
  | with_reducible refine k_bm ?_
  | with_reducible refine k_bm0 ?_
  | with_reducible refine k_tys ?_
  | ((with_reducible refine' k_tyl ?hv ?_); (case hv => walk_at "sl"))
  | ((with_reducible refine' k_ext ?hv ?hw ?hn ?_); (case hv => walk_at "gt"); (case hw => walk_at "gt"); (case hn => walk_at "ln"))
  | ((with_reducible refine' k_app ?hv ?hn ?_); (case hv => walk_at "gt"); (case hn => walk_at "ln"))
  | ((with_reducible refine' k_popat ?hv ?hn ?hw ?_); (case hv => walk_at "gt"); (case hn => with_reducible assumption); (case hw => walk_at "ln"))
  | with_reducible refine k_lc ?_
  | with_reducible refine k_yes0 ?_
  | ((with_reducible show wipe _ _ = wipe _ _ ∧ _); refine ⟨rfl, ?_⟩)
  | ((with_reducible refine' k_adds ?hv ?_); (case hv => walk_at "ln"))
  | ((with_reducible refine' k_st1 ?hv ?_); (case hv => walk_at "gt"))
  | ((with_reducible refine' k_st2 ?hv ?_); (case hv => walk_at "gt"))
  | ((with_reducible refine' k_st3 ?hv ?_); (case hv => walk_at "gt"))
  | ((with_reducible refine' k_setl ?hv ?hn ?_); (case hv => walk_at "gt"); (case hn => rfl)))
local macro_rules | `(tactic| walk_at "put") => `(tactic| ((refine' ⟨_, ?ha, sz ?hb, ?_⟩); (case ha => walk_at "gt"); (case hb => walk_at "ln")))
local macro_rules | `(tactic| walk_at "go") => `(tactic| repeat (walk_at "s1"))

abbrev s_law_kept : Stmt := top 28
theorem sc_law_kept : FnScope ["_law_state", "_law_many", "_law_wide", "_law_side", "_law_k"] ["_law_state", "_law_many"] (defScope s_law_kept) := ⟨rfl, rfl, rfl, by decide +kernel, rfl, by decide +kernel, by decide +kernel⟩
abbrev s_law_base : Stmt := top 29
theorem sc_law_base : FnScope ["_law_state", "_law_many", "_law_rows"] ["_law_state", "_law_many"] (defScope s_law_base) := ⟨rfl, rfl, rfl, by decide +kernel, rfl, by decide +kernel, by decide +kernel⟩
abbrev s_law_edition : Stmt := top 30
theorem sc_law_edition : FnScope ["_law_base_here", "_law_rows", "_law_numbers", "_law_k"] ["_law_base_here", "_law_rows", "_law_numbers"] (defScope s_law_edition) := ⟨rfl, rfl, rfl, by decide +kernel, rfl, by decide +kernel, by decide +kernel⟩
abbrev s_law_row : Stmt := top 31
theorem sc_law_row : FnScope ["_law_made", "_law_far", "_law_k"] ["_law_made", "_law_far"] (defScope s_law_row) := ⟨rfl, rfl, rfl, by decide +kernel, rfl, by decide +kernel, by decide +kernel⟩
theorem all_isW : ∀ x ∈ allWords, isW x = true := by decide +kernel
theorem Words.good {ws : List Str} {n : Nat} (h : Words ws n) (h1 : 1 ≤ n) (h2 : n ≤ 60) : Good ws :=
  ⟨fun e => by have := h.1; rw [e] at this; simp at this; omega, h.nodup, fun x hx => all_isW x (h.mem hx), by have := h.1; omega⟩
section
variable {P : Program} {w : World} {K : PySem.W.Frag} {mg : Str → Option Value} {base : Heap} {Z : Cs}
def spKept : Sp := fun vs H Q _ => ∃ (S : Ds) (n : Nat), vs = [.ref S.st, .int (n : Nat)] ∧ Dr H S ∧ n ≤ 60 ∧
  ∀ ns l H', Asc ns n → Fr S.st H H' → H l = none → Dr H' S → H' l = some (.lst (iv ns)) → Q (.ref l) H'
theorem ok_kept (B : Bn mg) (C_law_take : Cal P w K mg base 2 "_law_take" ["_law_state", "_law_many"] spTake) (C_law_one : Cal P w K mg base 3 "_law_one" ["_law_state", "_law_things"] (spOne K)) (D : Def K mg "_law_kept" s_law_kept) :
    Cal P w K mg base 4 "_law_kept" ["_law_state", "_law_many"] spKept := by
  refine Cal.of D sc_law_kept (fun _ _ _ _ _ _ us hl => match us, hl with | [_, _], _ => rfl) (fun vs H Q E h => ?_) (fun f cdv A outer s H vs Q E hr h => ?_)
  · obtain ⟨_, _, rfl, _⟩ := h; rfl
  · obtain ⟨S, n, rfl, D0, hn, k⟩ := h
    refine ⟨_, (pss_cons (ps_asg (pe_tup (pa_cons (pe_fn C_law_one hr (by decide) (pa_cons (pv 0) (pa_cons (pe_tup (pa_cons pe_int (pa_cons pe_int (pa_cons pe_int (pa_cons pe_int (pa_cons pe_int pa_nil)))))) pa_nil))) (pa_cons (pe_fn C_law_take hr (by decide) (pa_cons (pv 0) (pa_cons pe_int pa_nil))) pa_nil))) (pg_tup rfl (pgs_cons (pg_name (i := 2) sc_law_kept.nd rfl (Or.inr rfl)) (pgs_cons (pg_name (i := 3) sc_law_kept.nd rfl (Or.inr rfl)) pgs_nil))))
      (pss_one (ps_ret (pe_lc (own := [("_law_k", 4)]) (g := (gName 4)) rfl sc_law_kept.nd (p_range1 B.range (pa_cons (pv 1) pa_nil)) (blkOk_by (own := [("_law_k", 4)]) (N := ["_law_state", "_law_many", "_law_wide", "_law_side", "_law_k"]) (sc := defScope s_law_kept) (by decide +kernel)) (fun _ _ _ _ _ => (pg_name (i := 4) sc_law_kept.nd rfl (Or.inl rfl) (.inr rfl))) (fun _ _ _ _ _ => (pts_one (pt_cmpR op_eq (pe_cmpR op_eq (pe_fn C_law_take hr (by decide) (pa_cons (pv 0) (pa_cons (pv 2) pa_nil))) pe_int (nomark _)) (pe_cmpR op_eq (pv 3) pe_int (nomark _)) (nomark _)))) (fun _ _ _ _ _ => (pv 4)))))), ?_⟩
    walk_at "go"
    refine ⟨Nat.le_of_ble_eq_true rfl, fun tp ntp => ?_⟩
    refine ⟨S, tp, _, rfl, D0.new ntp, sa_t upd_same, D0.ne ntp, Nat.le_of_ble_eq_true rfl, Nat.le_of_ble_eq_true rfl, fun x H1 hx F1 D1 => ?_⟩
    obtain ⟨wide, rfl, hw1, hw2⟩ : ∃ wide : Int, x = .int wide ∧ 1 ≤ wide ∧ wide < 100 := by
      simp only [List.mem_cons, List.not_mem_nil, or_false] at hx
      rcases hx with h | h | h | h | h <;> exact ⟨_, h, by decide, by decide⟩
    walk_at "go"
    refine ⟨S, 2, rfl, D1, by decide, by decide, fun d H2 hd F2 D2 => ?_⟩
    walk_at "go"
    refine ⟨Nat.le_of_ble_eq_true rfl, fun tq ntq => ?_⟩
    have F02 : Fr S.st H H2 := ((Lf.Same.fr (Same.new (Same.refl H) ntp)).trans F1).trans F2
    walk_at "go"
    refine lc_w walk_r0 (fun D i H' => ∃ ns, Asc ns i ∧ Fr S.st (upd H2 tq (.tup [.int wide, .int (d : Nat)])) H' ∧ Dr H' S ∧ H' D = some (.lst (iv ns))) (fun D nD => ⟨[], ⟨List.Pairwise.nil, by simp⟩, Fr.new Fr.refl nD, (D2.new ntq).new nD, upd_same⟩) (fun _ _ _ _ _ _ => trivial) ?_ ?_
    · rintro D i x H3 H4 nD hi ⟨ns, As, F3, D3, g3⟩ ⟨rfl, rfl⟩
      have nDs := (D2.new ntq).ne nD
      walk_at "go"
      refine ⟨S, wide, rfl, D3, hw1, by omega, fun d2 H5 hd2 F5 D5 => ?_⟩
      walk_at "go"
      have g5 := F5 _ _ nDs g3
      refine k_bool (fun h => ?_) (fun h => ?_)
      · walk_at "go"
        refine ⟨_, g5, sz ?_, ns ++ [i], ⟨?_, ?_⟩, Fr.mut (F3.trans F5) nD, D5.mut (D2.new ntq) nD, ?_⟩
        · rw [iv_len]
          have := As.len
          omega
        · rw [List.pairwise_append]
          exact ⟨As.up, List.pairwise_singleton _ _, fun a ha b hb => by rw [List.mem_singleton.mp hb]; exact As.lt a ha⟩
        · intro y hy
          rcases List.mem_append.mp hy with h | h
          · have := As.lt y h; omega
          · rw [List.mem_singleton.mp h]; omega
        · rw [upd_same, iv_app]
      · exact ⟨ns, ⟨As.up, fun y hy => by have := As.lt y hy; omega⟩, F3.trans F5, D5, g5⟩
    · rintro D H3 nD ⟨ns, As, F3, D3, g3⟩
      have e2 : H2 D = none := new_none nD
      exact k ns D H3 As ((Fr.new F02 ntq).trans F3) (Fr.none F02 D2 e2) D3 g3
def spBase (Z : Cs) : Sp := fun vs H Q _ => ∃ (S : Ds) (n : Nat), vs = [.ref S.st, .int (n : Nat)] ∧ Dr H S ∧ 1 ≤ n ∧ n ≤ 60 ∧
  ∀ ws r p1 t1 p2 t2 tp H', Words ws n → Fr S.st H H' → H r = none → H' r = some (.lst (ws.map V.str)) → WkAt Z H' p1 t1 "a" ws → WkAt Z H' p2 t2 "a" ws → Dr H' S → H' tp = some (.tup [.ref r, .ref p1, .ref p2]) → Q (.ref tp) H'
theorem ok_base (B : Bn mg) (C_law_some_words : Cal P w K mg base 3 "_law_some_words" ["_law_state", "_law_many"] spSomeWords) (CWork : CalC P w K mg base 3 "Work" Z.W ["self", "name", "passages"] (spWorkInit K Z)) (D : Def K mg "_law_base" s_law_base) :
    Cal P w K mg base 5 "_law_base" ["_law_state", "_law_many"] (spBase Z) := by
  refine Cal.of D sc_law_base (fun _ _ _ _ _ _ us hl => match us, hl with | [_, _], _ => rfl) (fun vs H Q E h => ?_) (fun f cdv A outer s H vs Q E hr h => ?_)
  · obtain ⟨_, _, rfl, _⟩ := h; rfl
  · obtain ⟨S, n, rfl, D0, hn1, hn2, k⟩ := h
    refine ⟨_, (pss_cons (ps_set (i := 2) sc_law_base.nd rfl (Or.inl rfl) (pe_fn C_law_some_words hr (by decide) (pa_cons (pv 0) (pa_cons (pv 1) pa_nil))))
      (pss_one (ps_ret (pe_tup (pa_cons (pv 2) (pa_cons (pe_mk CWork hr (by decide) (pa_cons pe_str (pa_cons (pv 2) pa_nil))) (pa_cons (pe_mk CWork hr (by decide) (pa_cons pe_str (pa_cons (pe_callTy (n_tuple K) (by rfl) B.tuple (by decide +kernel) (pa_cons (pv 2) pa_nil)) pa_nil))) pa_nil))))))), ?_⟩
    walk_at "go"
    refine ⟨S, n, rfl, D0, hn2, fun ws r H1 hW F1 nr D1 g1 => ?_⟩
    have G := hW.good hn1 hn2
    walk_at "go"
    refine mk_work (show isW "a" = true by decide +kernel) G (sa_l g1) fun p1 t1 H2 S2 np1 W2 => ?_
    have g2 := S2 _ _ g1
    walk_at "go"
    refine k_tupl (sl_of g2) fun tq ntq => ?_
    walk_at "go"
    refine mk_work (show isW "a" = true by decide +kernel) G (sa_t upd_same) fun p2 t2 H3 S3 np2 W3 => ?_
    walk_at "go"
    refine ⟨Nat.le_of_ble_eq_true rfl, fun tp ntp => ?_⟩
    have S13 : Same H1 H3 := S2.trans ((Same.new (Same.refl H2) ntq).trans S3)
    refine k ws r p1 t1 p2 t2 tp _ hW (Fr.new (Fr.same F1 S13) ntp) nr (upd_new (S13 _ _ g1) ntp) (((W2.new ntq).sm S3).new ntp) (W3.new ntp) ((D1.same S13).new ntp) upd_same
def spEdition (K : PySem.W.Frag) (Z : Cs) : Sp := fun vs H Q _ => ∃ (wp t r a : Addr) (nm : Str) (ws : List Str) (ns : List Nat), vs = [.ref wp, .ref r, .ref a] ∧ WkAt Z H wp t nm ws ∧ Good ws ∧ H r = some (.lst (ws.map V.str)) ∧ SqA K H a (iv ns) ∧ Asc ns ws.length ∧
  ∀ p n H', Same H H' → H p = none → EdAt Z H' p n wp ns → Q (.ref p) H'
theorem ok_law_edition (CEdition : CalC P w K mg base 3 "Edition" Z.E ["self", "work", "passages"] (spEdInit K Z)) (D : Def K mg "_law_edition" s_law_edition) :
    Cal P w K mg base 5 "_law_edition" ["_law_base_here", "_law_rows", "_law_numbers"] (spEdition K Z) := by
  refine Cal.of D sc_law_edition (fun _ _ _ _ _ _ us hl => match us, hl with | [_, _, _], _ => rfl) (fun vs H Q E h => ?_) (fun f cdv A outer s H vs Q E hr h => ?_)
  · obtain ⟨_, _, _, _, _, _, _, rfl, _⟩ := h; rfl
  · obtain ⟨wp, t, r, a, nm, ws, ns, rfl, W0, G, hrow, hS, As, k⟩ := h
    have hlen : ns.length ≤ 100 := Nat.le_trans As.len G.le
    refine ⟨_, (pss_one (ps_ret (pe_mk CEdition hr (by decide) (pa_cons (pv 0) (pa_cons (pe_lc (own := [("_law_k", 3)]) (g := (gName 3)) rfl sc_law_edition.nd (q_seq K (pv 2)) (blkOk_by (own := [("_law_k", 3)]) (N := ["_law_base_here", "_law_rows", "_law_numbers", "_law_k"]) (sc := defScope s_law_edition) (by decide +kernel)) (fun _ _ _ _ _ => (pg_name (i := 3) sc_law_edition.nd rfl (Or.inl rfl) (.inr rfl))) (fun _ _ _ _ _ => pts_nil) (fun _ _ _ _ _ => (pe_ix (x_list K) (pv 1) (pv 3) (fun _ _ => rfl)))) pa_nil))))), ?_⟩
    walk_at "go"
    refine lc_seq hS (fun u hu => hu) (fun D i H' => Same H H' ∧ H' D = some (.lst (((ns.take i).map (wd ws)).map V.str))) (fun D nD => ⟨Same.new (Same.refl _) nD, upd_same⟩) ?_ ?_ ?_
    · rintro D i H' _ _ ⟨S1, _⟩ u hu
      exact rd_sm S1 hu
    · rintro D i x H' nD hi ⟨S1, g1⟩ hx
      obtain ⟨n, hn, rfl⟩ := iv_get hx
      have hnl : n < ws.length := As.lt n (List.mem_of_getElem? hn)
      have hat : atI (ws.map V.str) (n : Int) = some (.str (wd ws n)) := atI_nat (by rw [List.getElem?_map, wd_get hnl]; rfl)
      have hrow1 := S1 _ _ hrow
      walk_at "go"
      refine ⟨_, g1, sz ?_, Same.mut S1 nD, ?_⟩
      · rw [List.length_map, List.length_map]
        have := List.length_take_le' i ns
        omega
      · rw [upd_same, take_succ hn, List.map_append, List.map_append]; rfl
    · rintro D H' nD ⟨S1, g1⟩
      rw [iv_len, List.take_length] at g1
      walk_at "go"
      exact mk_ed (W0.sm S1) G (sa_l g1) As fun p n H2 S2 np hE => k p n H2 (S1.trans S2) (S1.free np) hE
/-- an edition of a work, with all that is known of them -/
structure Edn (Z : Cs) (H : Hp) (p : Addr) (ws : List Str) (ns : List Nat) : Prop where
  ex : ∃ n wp t, EdAt Z H p n wp ns ∧ WkAt Z H wp t "a" ws
  asc : Asc ns ws.length
theorem Edn.sm {H H' : Hp} {p : Addr} {ws : List Str} {ns : List Nat} (s : Same H H') (h : Edn Z H p ws ns) : Edn Z H' p ws ns := by
  obtain ⟨⟨n, wp, t, h1, h2⟩, h3⟩ := h
  exact ⟨⟨n, wp, t, h1.sm s, h2.sm s⟩, h3⟩
theorem Edn.dr {H H' : Hp} {S : Ds} {p : Addr} {ws : List Str} {ns : List Nat} (f : Fr S.st H H') (d : Dr H S) (h : Edn Z H p ws ns) : Edn Z H' p ws ns := by
  obtain ⟨⟨n, wp, t, h1, h2⟩, h3⟩ := h
  exact ⟨⟨n, wp, t, h1.dr f d, h2.dr f d⟩, h3⟩
/-- the kernels of all cuts -/
def row (m : Nat) (ns : List Nat) : List Nat := (List.range (m + 1)).map (kern ns)
def spRow (Z : Cs) : Sp := fun vs H Q _ => ∃ (p : Addr) (ws : List Str) (ns : List Nat), vs = [.ref p, .int (ws.length : Nat)] ∧ Edn Z H p ws ns ∧ Good ws ∧ ∀ l H', Same H H' → H l = none → H' l = some (.lst (iv (row ws.length ns))) → Q (.ref l) H'
theorem ok_row (B : Bn mg) (T : Tw K mg Z) (CEdition_kernel : CalM P w K mg base 4 Z.E "kernel" ["self", "cut"] (spKern Z)) (D : Def K mg "_law_row" s_law_row) : Cal P w K mg base 5 "_law_row" ["_law_made", "_law_far"] (spRow Z) := by
  refine Cal.of D sc_law_row (fun _ _ _ _ _ _ us hl => match us, hl with | [_, _], _ => rfl) (fun vs H Q E h => ?_) (fun f cdv A outer s H vs Q E hr h => ?_)
  · obtain ⟨_, _, _, rfl, _⟩ := h; rfl
  · obtain ⟨p, ws, ns, rfl, ⟨⟨n, wp, t, E1, W1⟩, As⟩, G, k⟩ := h
    have hG := G.le
    refine ⟨_, (pss_one (ps_ret (pe_lc (own := [("_law_k", 2)]) (g := (gName 2)) rfl sc_law_row.nd (p_range1 B.range (pa_cons (pe_op op_add (pv 1) pe_int) pa_nil)) (blkOk_by (own := [("_law_k", 2)]) (N := ["_law_made", "_law_far", "_law_k"]) (sc := defScope s_law_row) (by decide +kernel)) (fun _ _ _ _ _ => (pg_name (i := 2) sc_law_row.nd rfl (Or.inl rfl) (.inr rfl))) (fun _ _ _ _ _ => pts_nil) (fun _ _ _ _ _ => (pe_mt (pv 0) T.clE CEdition_kernel hr (by decide) (pa_cons (pv 2) pa_nil)))))), ?_⟩
    walk_at "go"
    rw [show ((ws.length : Int) + 1).toNat = ws.length + 1 by omega]
    refine lc_w walk_r0 (fun D i H' => Same H H' ∧ H' D = some (.lst (iv ((List.range i).map (kern ns))))) (fun D nD => ⟨Same.new (Same.refl _) nD, upd_same⟩) (fun _ _ _ _ _ _ => trivial) ?_ ?_
    · rintro D i x H1 H2 nD hi ⟨S2, g2⟩ ⟨rfl, rfl⟩
      walk_at "go"
      refine ⟨p, n, wp, t, _, ws, ns, i, rfl, E1.sm S2, W1.sm S2, G, As, by omega, fun H3 S3 => ?_⟩
      refine ⟨_, S3 _ _ g2, sz ?_, Same.mut (S2.trans S3) nD, ?_⟩
      · rw [iv_len, List.length_map, List.length_range]; omega
      · rw [upd_same, List.range_succ, List.map_append, List.map_singleton, iv_app]
    · rintro D H2 nD ⟨S2, g2⟩
      exact k D H2 S2 nD g2
end
end Lf

set_option Elab.async false
set_option linter.all false
set_option maxHeartbeats 2000000
/-! The plain law of kernels. -/
namespace Lf
/-- the kernel of a cut, by which passages are there -/
def kr (f : Nat → Bool) : Nat → Nat
  | 0 => 0
  | k + 1 => if f k = true then k + 1 else kr f k
theorem kr_yes {f : Nat → Bool} {k : Nat} (h : f k = true) : kr f (k + 1) = k + 1 := if_pos h
theorem kr_no {f : Nat → Bool} {k : Nat} (h : ¬ f k = true) : kr f (k + 1) = kr f k := if_neg h
theorem kr_le (f : Nat → Bool) : ∀ k, kr f k ≤ k
  | 0 => Nat.le_refl _
  | k + 1 => by
    by_cases h : f k = true
    · rw [kr_yes h]; exact Nat.le_refl _
    · rw [kr_no h]; exact Nat.le_trans (kr_le f k) (Nat.le_succ k)
theorem kr_step (f : Nat → Bool) (k : Nat) : kr f k ≤ kr f (k + 1) := by
  by_cases h : f k = true
  · rw [kr_yes h]; exact Nat.le_trans (kr_le f k) (Nat.le_succ k)
  · rw [kr_no h]; exact Nat.le_refl _
theorem kr_mono (f : Nat → Bool) : ∀ {k l}, k ≤ l → kr f k ≤ kr f l := fun {k l} h => by
  induction h with
  | refl => exact Nat.le_refl _
  | step _ ih => exact Nat.le_trans ih (kr_step f _)
theorem kr_idem (f : Nat → Bool) : ∀ k, kr f (kr f k) = kr f k
  | 0 => rfl
  | k + 1 => by
    by_cases h : f k = true
    · rw [kr_yes h, kr_yes h]
    · rw [kr_no h]; exact kr_idem f k
theorem kr_fix (f : Nat → Bool) : ∀ k, (kr f k = k) ↔ (k = 0 ∨ f (k - 1) = true)
  | 0 => ⟨fun _ => .inl rfl, fun _ => rfl⟩
  | k + 1 => by
    by_cases h : f k = true
    · rw [kr_yes h]; exact ⟨fun _ => .inr h, fun _ => rfl⟩
    · rw [kr_no h]
      constructor
      · intro e
        have := kr_le f k
        omega
      · rintro (e | e)
        · omega
        · exact absurd e h
theorem kr_congr {f g : Nat → Bool} : ∀ {k}, (∀ x, x < k → f x = g x) → kr f k = kr g k
  | 0, _ => rfl
  | k + 1, h => by
    have e := kr_congr (k := k) fun x hx => h x (by omega)
    unfold kr
    rw [h k (by omega), e]
theorem kr_or (f g : Nat → Bool) : ∀ k, kr (fun x => f x || g x) k = max (kr f k) (kr g k)
  | 0 => rfl
  | k + 1 => by
    have l1 := kr_le f (k + 1)
    have l2 := kr_le g (k + 1)
    by_cases h1 : f k = true
    · rw [kr_yes (f := fun x => f x || g x) (by simp [h1]), kr_yes h1]; omega
    · by_cases h2 : g k = true
      · rw [kr_yes (f := fun x => f x || g x) (by simp [h2]), kr_yes h2]; omega
      · rw [kr_no (f := fun x => f x || g x) (by simp [h1, h2]), kr_no h1, kr_no h2]; exact kr_or f g k
/-- & : the greatest cut not above it at which both stand -/
theorem kr_and_in (f g : Nat → Bool) (k : Nat) : kr f (kr (fun x => f x && g x) k) = kr (fun x => f x && g x) k ∧ kr g (kr (fun x => f x && g x) k) = kr (fun x => f x && g x) k := by
  have h := (kr_fix (fun x => f x && g x) (kr (fun x => f x && g x) k)).mp (kr_idem _ k)
  rcases h with h | h
  · rw [h]; exact ⟨rfl, rfl⟩
  · rw [Bool.and_eq_true] at h
    exact ⟨(kr_fix f _).mpr (.inr h.1), (kr_fix g _).mpr (.inr h.2)⟩
theorem kr_and_max (f g : Nat → Bool) {k n : Nat} (hn : n ≤ k) (h1 : kr f n = n) (h2 : kr g n = n) : n ≤ kr (fun x => f x && g x) k := by
  have e : kr (fun x => f x && g x) n = n := by
    refine (kr_fix _ n).mpr ?_
    rcases (kr_fix f n).mp h1 with h | h
    · exact .inl h
    · rcases (kr_fix g n).mp h2 with h' | h'
      · exact .inl h'
      · exact .inr (by rw [h, h']; rfl)
  exact e ▸ kr_mono _ hn
theorem kr_sub {f g : Nat → Bool} : ∀ {k}, (∀ x, x < k → f x = true → g x = true) → kr f k ≤ kr g k
  | 0, _ => Nat.le_refl _
  | k + 1, h => by
    by_cases h1 : f k = true
    · rw [kr_yes h1, kr_yes (h k (by omega) h1)]; exact Nat.le_refl _
    · rw [kr_no h1]
      exact Nat.le_trans (kr_sub fun x hx => h x (by omega)) (kr_step g k)
theorem kr_sub_iff {f g : Nat → Bool} {m : Nat} : (∀ x, x < m → f x = true → g x = true) ↔ ∀ k, k ≤ m → kr f k ≤ kr g k := by
  constructor
  · intro h k hk
    exact kr_sub fun x hx => h x (by omega)
  · intro h x hx hf
    have h1 := h (x + 1) hx
    rw [kr_yes hf] at h1
    by_cases hg : g x = true
    · exact hg
    · rw [kr_no hg] at h1
      have := kr_le g x
      omega
theorem kr_all {f : Nat → Bool} {m : Nat} (h : ∀ x, x < m → f x = true) : ∀ {k}, k ≤ m → kr f k = k
  | 0, _ => rfl
  | k + 1, hk => kr_yes (h k hk)
theorem kr_none : ∀ k, kr (fun _ => false) k = 0
  | 0 => rfl
  | k + 1 => by rw [kr_no (by simp)]; exact kr_none k

/-! ### the numbers of an edition -/
def inN (ns : List Nat) : Nat → Bool := fun x => decide (x ∈ ns)
theorem cnt_cons (a : Nat) (r : List Nat) (k : Nat) : cntA (a :: r) k = (if a < k then 1 else 0) + cntA r k := by
  unfold cntA
  by_cases h : a < k
  · rw [List.filter_cons_of_pos (by simp [h]), if_pos h, List.length_cons]; omega
  · rw [List.filter_cons_of_neg (by simp [h]), if_neg h]; omega
theorem cnt_zero : ∀ (r : List Nat) (k : Nat), (∀ x ∈ r, k ≤ x) → cntA r k = 0
  | [], _, _ => rfl
  | a :: r, k, h => by
    rw [cnt_cons, if_neg (by have := h a List.mem_cons_self; omega), cnt_zero r k fun x hx => h x (List.mem_cons_of_mem _ hx)]
/-- the i-th of ascending numbers is below k just if more than i of them are -/
theorem cnt_lt : ∀ (ns : List Nat) (k i : Nat) (h : i < ns.length), ns.Pairwise (· < ·) → (ns[i] < k ↔ i < cntA ns k)
  | a :: r, k, i, h, hp => by
    have hp' := List.pairwise_cons.mp hp
    rw [cnt_cons]
    by_cases ha : a < k
    · rw [if_pos ha]
      cases i with
      | zero => exact ⟨fun _ => by omega, fun _ => ha⟩
      | succ i =>
        have ih := cnt_lt r k i (by simpa using h) hp'.2
        rw [List.getElem_cons_succ]
        rw [ih]; omega
    · have hz : cntA r k = 0 := cnt_zero r k fun x hx => by have := hp'.1 x hx; omega
      rw [if_neg ha, hz]
      have : ¬ (a :: r)[i] < k := by
        cases i with
        | zero => exact ha
        | succ i =>
          rw [List.getElem_cons_succ]
          have := hp'.1 _ (List.getElem_mem (l := r) (n := i) (by simpa using h))
          omega
      exact ⟨fun q => absurd q this, fun q => by omega⟩
theorem cutB_eq {ns : List Nat} {c : Nat} (h0 : c ≠ 0) (h : c ≤ ns.length) : cutB ns c = ns[c - 1]'(by omega) + 1 := by
  unfold cutB
  rw [if_neg h0, List.getD_eq_getElem?_getD, List.getElem?_eq_getElem (show c - 1 < ns.length by omega)]
  rfl
theorem cut_le_iff {ns : List Nat} {m c k : Nat} (A : Asc ns m) (h : c ≤ ns.length) : cutB ns c ≤ k ↔ c ≤ cntA ns k := by
  by_cases h0 : c = 0
  · subst h0; exact ⟨fun _ => Nat.zero_le _, fun _ => Nat.zero_le _⟩
  · rw [cutB_eq h0 h]
    have := cnt_lt ns k (c - 1) (by omega) A.up
    constructor
    · intro q
      have := this.mp (by omega)
      omega
    · intro q
      have := this.mpr (by omega)
      omega
theorem cnt_cut {ns : List Nat} {m c : Nat} (A : Asc ns m) (h : c ≤ ns.length) : cntA ns (cutB ns c) = c := by
  have h1 := (cut_le_iff A h (k := cutB ns c)).mp (Nat.le_refl _)
  by_cases h2 : cntA ns (cutB ns c) = c
  · exact h2
  · have hl := cntA_le ns (cutB ns c)
    have h3 : c + 1 ≤ cntA ns (cutB ns c) := by omega
    have h4 := (cut_le_iff A (c := c + 1) (k := cutB ns c) (by omega)).mpr h3
    rw [cutB_eq (by omega) (by omega)] at h4
    by_cases h0 : c = 0
    · subst h0
      have : cutB ns 0 = 0 := rfl
      omega
    · rw [cutB_eq h0 h] at h4
      have := List.pairwise_iff_getElem.mp A.up (c - 1) (c + 1 - 1) (by omega) (by omega) (by omega)
      omega
theorem cut_le {ns : List Nat} {m c : Nat} (A : Asc ns m) (h : c ≤ ns.length) : cutB ns c ≤ m := by
  by_cases h0 : c = 0
  · subst h0; exact Nat.zero_le _
  · rw [cutB_eq h0 h]
    exact A.lt _ (List.getElem_mem _)
theorem kern_le {ns : List Nat} {m k : Nat} (A : Asc ns m) : kern ns k ≤ k := (cut_le_iff A (cntA_le ns k)).mpr (Nat.le_refl _)
theorem kern_kr {ns : List Nat} {m : Nat} (A : Asc ns m) : ∀ k, kern ns k = kr (inN ns) k
  | 0 => by
    have := kern_le A (k := 0)
    show kern ns 0 = 0
    omega
  | k + 1 => by
    have ih := kern_kr A k
    by_cases h : inN ns k = true
    · rw [kr_yes h]
      have hm : k ∈ ns := of_decide_eq_true h
      obtain ⟨i, hi, e⟩ := List.getElem_of_mem hm
      have h1 := (cnt_lt ns (k + 1) i hi A.up).mp (by omega)
      have h2 : cutB ns (i + 1) = k + 1 := by rw [cutB_eq (by omega) (by omega)]; simp [e]
      have h3 : cutB ns (i + 1) ≤ kern ns (k + 1) := by
        unfold kern
        have hq := cntA_le ns (k + 1)
        by_cases hc : i + 1 = cntA ns (k + 1)
        · rw [hc]; exact Nat.le_refl _
        · rw [cutB_eq (c := i + 1) (by omega) (by omega), cutB_eq (c := cntA ns (k + 1)) (by omega) hq]
          have := List.pairwise_iff_getElem.mp A.up (i + 1 - 1) (cntA ns (k + 1) - 1) (by omega) (by omega) (by omega)
          omega
      have h4 := kern_le A (k := k + 1)
      omega
    · rw [kr_no h, ← ih]
      have hm : k ∉ ns := fun q => h (decide_eq_true q)
      unfold kern
      congr 1
      unfold cntA
      congr 1
      refine List.filter_congr fun x hx => ?_
      rw [decide_eq_decide]
      have : x ≠ k := fun e => hm (e ▸ hx)
      omega
end Lf

set_option Elab.async false
set_option linter.all false
set_option maxRecDepth 100000
set_option maxHeartbeats 2000000
/-! The law's own looks at kernels and counts. -/
namespace Lf
open PySem L2
local macro_rules | `(tactic| walk_at "nq") => `(tactic| first | with_reducible assumption | with_reducible exact Ne.symm (by assumption) | with_reducible exact ne_of_none (by assumption) (by assumption) | with_reducible exact Ne.symm (ne_of_none (by assumption) (by assumption)))
local macro_rules | `(tactic| walk_at "gt") => `(tactic| first | with_reducible assumption | with_reducible exact upd_same | ((with_reducible refine' upd_new ?ha ?hb); (case hb => with_reducible assumption); (case ha => walk_at "gt")) | ((with_reducible refine' upd_old ?ha ?hb); (case hb => walk_at "nq"); (case ha => walk_at "gt")) | ((with_reducible refine' sm_get ?hb ?ha); (case hb => with_reducible assumption); (case ha => walk_at "gt")) | ((with_reducible refine' fr_get ?hb ?ha ?hc); (case hb => with_reducible assumption); (case hc => walk_at "nq"); (case ha => walk_at "gt")))
local macro_rules | `(tactic| walk_at "sl") => `(tactic| first | with_reducible assumption | ((with_reducible refine' sl_of ?ha); (case ha => walk_at "gt")) | ((with_reducible refine' sl_new ?ha ?hb); (case hb => with_reducible assumption); (case ha => walk_at "sl")) | ((with_reducible refine' sl_sm ?hb ?ha); (case hb => with_reducible assumption); (case ha => walk_at "sl")) | ((with_reducible refine' sl_fr ?hb ?hc ?ha); (case hb => with_reducible assumption); (case hc => walk_at "nq"); (case ha => walk_at "sl")))
local macro_rules | `(tactic| walk_at "st") => `(tactic| first | with_reducible assumption | ((with_reducible refine' st_of ?ha); (case ha => walk_at "gt")) | ((with_reducible refine' st_new ?ha ?hb); (case hb => with_reducible assumption); (case ha => walk_at "st")) | ((with_reducible refine' st_sm ?hb ?ha); (case hb => with_reducible assumption); (case ha => walk_at "st")) | ((with_reducible refine' st_fr ?hb ?hc ?ha); (case hb => with_reducible assumption); (case hc => walk_at "nq"); (case ha => walk_at "st")))
local macro_rules | `(tactic| walk_at "sa") => `(tactic| first | with_reducible assumption | ((with_reducible refine' sa_l ?ha); (case ha => walk_at "gt")) | ((with_reducible refine' sa_t ?ha); (case ha => walk_at "gt")) | ((with_reducible refine' sa_new ?ha ?hb); (case hb => with_reducible assumption); (case ha => walk_at "sa")) | ((with_reducible refine' sa_sm ?hb ?ha); (case hb => with_reducible assumption); (case ha => walk_at "sa")) | ((with_reducible refine' sa_fr ?hb ?hc ?ha); (case hb => with_reducible assumption); (case hc => walk_at "nq"); (case ha => walk_at "sa")) | ((with_reducible refine' Or.inl ?ha); (case ha => walk_at "sl")) | ((with_reducible refine' Or.inr ?ha); (case ha => walk_at "st")))
local macro_rules | `(tactic| walk_at "ln") => `(tactic| first | decide | omega | exact Nat.le_of_ble_eq_true rfl | (simp only [List.length_append, List.length_map, List.length_cons, List.length_nil, List.length_flatMap]; omega))
local macro_rules | `(tactic| walk_at "ty") => `(tactic| first | with_reducible assumption | with_reducible exact .base (.int _) | with_reducible exact .base (.str _) | with_reducible exact .base (.bl _) | with_reducible exact .base .non | ((with_reducible refine' TyX.base (TyOf.lst ?ha)); (case ha => walk_at "gt")) | ((with_reducible refine' TyX.base (TyOf.tup ?ha)); (case ha => walk_at "gt")) | ((with_reducible refine' TyX.base (TyOf.dK ?ha)); (case ha => walk_at "gt")) | ((with_reducible refine' ty_new ?ha ?hb); (case hb => with_reducible assumption); (case ha => walk_at "ty")) | ((with_reducible refine' ty_sm ?hb ?ha); (case hb => with_reducible assumption); (case ha => walk_at "ty")))
local macro_rules | `(tactic| walk_at "kb") => `(tactic| first | with_reducible assumption | exact kb_str_str | exact kb_int_str | exact kb_list_str | exact kb_tuple_str | exact kb_bool_str | exact kb_NoneType_str | exact kb_dict_str | exact kb_str_int | exact kb_int_int | exact kb_list_int | exact kb_tuple_int | exact kb_bool_int | exact kb_NoneType_int | exact kb_dict_int | exact kb_str_bool | exact kb_int_bool | exact kb_list_bool | exact kb_tuple_bool | exact kb_bool_bool | exact kb_NoneType_bool | exact kb_dict_bool | exact kb_str_list | exact kb_int_list | exact kb_list_list | exact kb_tuple_list | exact kb_bool_list | exact kb_NoneType_list | exact kb_dict_list | exact kb_str_tuple | exact kb_int_tuple | exact kb_list_tuple | exact kb_tuple_tuple | exact kb_bool_tuple | exact kb_NoneType_tuple | exact kb_dict_tuple | exact kb_str_dict | exact kb_int_dict | exact kb_list_dict | exact kb_tuple_dict | exact kb_bool_dict | exact kb_NoneType_dict | exact kb_dict_dict)
local macro_rules | `(tactic| walk_at "wk") => `(tactic| first | with_reducible assumption | ((with_reducible refine' WkAt.new ?ha ?hb); (case hb => with_reducible assumption); (case ha => walk_at "wk")) | ((with_reducible refine' WkAt.sm ?hb ?ha); (case hb => with_reducible assumption); (case ha => walk_at "wk")) | ((with_reducible refine' WkAt.dr ?hb ?hc ?ha); (case hb => with_reducible assumption); (case hc => with_reducible assumption); (case ha => walk_at "wk")))
local macro_rules | `(tactic| walk_at "ed") => `(tactic| first | with_reducible assumption | ((with_reducible refine' EdAt.new ?ha ?hb); (case hb => with_reducible assumption); (case ha => walk_at "ed")) | ((with_reducible refine' EdAt.sm ?hb ?ha); (case hb => with_reducible assumption); (case ha => walk_at "ed")) | ((with_reducible refine' EdAt.dr ?hb ?hc ?ha); (case hb => with_reducible assumption); (case hc => with_reducible assumption); (case ha => walk_at "ed")))
local macro_rules | `(tactic| walk_at "fl") => `(tactic| first | with_reducible assumption | ((with_reducible refine' WkAt.rows ?hT ?hW); (case hT => assumption); (case hW => walk_at "wk")) | ((with_reducible refine' WkAt.name ?hT ?hW); (case hT => assumption); (case hW => walk_at "wk")) | ((with_reducible refine' EdAt.work ?hT ?hW); (case hT => assumption); (case hW => walk_at "ed")) | ((with_reducible refine' EdAt.nums ?hT ?hW); (case hT => assumption); (case hW => walk_at "ed")))
local macro_rules | `(tactic| walk_at "mt") => `(tactic| first | with_reducible assumption | ((with_reducible refine' WkAt.mt ?hn1 ?hn2 ?hW); (case hW => walk_at "wk"); (case hn1 => decide +kernel); (case hn2 => decide +kernel)) | ((with_reducible refine' EdAt.mt ?hn1 ?hn2 ?hW); (case hW => walk_at "ed"); (case hn1 => decide +kernel); (case hn2 => decide +kernel)))
local macro_rules | `(tactic| walk_at "is") => `(tactic| first | with_reducible assumption | ((with_reducible refine' WkAt.is ?hW); (case hW => walk_at "wk")) | ((with_reducible refine' EdAt.is ?hW); (case hW => walk_at "ed")))
local macro_rules | `(tactic| walk_at "ic") => `(tactic| first
  | ((with_reducible show CMul _ _); first | exact Or.inl ⟨by decide, by decide⟩ | exact Or.inr ⟨by decide, by decide⟩ | exact Or.inl ⟨by omega, by omega⟩ | exact Or.inr ⟨by omega, by omega⟩)
  | ((with_reducible show CDiv _ _); first | exact ⟨by decide, by decide⟩ | exact ⟨by omega, by omega⟩)
  | ((with_reducible show CPow _ _); first | exact ⟨by decide, by decide, by decide⟩ | exact ⟨by decide, by decide, by omega⟩)
  | (show (0 : Int) < _; first | decide | omega))
local macro_rules | `(tactic| walk_at "s1") => `(tactic| first
  | with_reducible refine k_seq ?_
  | with_reducible refine k_set ?_
  | with_reducible refine k_asg ?_
  | with_reducible refine k_par ?_
  | with_reducible refine k_par2 ?_
  | with_reducible refine k_drop ?_
  | with_reducible refine k_ret ?_
  | with_reducible refine k_next ?_
  | with_reducible refine k_if ?_
  | ((with_reducible refine' k_aug ?hv ?_); (case hv => exact rfl))
  | with_reducible refine k_ipI ?_
  | with_reducible refine k_gname ?_
  | with_reducible refine k_gsub ?_
  | ((with_reducible refine' k_gtup ?hv ?hw ?_); (case hv => walk_at "st"); (case hw => rfl))
  | with_reducible refine k_gcons ?_
  | with_reducible refine k_gnil ?_
  | with_reducible refine k_test ?_
  | with_reducible refine k_B ?_
  | with_reducible refine k_blE ?_
  | with_reducible refine k_and ?_
  | with_reducible refine k_or ?_
  | with_reducible refine k_not ?_
  | with_reducible refine iteT ?_
  | with_reducible refine iteF ?_
  | with_reducible refine iteNT ?_
  | with_reducible refine iteNF ?_
  | ((with_reducible refine' k_var ?hv ?_); (case hv => exact rfl))
  | with_reducible refine k_c ?_
  | with_reducible refine k_op ?_
  | with_reducible refine k_un ?_
  | with_reducible refine k_U ?_
  | with_reducible refine k_I0 ?_
  | ((with_reducible refine' k_I ?hv ?_); (case hv => walk_at "ic"))
  | with_reducible refine k_eqI ?_
  | with_reducible refine k_neI ?_
  | with_reducible refine k_eqS ?_
  | with_reducible refine k_neS ?_
  | with_reducible refine k_eqB ?_
  | with_reducible refine k_neB ?_
  | with_reducible refine k_for ?_
  | with_reducible refine k_iE ?_
  | with_reducible refine k_iA ?_
  | ((with_reducible refine' k_itl ?hv ?_); (case hv => walk_at "sl"))
  | ((with_reducible refine' k_itt ?hv ?_); (case hv => walk_at "st"))
  | with_reducible refine k_its ?_
  | ((with_reducible refine' k_rg1n ?hv ?_); (case hv => first | decide | omega))
  | ((with_reducible refine' k_rg1 ?hv ?hw ?_); (case hv => first | decide | omega); (case hw => first | decide | omega))
  | ((with_reducible refine' k_inS ?hv ?_); (case hv => walk_at "sa"))
  | ((with_reducible refine' k_inI ?hv ?_); (case hv => walk_at "sa"))
  | ((with_reducible refine' k_ninS ?hv ?_); (case hv => walk_at "sa"))
  | ((with_reducible refine' k_ninI ?hv ?_); (case hv => walk_at "sa"))
  | ((with_reducible refine' k_zipl ?hv ?hw ?_); (case hv => walk_at "sl"); (case hw => walk_at "sl"))
  | with_reducible refine k_nil ?_
  | with_reducible refine k_cons ?_
  | with_reducible refine k_cb ?_
  | with_reducible refine k_call ?_
  | with_reducible refine k_lst ?_
  | with_reducible refine k_tup ?_
  | with_reducible refine k_ifx ?_
  | with_reducible refine k_andv ?_
  | with_reducible refine k_orv ?_
  | with_reducible refine k_notv ?_
  | with_reducible refine k_inti ?_
  | with_reducible refine k_intb ?_
  | with_reducible refine k_sl ?_
  | with_reducible refine k_nopart ?_
  | with_reducible refine k_part ?_
  | with_reducible refine k_parti ?_
  | ((with_reducible refine' k_lenl ?hv ?_); (case hv => walk_at "sl"))
  | ((with_reducible refine' k_lent ?hv ?_); (case hv => walk_at "st"))
  | ((with_reducible refine' k_lens ?hv ?_); (case hv => exact szl (by walk_at "ln")))
  | ((with_reducible refine' k_lena ?hv ?_); (case hv => walk_at "sa"))
  | ((with_reducible refine' k_ixl ?hv ?hn ?_); (case hv => walk_at "sl"); (case hn => first | rfl | assumption))
  | ((with_reducible refine' k_ixt ?hv ?hn ?_); (case hv => walk_at "st"); (case hn => first | rfl | assumption))
  | ((with_reducible refine' k_ixa ?hv ?hn ?_); (case hv => walk_at "sa"); (case hn => first | rfl | assumption))
  | with_reducible refine k_chain ?_
  | ((with_reducible refine' k_isi ?hv ?hw ?_); (case hv => walk_at "ty"); (case hw => walk_at "kb"))
  | ((with_reducible refine' k_isi2 ?hb ?hp ?hv ?hw ?hx ?_); (case hp => walk_at "gt"); (case hv => walk_at "ty"); (case hw => walk_at "kb"); (case hx => walk_at "kb"); (case hb => first | exact or_t | exact or_f))
  | ((with_reducible refine' k_all ?hv ?_); (case hv => walk_at "gt"))
  | ((with_reducible refine' k_any ?hv ?_); (case hv => walk_at "gt"))
  | with_reducible refine k_insign ?_
  | with_reducible refine k_fldR ?_
  | ((with_reducible refine' k_fl ?hv ?_); (case hv => walk_at "fl"))
  | with_reducible refine k_sfld ?_
  | with_reducible refine k_meth ?_
  | ((with_reducible refine' k_mt ?hv ?_); (case hv => walk_at "mt"))
  | with_reducible refine k_make ?_
  | ((with_reducible refine' k_own ?hv ?hw ?_); (case hv => walk_at "is"); (case hw => walk_at "is"))
  | ((with_reducible refine' k_ownin ?hv ?_); (case hv => walk_at "is"))
  | ((with_reducible refine' k_lenO ?hv ?_); (case hv => walk_at "is"))
  | with_reducible refine k_lrg ?_
  | with_reducible refine k_rgt ?_
  | with_reducible refine k_rgti ?_
  | with_reducible refine k_bm ?_
  | with_reducible refine k_bm0 ?_
  | with_reducible refine k_tys ?_
  | ((with_reducible refine' k_tyl ?hv ?_); (case hv => walk_at "sl"))
  | ((with_reducible refine' k_ext ?hv ?hw ?hn ?_); (case hv => walk_at "gt"); (case hw => walk_at "gt"); (case hn => walk_at "ln"))
  | ((with_reducible refine' k_app ?hv ?hn ?_); (case hv => walk_at "gt"); (case hn => walk_at "ln"))
  | ((with_reducible refine' k_popat ?hv ?hn ?hw ?_); (case hv => walk_at "gt"); (case hn => with_reducible assumption); (case hw => walk_at "ln"))
  | with_reducible refine k_lc ?_
  | with_reducible refine k_yes0 ?_
  | ((with_reducible show wipe _ _ = wipe _ _ ∧ _); refine ⟨rfl, ?_⟩)
  | ((with_reducible refine' k_adds ?hv ?_); (case hv => walk_at "ln"))
  | ((with_reducible refine' k_st1 ?hv ?_); (case hv => walk_at "gt"))
  | ((with_reducible refine' k_st2 ?hv ?_); (case hv => walk_at "gt"))
  | ((with_reducible refine' k_st3 ?hv ?_); (case hv => walk_at "gt"))
  | ((with_reducible refine' k_setl ?hv ?hn ?_); (case hv => walk_at "gt"); (case hn => rfl)))
local macro_rules | `(tactic| walk_at "put") => `(tactic| ((refine' ⟨_, ?ha, sz ?hb, ?_⟩); (case ha => walk_at "gt"); (case hb => walk_at "ln")))
local macro_rules | `(tactic| walk_at "go") => `(tactic| repeat (walk_at "s1"))

abbrev s_law_is_kernel : Stmt := top 32
theorem sc_law_is_kernel : FnScope ["_law_made", "_law_rows", "_law_told", "_law_k", "_law_x"] ["_law_made", "_law_rows", "_law_told"] (defScope s_law_is_kernel) := ⟨rfl, rfl, rfl, by decide +kernel, rfl, by decide +kernel, by decide +kernel⟩
abbrev s_law_counts_right : Stmt := top 33
theorem sc_law_counts_right : FnScope ["_law_made", "_law_far", "_law_many", "_law_k", "_law_size", "_law_n"] ["_law_made", "_law_far"] (defScope s_law_counts_right) := ⟨rfl, rfl, rfl, by decide +kernel, rfl, by decide +kernel, by decide +kernel⟩
theorem row_len (m : Nat) (ns : List Nat) : (row m ns).length = m + 1 := by unfold row; rw [List.length_map, List.length_range]
theorem row_get {m j : Nat} (ns : List Nat) (h : j ≤ m) : (row m ns)[j]? = some (kern ns j) := by
  unfold row
  rw [List.getElem?_map, List.getElem?_range (by omega)]
  rfl
theorem row_at {m j : Nat} (ns : List Nat) (h : j ≤ m) : atI (iv (row m ns)) (j : Int) = some (.int (kern ns j : Nat)) := by
  refine atI_nat ?_
  rw [List.getElem?_map, List.getElem?_map, row_get ns h]
  rfl
section
variable {P : Program} {w : World} {K : PySem.W.Frag} {mg : Str → Option Value} {base : Heap} {Z : Cs}
def spIsKern (Z : Cs) : Sp := fun vs H Q _ => ∃ (p r l : Addr) (ws : List Str) (ns : List Nat), vs = [.ref p, .ref r, .ref l] ∧ Edn Z H p ws ns ∧ Good ws ∧ H r = some (.lst (ws.map V.str)) ∧ H l = some (.lst (iv (row ws.length ns))) ∧ ∀ H', Same H H' → Q (.bl true) H'
theorem ok_is_kernel (B : Bn mg) (T : Tw K mg Z) (CEdition___contains__ : CalM P w K mg base 2 Z.E "__contains__" ["self", "word"] (spEdIn Z)) (D : Def K mg "_law_is_kernel" s_law_is_kernel) :
    Cal P w K mg base 3 "_law_is_kernel" ["_law_made", "_law_rows", "_law_told"] (spIsKern Z) := by
  refine Cal.of D sc_law_is_kernel (fun _ _ _ _ _ _ us hl => match us, hl with | [_, _, _], _ => rfl) (fun vs H Q E h => ?_) (fun f cdv A outer s H vs Q E hr h => ?_)
  · obtain ⟨_, _, _, _, _, rfl, _⟩ := h; rfl
  · obtain ⟨p, r, l, ws, ns, rfl, ⟨⟨n, wp, t, E1, W1⟩, As⟩, G, hrow, htold, k⟩ := h
    refine ⟨_, (pss_cons (ps_for PassesOwn.never rfl (q_enum K B.enumerate (pa_cons (pv 2) pa_nil)) (pg_tup rfl (pgs_cons (pg_name (i := 3) sc_law_is_kernel.nd rfl (Or.inl rfl)) (pgs_cons (pg_name (i := 4) sc_law_is_kernel.nd rfl (Or.inl rfl)) pgs_nil))) (pss_cons (ps_if (pt_ans (PW.pt (pw_or (pt_cmpR op_gt (pv 4) (pv 3) (nomark _)) (pw_or (PW.pt (pw_and (pt_cmpR op_gt (pv 3) pe_int (nomark _)) (pw_and1 (pt_cmpR op_gt (pe_ix (x_list K) (pv 2) (pe_op op_sub (pv 3) pe_int) (fun _ _ => rfl)) (pv 4) (nomark _))))) (pw_or1 (pt_cmpR op_ne (pe_ix (x_list K) (pv 2) (pv 4) (fun _ _ => rfl)) (pv 4) (nomark _))))))) (pss_one (ps_ret pe_bl)) pss_nil)
      (pss_one (ps_if (pt_cmpR op_ne (pe_cmpR op_eq (pv 4) (pv 3) (nomark _)) (pe_or (pe_cmpR op_eq (pv 3) pe_int (nomark _)) (pe_one (pe_cmpR (o_in CEdition___contains__ hr (by decide)) (pe_ix (x_list K) (pv 1) (pe_op op_sub (pv 3) pe_int) (fun _ _ => rfl)) (pv 0) rfl))) (nomark _)) (pss_one (ps_ret pe_bl)) pss_nil))))
      (pss_one (ps_ret pe_bl))), ?_⟩
    walk_at "go"
    refine for_enum (sa_l htold) (fun i σ' H' => ∃ v3 v4, σ' = [some (.ref p), some (.ref r), some (.ref l), v3, v4] ∧ Same H H') ⟨_, _, rfl, Same.refl H⟩ ?_ ?_ ?_
    · rintro i σ' H' _ ⟨_, _, _, S2⟩ u hu
      exact rd_sm S2 hu
    · rintro i x σ' H2 T2 hi ⟨v3, v4, rfl, S2⟩ nT hx
      rw [iv_len, row_len] at hi
      obtain ⟨y, hy, rfl⟩ := iv_get hx
      have ey : y = kern ns i := Option.some.inj (hy.symm.trans (row_get ns (by omega)))
      subst ey
      have S3 : Same H (upd H2 T2 (.tup [.int (i : Nat), .int (kern ns i : Nat)])) := Same.new S2 nT
      have htold3 := S3 _ _ htold
      have hrow3 := S3 _ _ hrow
      have hle : kern ns i ≤ i := kern_le As
      have at2 := row_at (m := ws.length) ns (show kern ns i ≤ ws.length by omega)
      walk_at "go"
      refine ⟨false, fun Q' q => ?_, ?_⟩
      · walk_at "go"
        refine k_dec (fun h => absurd h (by omega)) (fun h => ?_)
        walk_at "go"
        have third : tTest (tOp rNe (tOp (rIxL K) (tVar 2) (tVar 4)) (tVar 4)) [some (.ref p), some (.ref r), some (.ref l), some (.int (i : Nat)), some (.int (kern ns i : Nat))] (upd H2 T2 (.tup [.int (i : Nat), .int (kern ns i : Nat)])) Q' := by
          walk_at "go"
          have e : kern ns (kern ns i) = kern ns i := by rw [kern_kr As, kern_kr As]; exact kr_idem _ _
          rw [e, decide_eq_true rfl]
          exact q
        refine k_dec (fun h2 => ?_) (fun h2 => ?_)
        · have at1 := row_at (m := ws.length) ns (show i - 1 ≤ ws.length by omega)
          rw [show ((i - 1 : Nat) : Int) = (i : Int) - 1 by omega] at at1
          walk_at "go"
          have hm : kern ns (i - 1) ≤ kern ns i := by
            rw [kern_kr As, kern_kr As]; exact kr_mono _ (by omega)
          refine k_dec (fun h3 => absurd h3 (by omega)) (fun h3 => ?_)
          exact third
        · exact third
      · walk_at "go"
        have fin : ∀ H', Same H H' → ∃ v3 v4, ([some (.ref p), some (.ref r), some (.ref l), some (.int (i : Nat)), some (.int (kern ns i : Nat))] : L2.St) = [some (.ref p), some (.ref r), some (.ref l), v3, v4] ∧ Same H H' := fun H' S' => ⟨_, _, rfl, S'⟩
        have fixed := kr_fix (inN ns) i
        rw [← kern_kr As] at fixed
        refine k_dec (fun h => ?_) (fun h => ?_)
        · walk_at "go"
          have e : decide ((kern ns i : Int) = (i : Int)) = true := decide_eq_true (by omega)
          rw [e]
          walk_at "go"
          exact fin _ S3
        · have at1 : atI (ws.map V.str) ((i : Int) - 1) = some (.str (wd ws (i - 1))) := by
            rw [show (i : Int) - 1 = ((i - 1 : Nat) : Int) by omega]
            exact atI_nat (by rw [List.getElem?_map, wd_get (by omega)]; rfl)
          walk_at "go"
          refine ⟨p, n, wp, t, _, ws, ns, _, rfl, E1.sm S3, W1.sm S3, G, As, G.wd _ (wd_mem (by omega)), fun H4 S4 => ⟨_, rfl, ?_⟩⟩
          walk_at "go"
          have e : (!(decide ((kern ns i : Int) = (i : Int)) == decide (wd ws (i - 1) ∈ ns.map (wd ws)))) = false := by
            have e1 : decide ((kern ns i : Int) = (i : Int)) = decide (wd ws (i - 1) ∈ ns.map (wd ws)) := by
              rw [decide_eq_decide]
              constructor
              · intro q
                rcases fixed.mp (by omega) with q | q
                · omega
                · exact List.mem_map.mpr ⟨i - 1, of_decide_eq_true q, rfl⟩
              · intro q
                obtain ⟨j, hj, ej⟩ := List.mem_map.mp q
                have := wd_inj G.nd (As.lt j hj) (show i - 1 < ws.length by omega) ej
                subst this
                have := fixed.mpr (.inr (decide_eq_true hj))
                omega
            rw [e1]
            simp
          rw [e]
          walk_at "go"
          exact fin _ (S3.trans S4)
    · rintro σ' H2 ⟨v3, v4, rfl, S2⟩
      walk_at "go"
      exact k H2 S2
def spCounts (Z : Cs) : Sp := fun vs H Q _ => ∃ (p : Addr) (ws : List Str) (ns : List Nat), vs = [.ref p, .int (ws.length : Nat)] ∧ Edn Z H p ws ns ∧ Good ws ∧ ∀ H', Same H H' → Q (.bl true) H'
theorem ok_counts (B : Bn mg) (T : Tw K mg Z) (CEdition___len__ : CalM P w K mg base 1 Z.E "__len__" ["self"] (spEdLen Z)) (CEdition_cut_behind : CalM P w K mg base 3 Z.E "cut_behind" ["self", "count"] (spCutB Z)) (CEdition_count_at : CalM P w K mg base 3 Z.E "count_at" ["self", "cut"] (spCntA Z)) (D : Def K mg "_law_counts_right" s_law_counts_right) :
    Cal P w K mg base 4 "_law_counts_right" ["_law_made", "_law_far"] (spCounts Z) := by
  refine Cal.of D sc_law_counts_right (fun _ _ _ _ _ _ us hl => match us, hl with | [_, _], _ => rfl) (fun vs H Q E h => ?_) (fun f cdv A outer s H vs Q E hr h => ?_)
  · obtain ⟨_, _, _, rfl, _⟩ := h; rfl
  · obtain ⟨p, ws, ns, rfl, ⟨⟨n, wp, t, E1, W1⟩, As⟩, G, k⟩ := h
    have hlen : ns.length ≤ 100 := Nat.le_trans As.len G.le
    have hG := G.le
    refine ⟨_, (pss_cons (ps_set (i := 2) sc_law_counts_right.nd rfl (Or.inl rfl) (pe_callB (c_lenO CEdition___len__ hr (by decide)) (by rfl) B.len PySem.boot_len (pa_cons (pv 0) pa_nil)))
      (pss_cons (ps_for PassesOwn.never rfl (p_range1 B.range (pa_cons (pe_op op_add (pv 1) pe_int) pa_nil)) (pg_name (i := 3) sc_law_counts_right.nd rfl (Or.inr rfl)) (pss_cons (ps_set (i := 4) sc_law_counts_right.nd rfl (Or.inr rfl) (pe_mt (pv 0) T.clE CEdition_count_at hr (by decide) (pa_cons (pv 3) pa_nil)))
      (pss_one (ps_if (pt_cmpR (o_neD K hr.units) (pe_lc (own := [("_law_n", 5)]) (g := (gName 5)) rfl sc_law_counts_right.nd (p_range1 B.range (pa_cons (pe_op op_add (pv 2) pe_int) pa_nil)) (blkOk_by (own := [("_law_n", 5)]) (N := ["_law_made", "_law_far", "_law_many", "_law_k", "_law_size", "_law_n"]) (sc := defScope s_law_counts_right) (by decide +kernel)) (fun _ _ _ _ _ => (pg_name (i := 5) sc_law_counts_right.nd rfl (Or.inl rfl) (.inr rfl))) (fun _ _ _ _ _ => pts_nil) (fun _ _ _ _ _ => (pe_cmpR op_le (pe_mt (pv 0) T.clE CEdition_cut_behind hr (by decide) (pa_cons (pv 5) pa_nil)) (pv 3) (nomark _)))) (pe_lc (own := [("_law_n", 5)]) (g := (gName 5)) rfl sc_law_counts_right.nd (p_range1 B.range (pa_cons (pe_op op_add (pv 2) pe_int) pa_nil)) (blkOk_by (own := [("_law_n", 5)]) (N := ["_law_made", "_law_far", "_law_many", "_law_k", "_law_size", "_law_n"]) (sc := defScope s_law_counts_right) (by decide +kernel)) (fun _ _ _ _ _ => (pg_name (i := 5) sc_law_counts_right.nd rfl (Or.inl rfl) (.inr rfl))) (fun _ _ _ _ _ => pts_nil) (fun _ _ _ _ _ => (pe_cmpR op_le (pv 5) (pv 4) (nomark _)))) (nomark _)) (pss_one (ps_ret pe_bl)) pss_nil))))
      (pss_one (ps_ret (pe_cmpR (o_eqD K hr.units) (pe_lc (own := [("_law_n", 5)]) (g := (gName 5)) rfl sc_law_counts_right.nd (p_range1 B.range (pa_cons (pe_op op_add (pv 2) pe_int) pa_nil)) (blkOk_by (own := [("_law_n", 5)]) (N := ["_law_made", "_law_far", "_law_many", "_law_k", "_law_size", "_law_n"]) (sc := defScope s_law_counts_right) (by decide +kernel)) (fun _ _ _ _ _ => (pg_name (i := 5) sc_law_counts_right.nd rfl (Or.inl rfl) (.inr rfl))) (fun _ _ _ _ _ => pts_nil) (fun _ _ _ _ _ => (pe_mt (pv 0) T.clE CEdition_count_at hr (by decide) (pa_cons (pe_mt (pv 0) T.clE CEdition_cut_behind hr (by decide) (pa_cons (pv 5) pa_nil)) pa_nil)))) (pe_listRg rfl (by rfl) B.list (prg_1 (by rfl) B.range (pe_op op_add (pv 2) pe_int))) (nomark _)))))), ?_⟩
    walk_at "go"
    refine ⟨p, n, wp, ns, rfl, E1, ns.length, rfl, by omega, ?_⟩
    walk_at "go"
    rw [show ((ws.length : Int) + 1).toNat = ws.length + 1 by omega]
    refine for_w walk_r0 (fun i σ' H' => ∃ v3 v4 v5, σ' = [some (.ref p), some (.int (ws.length : Nat)), some (.int (ns.length : Nat)), v3, v4, v5] ∧ Same H H') ⟨_, _, _, rfl, Same.refl H⟩ (fun _ _ _ _ _ => trivial) ?_ ?_
    · rintro i x σ' H1 H2 hi ⟨v3, v4, v5, rfl, S2⟩ ⟨rfl, rfl⟩
      walk_at "go"
      refine ⟨p, n, wp, t, _, ws, ns, i, rfl, E1.sm S2, W1.sm S2, G, As, by omega, fun H3 S3 => ?_⟩
      have S03 := S2.trans S3
      walk_at "go"
      rw [show ((ns.length : Int) + 1).toNat = ns.length + 1 by omega]
      refine lc_w walk_r0 (fun D j H' => Same H3 H' ∧ H' D = some (.lst (((List.range j).map fun c => decide (cutB ns c ≤ i)).map V.bl))) (fun D nD => ⟨Same.new (Same.refl _) nD, upd_same⟩) (fun _ _ _ _ _ _ => trivial) ?_ ?_
      · rintro D j x H4 H5 nD hj ⟨S5, g5⟩ ⟨rfl, rfl⟩
        walk_at "go"
        refine ⟨p, n, wp, ns, j, rfl, E1.sm (S03.trans S5), by omega, ?_⟩
        walk_at "go"
        refine ⟨_, g5, sz (by rw [List.length_map, List.length_map, List.length_range]; omega), Same.mut S5 nD, ?_⟩
        rw [upd_same, List.range_succ, List.map_append, List.map_append]
        show _ = some (HO.lst (_ ++ [V.bl (decide (cutB ns j ≤ i))]))
        have e : decide ((cutB ns j : Int) ≤ (i : Int)) = decide (cutB ns j ≤ i) := decide_eq_decide.mpr (by omega)
        rw [e]
      · rintro D H4 nD ⟨S4, g4⟩
        walk_at "go"
        rw [show ((ns.length : Int) + 1).toNat = ns.length + 1 by omega]
        refine lc_w walk_r0 (fun D' j H' => Same H4 H' ∧ H' D' = some (.lst (((List.range j).map fun c => decide (c ≤ cntA ns i)).map V.bl))) (fun D' nD' => ⟨Same.new (Same.refl _) nD', upd_same⟩) (fun _ _ _ _ _ _ => trivial) ?_ ?_
        · rintro D' j x H5 H6 nD' hj ⟨S6, g6⟩ ⟨rfl, rfl⟩
          walk_at "go"
          refine ⟨_, g6, sz (by rw [List.length_map, List.length_map, List.length_range]; omega), Same.mut S6 nD', ?_⟩
          rw [upd_same, List.range_succ, List.map_append, List.map_append]
          show _ = some (HO.lst (_ ++ [V.bl (decide (j ≤ cntA ns i))]))
          have e : decide ((j : Int) ≤ (cntA ns i : Int)) = decide (j ≤ cntA ns i) := decide_eq_decide.mpr (by omega)
          rw [e]
        · rintro D' H5 nD' ⟨S5, g5⟩
          refine k_neLB (S5 _ _ g4) g5 ?_
          have e : (List.range (ns.length + 1)).map (fun c => decide (cutB ns c ≤ i)) = (List.range (ns.length + 1)).map fun c => decide (c ≤ cntA ns i) := by
            refine List.map_congr_left fun c hc => decide_eq_decide.mpr (cut_le_iff As ?_)
            have := List.mem_range.mp hc
            omega
          rw [decide_eq_true e]
          walk_at "go"
          exact ⟨_, _, _, rfl, (S03.trans S4).trans S5⟩
    · rintro σ' H1 ⟨v3, v4, v5, rfl, S1⟩
      walk_at "go"
      rw [show ((ns.length : Int) + 1).toNat = ns.length + 1 by omega]
      refine lc_w walk_r0 (fun D j H' => Same H1 H' ∧ H' D = some (.lst (iv (List.range j)))) (fun D nD => ⟨Same.new (Same.refl _) nD, upd_same⟩) (fun _ _ _ _ _ _ => trivial) ?_ ?_
      · rintro D j x H4 H5 nD hj ⟨S5, g5⟩ ⟨rfl, rfl⟩
        walk_at "go"
        refine ⟨p, n, wp, ns, j, rfl, E1.sm (S1.trans S5), by omega, ?_⟩
        walk_at "go"
        refine ⟨p, n, wp, t, _, ws, ns, cutB ns j, rfl, E1.sm (S1.trans S5), W1.sm (S1.trans S5), G, As, cut_le As (by omega), fun H6 S6 => ?_⟩
        rw [cnt_cut As (by omega)]
        refine ⟨_, S6 _ _ g5, sz (by rw [iv_len, List.length_range]; omega), Same.mut (S5.trans S6) nD, ?_⟩
        rw [upd_same, List.range_succ, iv_app]
      · rintro D H4 nD ⟨S4, g4⟩
        walk_at "go"
        refine ⟨RgOk.of_le (by omega) (by omega) (by omega) (by omega), fun q nq => ?_⟩
        rw [show (ns.length : Int) + 1 = ((ns.length + 1 : Nat) : Int) by omega, rgV_iv]
        refine k_eqLI (upd_new g4 nq) upd_same ?_
        rw [decide_eq_true rfl]
        exact k _ (Same.new (S1.trans S4) nq)
end
end Lf

set_option Elab.async false
set_option linter.all false
set_option maxHeartbeats 2000000
/-! What the law says of kernels, of the numbers of joined editions. -/
namespace Lf
open PySem L2
theorem in_and (m : Nat) (ns ms : List Nat) (x : Nat) : inN (andN m ns ms) x = (inN ns x && inN ms x) := by
  unfold inN andN
  rw [Bool.eq_iff_iff, decide_eq_true_iff, List.mem_filter, Bool.and_eq_true, decide_eq_true_iff, decide_eq_true_iff]
theorem in_or {m : Nat} {ns ms : List Nat} {x : Nat} (h : x < m) : inN (orN m ns ms) x = (inN ns x || inN ms x) := by
  unfold inN orN
  rw [Bool.eq_iff_iff, decide_eq_true_iff, List.mem_filter]
  exact ⟨fun q => q.2, fun q => ⟨List.mem_range.mpr h, q⟩⟩
theorem asc_and {m : Nat} {ns ms : List Nat} (As : Asc ns m) : Asc (andN m ns ms) m := As.filter _
theorem asc_sub {m : Nat} {ns ms : List Nat} (As : Asc ns m) : Asc (subN m ns ms) m := As.filter _
theorem asc_or {m : Nat} {ns ms : List Nat} : Asc (orN m ns ms) m := (range_asc m).filter _
theorem kern_or {m : Nat} {ns ms : List Nat} (As : Asc ns m) (Bs : Asc ms m) {k : Nat} (hk : k ≤ m) : kern (orN m ns ms) k = max (kern ns k) (kern ms k) := by
  rw [kern_kr (asc_or (m := m) (ns := ns) (ms := ms)), kern_kr As, kern_kr Bs, ← kr_or]
  exact kr_congr fun x hx => in_or (by omega)
theorem kern_and {m : Nat} {ns ms : List Nat} (As : Asc ns m) (k : Nat) : kern (andN m ns ms) k = kr (fun x => inN ns x && inN ms x) k := by
  rw [kern_kr (asc_and (ms := ms) As)]
  exact kr_congr fun x _ => in_and m ns ms x
theorem row_or {m : Nat} {ns ms : List Nat} (As : Asc ns m) (Bs : Asc ms m) : row m (orN m ns ms) = (List.range (m + 1)).map fun k => max (kern ns k) (kern ms k) := by
  unfold row
  refine List.map_congr_left fun k hk => kern_or As Bs ?_
  have := List.mem_range.mp hk
  omega
theorem row_nil (m : Nat) : row m [] = List.replicate (m + 1) 0 := by
  unfold row
  rw [List.eq_replicate_iff]
  refine ⟨by rw [List.length_map, List.length_range], fun b hb => ?_⟩
  obtain ⟨k, _, rfl⟩ := List.mem_map.mp hb
  rfl
theorem row_all (m : Nat) : row m (List.range m) = List.range (m + 1) := by
  unfold row
  have e : (List.range (m + 1)).map (kern (List.range m)) = (List.range (m + 1)).map id := by
    refine List.map_congr_left fun k hk => ?_
    have := List.mem_range.mp hk
    rw [kern_kr (range_asc m)]
    exact kr_all (m := m) (fun x hx => decide_eq_true (List.mem_range.mpr hx)) (by omega)
  rw [e, List.map_id]
theorem le_same {m : Nat} {as bs : List Nat} (As : Asc as m) (Bs : Asc bs m) : (as.all fun x => decide (x ∈ bs)) = ((List.range (m + 1)).map fun k => decide (kern as k ≤ kern bs k)).all id := by
  have key := kr_sub_iff (f := inN as) (g := inN bs) (m := m)
  rw [Bool.eq_iff_iff, List.all_eq_true, List.all_map, List.all_eq_true]
  constructor
  · intro h k hk
    have hk' := List.mem_range.mp hk
    show decide (kern as k ≤ kern bs k) = true
    rw [decide_eq_true_iff, kern_kr As, kern_kr Bs]
    exact key.mp (fun x _ hx => h x (of_decide_eq_true hx)) k (by omega)
  · intro h x hx
    refine key.mpr (fun k hk => ?_) x (As.lt x hx) (decide_eq_true hx)
    rw [← kern_kr As, ← kern_kr Bs]
    exact of_decide_eq_true (h k (List.mem_range.mpr (by omega)))
/-- the cuts at which both stand -/
def shar (m : Nat) (ns ms : List Nat) : List Nat := (List.range (m + 1)).filter fun k => decide (kern ns k = k) && decide (kern ms k = k)
theorem and_in {m : Nat} {ns ms : List Nat} (As : Asc ns m) (Bs : Asc ms m) {k : Nat} (hk : k ≤ m) : kern (andN m ns ms) k ∈ (shar m ns ms).filter fun n => decide (n ≤ k) := by
  have h1 := kern_le (asc_and (ms := ms) As) (k := k)
  have h2 := kr_and_in (inN ns) (inN ms) k
  rw [← kern_and As (m := m) k] at h2
  rw [List.mem_filter]
  refine ⟨?_, decide_eq_true h1⟩
  unfold shar
  rw [List.mem_filter, Bool.and_eq_true, decide_eq_true_iff, decide_eq_true_iff, kern_kr As, kern_kr Bs]
  exact ⟨List.mem_range.mpr (by have : kern (andN m ns ms) k ≤ k := h1; omega), h2.1, h2.2⟩
theorem and_max {m : Nat} {ns ms : List Nat} (As : Asc ns m) (Bs : Asc ms m) {k y : Nat} (h : y ∈ (shar m ns ms).filter fun n => decide (n ≤ k)) : y ≤ kern (andN m ns ms) k := by
  rw [List.mem_filter] at h
  unfold shar at h
  rw [List.mem_filter, Bool.and_eq_true, decide_eq_true_iff, decide_eq_true_iff, kern_kr As, kern_kr Bs] at h
  rw [kern_and As]
  exact kr_and_max _ _ (of_decide_eq_true h.2) h.1.2.1 h.1.2.2
theorem seven {P : Nat → Addr → Prop} {a0 a1 a2 a3 a4 a5 a6 : Addr} (h0 : P 0 a0) (h1 : P 1 a1) (h2 : P 2 a2) (h3 : P 3 a3) (h4 : P 4 a4) (h5 : P 5 a5) (h6 : P 6 a6) : ∀ j e, ([a0, a1, a2, a3, a4, a5, a6] : List Addr)[j]? = some e → P j e := by
  intro j e h
  match j, h with
  | 0, h => cases h; exact h0
  | 1, h => cases h; exact h1
  | 2, h => cases h; exact h2
  | 3, h => cases h; exact h3
  | 4, h => cases h; exact h4
  | 5, h => cases h; exact h5
  | 6, h => cases h; exact h6
  | n + 7, h => cases h
theorem of_seven {l : List Addr} (h : l.length = 7) : ∃ a0 a1 a2 a3 a4 a5 a6, l = [a0, a1, a2, a3, a4, a5, a6] := by
  match l, h with
  | [a0, a1, a2, a3, a4, a5, a6], _ => exact ⟨a0, a1, a2, a3, a4, a5, a6, rfl⟩
end Lf

set_option Elab.async false
set_option linter.all false
set_option maxRecDepth 100000
set_option maxHeartbeats 4000000
/-! The law. -/
namespace Lf
open PySem L2
local macro_rules | `(tactic| walk_at "nq") => `(tactic| first | with_reducible assumption | with_reducible exact Ne.symm (by assumption) | with_reducible exact ne_of_none (by assumption) (by assumption) | with_reducible exact Ne.symm (ne_of_none (by assumption) (by assumption)))
local macro_rules | `(tactic| walk_at "gt") => `(tactic| first | with_reducible assumption | with_reducible exact upd_same | ((with_reducible refine' upd_new ?ha ?hb); (case hb => with_reducible assumption); (case ha => walk_at "gt")) | ((with_reducible refine' upd_old ?ha ?hb); (case hb => walk_at "nq"); (case ha => walk_at "gt")) | ((with_reducible refine' sm_get ?hb ?ha); (case hb => with_reducible assumption); (case ha => walk_at "gt")) | ((with_reducible refine' fr_get ?hb ?ha ?hc); (case hb => with_reducible assumption); (case hc => walk_at "nq"); (case ha => walk_at "gt")))
local macro_rules | `(tactic| walk_at "sl") => `(tactic| first | with_reducible assumption | ((with_reducible refine' sl_of ?ha); (case ha => walk_at "gt")) | ((with_reducible refine' sl_new ?ha ?hb); (case hb => with_reducible assumption); (case ha => walk_at "sl")) | ((with_reducible refine' sl_sm ?hb ?ha); (case hb => with_reducible assumption); (case ha => walk_at "sl")) | ((with_reducible refine' sl_fr ?hb ?hc ?ha); (case hb => with_reducible assumption); (case hc => walk_at "nq"); (case ha => walk_at "sl")))
local macro_rules | `(tactic| walk_at "st") => `(tactic| first | with_reducible assumption | ((with_reducible refine' st_of ?ha); (case ha => walk_at "gt")) | ((with_reducible refine' st_new ?ha ?hb); (case hb => with_reducible assumption); (case ha => walk_at "st")) | ((with_reducible refine' st_sm ?hb ?ha); (case hb => with_reducible assumption); (case ha => walk_at "st")) | ((with_reducible refine' st_fr ?hb ?hc ?ha); (case hb => with_reducible assumption); (case hc => walk_at "nq"); (case ha => walk_at "st")))
local macro_rules | `(tactic| walk_at "sa") => `(tactic| first | with_reducible assumption | ((with_reducible refine' sa_l ?ha); (case ha => walk_at "gt")) | ((with_reducible refine' sa_t ?ha); (case ha => walk_at "gt")) | ((with_reducible refine' sa_new ?ha ?hb); (case hb => with_reducible assumption); (case ha => walk_at "sa")) | ((with_reducible refine' sa_sm ?hb ?ha); (case hb => with_reducible assumption); (case ha => walk_at "sa")) | ((with_reducible refine' sa_fr ?hb ?hc ?ha); (case hb => with_reducible assumption); (case hc => walk_at "nq"); (case ha => walk_at "sa")) | ((with_reducible refine' Or.inl ?ha); (case ha => walk_at "sl")) | ((with_reducible refine' Or.inr ?ha); (case ha => walk_at "st")))
local macro_rules | `(tactic| walk_at "ln") => `(tactic| first | decide | omega | exact Nat.le_of_ble_eq_true rfl | (simp only [List.length_append, List.length_map, List.length_cons, List.length_nil, List.length_flatMap]; omega))
local macro_rules | `(tactic| walk_at "ty") => `(tactic| first | with_reducible assumption | with_reducible exact .base (.int _) | with_reducible exact .base (.str _) | with_reducible exact .base (.bl _) | with_reducible exact .base .non | ((with_reducible refine' TyX.base (TyOf.lst ?ha)); (case ha => walk_at "gt")) | ((with_reducible refine' TyX.base (TyOf.tup ?ha)); (case ha => walk_at "gt")) | ((with_reducible refine' TyX.base (TyOf.dK ?ha)); (case ha => walk_at "gt")) | ((with_reducible refine' ty_new ?ha ?hb); (case hb => with_reducible assumption); (case ha => walk_at "ty")) | ((with_reducible refine' ty_sm ?hb ?ha); (case hb => with_reducible assumption); (case ha => walk_at "ty")))
local macro_rules | `(tactic| walk_at "kb") => `(tactic| first | with_reducible assumption | exact kb_str_str | exact kb_int_str | exact kb_list_str | exact kb_tuple_str | exact kb_bool_str | exact kb_NoneType_str | exact kb_dict_str | exact kb_str_int | exact kb_int_int | exact kb_list_int | exact kb_tuple_int | exact kb_bool_int | exact kb_NoneType_int | exact kb_dict_int | exact kb_str_bool | exact kb_int_bool | exact kb_list_bool | exact kb_tuple_bool | exact kb_bool_bool | exact kb_NoneType_bool | exact kb_dict_bool | exact kb_str_list | exact kb_int_list | exact kb_list_list | exact kb_tuple_list | exact kb_bool_list | exact kb_NoneType_list | exact kb_dict_list | exact kb_str_tuple | exact kb_int_tuple | exact kb_list_tuple | exact kb_tuple_tuple | exact kb_bool_tuple | exact kb_NoneType_tuple | exact kb_dict_tuple | exact kb_str_dict | exact kb_int_dict | exact kb_list_dict | exact kb_tuple_dict | exact kb_bool_dict | exact kb_NoneType_dict | exact kb_dict_dict)
local macro_rules | `(tactic| walk_at "wk") => `(tactic| first | with_reducible assumption | ((with_reducible refine' WkAt.new ?ha ?hb); (case hb => with_reducible assumption); (case ha => walk_at "wk")) | ((with_reducible refine' WkAt.sm ?hb ?ha); (case hb => with_reducible assumption); (case ha => walk_at "wk")) | ((with_reducible refine' WkAt.dr ?hb ?hc ?ha); (case hb => with_reducible assumption); (case hc => with_reducible assumption); (case ha => walk_at "wk")))
local macro_rules | `(tactic| walk_at "ed") => `(tactic| first | with_reducible assumption | ((with_reducible refine' EdAt.new ?ha ?hb); (case hb => with_reducible assumption); (case ha => walk_at "ed")) | ((with_reducible refine' EdAt.sm ?hb ?ha); (case hb => with_reducible assumption); (case ha => walk_at "ed")) | ((with_reducible refine' EdAt.dr ?hb ?hc ?ha); (case hb => with_reducible assumption); (case hc => with_reducible assumption); (case ha => walk_at "ed")))
local macro_rules | `(tactic| walk_at "fl") => `(tactic| first | with_reducible assumption | ((with_reducible refine' WkAt.rows ?hT ?hW); (case hT => assumption); (case hW => walk_at "wk")) | ((with_reducible refine' WkAt.name ?hT ?hW); (case hT => assumption); (case hW => walk_at "wk")) | ((with_reducible refine' EdAt.work ?hT ?hW); (case hT => assumption); (case hW => walk_at "ed")) | ((with_reducible refine' EdAt.nums ?hT ?hW); (case hT => assumption); (case hW => walk_at "ed")))
local macro_rules | `(tactic| walk_at "mt") => `(tactic| first | with_reducible assumption | ((with_reducible refine' WkAt.mt ?hn1 ?hn2 ?hW); (case hW => walk_at "wk"); (case hn1 => decide +kernel); (case hn2 => decide +kernel)) | ((with_reducible refine' EdAt.mt ?hn1 ?hn2 ?hW); (case hW => walk_at "ed"); (case hn1 => decide +kernel); (case hn2 => decide +kernel)))
local macro_rules | `(tactic| walk_at "is") => `(tactic| first | with_reducible assumption | ((with_reducible refine' WkAt.is ?hW); (case hW => walk_at "wk")) | ((with_reducible refine' EdAt.is ?hW); (case hW => walk_at "ed")))
local macro_rules | `(tactic| walk_at "ic") => `(tactic| first
  | ((with_reducible show CMul _ _); first | exact Or.inl ⟨by decide, by decide⟩ | exact Or.inr ⟨by decide, by decide⟩ | exact Or.inl ⟨by omega, by omega⟩ | exact Or.inr ⟨by omega, by omega⟩)
  | ((with_reducible show CDiv _ _); first | exact ⟨by decide, by decide⟩ | exact ⟨by omega, by omega⟩)
  | ((with_reducible show CPow _ _); first | exact ⟨by decide, by decide, by decide⟩ | exact ⟨by decide, by decide, by omega⟩)
  | (show (0 : Int) < _; first | decide | omega))
local macro_rules | `(tactic| walk_at "s1") => `(tactic| first
  | with_reducible refine k_seq ?_
  | with_reducible refine k_set ?_
  | with_reducible refine k_asg ?_
  | with_reducible refine k_par ?_
  | with_reducible refine k_par2 ?_
  | with_reducible refine k_drop ?_
  | with_reducible refine k_ret ?_
  | with_reducible refine k_next ?_
  | with_reducible refine k_if ?_
  | ((with_reducible refine' k_aug ?hv ?_); (case hv => exact rfl))
  | with_reducible refine k_ipI ?_
  | with_reducible refine k_gname ?_
  | with_reducible refine k_gsub ?_
  | ((with_reducible refine' k_gtup ?hv ?hw ?_); (case hv => walk_at "st"); (case hw => rfl))
  | with_reducible refine k_gcons ?_
  | with_reducible refine k_gnil ?_
  | with_reducible refine k_test ?_
  | with_reducible refine k_B ?_
  | with_reducible refine k_blE ?_
  | with_reducible refine k_and ?_
  | with_reducible refine k_or ?_
  | with_reducible refine k_not ?_
  | with_reducible refine iteT ?_
  | with_reducible refine iteF ?_
  | with_reducible refine iteNT ?_
  | with_reducible refine iteNF ?_
  | ((with_reducible refine' k_var ?hv ?_); (case hv => exact rfl))
  | with_reducible refine k_c ?_
  | with_reducible refine k_op ?_
  | with_reducible refine k_un ?_
  | with_reducible refine k_U ?_
  | with_reducible refine k_I0 ?_
  | ((with_reducible refine' k_I ?hv ?_); (case hv => walk_at "ic"))
  | with_reducible refine k_eqI ?_
  | with_reducible refine k_neI ?_
  | with_reducible refine k_eqS ?_
  | with_reducible refine k_neS ?_
  | with_reducible refine k_eqB ?_
  | with_reducible refine k_neB ?_
  | with_reducible refine k_for ?_
  | with_reducible refine k_iE ?_
  | with_reducible refine k_iA ?_
  | ((with_reducible refine' k_itl ?hv ?_); (case hv => walk_at "sl"))
  | ((with_reducible refine' k_itt ?hv ?_); (case hv => walk_at "st"))
  | with_reducible refine k_its ?_
  | ((with_reducible refine' k_rg1n ?hv ?_); (case hv => first | decide | omega))
  | ((with_reducible refine' k_rg1 ?hv ?hw ?_); (case hv => first | decide | omega); (case hw => first | decide | omega))
  | ((with_reducible refine' k_inS ?hv ?_); (case hv => walk_at "sa"))
  | ((with_reducible refine' k_inI ?hv ?_); (case hv => walk_at "sa"))
  | ((with_reducible refine' k_ninS ?hv ?_); (case hv => walk_at "sa"))
  | ((with_reducible refine' k_ninI ?hv ?_); (case hv => walk_at "sa"))
  | ((with_reducible refine' k_zipl ?hv ?hw ?_); (case hv => walk_at "sl"); (case hw => walk_at "sl"))
  | with_reducible refine k_nil ?_
  | with_reducible refine k_cons ?_
  | with_reducible refine k_cb ?_
  | with_reducible refine k_call ?_
  | with_reducible refine k_lst ?_
  | with_reducible refine k_tup ?_
  | with_reducible refine k_ifx ?_
  | with_reducible refine k_andv ?_
  | with_reducible refine k_orv ?_
  | with_reducible refine k_notv ?_
  | with_reducible refine k_inti ?_
  | with_reducible refine k_intb ?_
  | with_reducible refine k_sl ?_
  | with_reducible refine k_nopart ?_
  | with_reducible refine k_part ?_
  | with_reducible refine k_parti ?_
  | ((with_reducible refine' k_lenl ?hv ?_); (case hv => walk_at "sl"))
  | ((with_reducible refine' k_lent ?hv ?_); (case hv => walk_at "st"))
  | ((with_reducible refine' k_lens ?hv ?_); (case hv => exact szl (by walk_at "ln")))
  | ((with_reducible refine' k_lena ?hv ?_); (case hv => walk_at "sa"))
  | ((with_reducible refine' k_ixl ?hv ?hn ?_); (case hv => walk_at "sl"); (case hn => first | rfl | assumption))
  | ((with_reducible refine' k_ixt ?hv ?hn ?_); (case hv => walk_at "st"); (case hn => first | rfl | assumption))
  | ((with_reducible refine' k_ixa ?hv ?hn ?_); (case hv => walk_at "sa"); (case hn => first | rfl | assumption))
  | with_reducible refine k_chain ?_
  | ((with_reducible refine' k_isi ?hv ?hw ?_); (case hv => walk_at "ty"); (case hw => walk_at "kb"))
  | ((with_reducible refine' k_isi2 ?hb ?hp ?hv ?hw ?hx ?_); (case hp => walk_at "gt"); (case hv => walk_at "ty"); (case hw => walk_at "kb"); (case hx => walk_at "kb"); (case hb => first | exact or_t | exact or_f))
  | ((with_reducible refine' k_all ?hv ?_); (case hv => walk_at "gt"))
  | ((with_reducible refine' k_any ?hv ?_); (case hv => walk_at "gt"))
  | with_reducible refine k_insign ?_
  | with_reducible refine k_fldR ?_
  | ((with_reducible refine' k_fl ?hv ?_); (case hv => walk_at "fl"))
  | with_reducible refine k_sfld ?_
  | with_reducible refine k_meth ?_
  | ((with_reducible refine' k_mt ?hv ?_); (case hv => walk_at "mt"))
  | with_reducible refine k_make ?_
  | ((with_reducible refine' k_own ?hv ?hw ?_); (case hv => walk_at "is"); (case hw => walk_at "is"))
  | ((with_reducible refine' k_ownin ?hv ?_); (case hv => walk_at "is"))
  | ((with_reducible refine' k_lenO ?hv ?_); (case hv => walk_at "is"))
  | with_reducible refine k_lrg ?_
  | with_reducible refine k_rgt ?_
  | with_reducible refine k_rgti ?_
  | with_reducible refine k_bm ?_
  | with_reducible refine k_bm0 ?_
  | with_reducible refine k_tys ?_
  | ((with_reducible refine' k_tyl ?hv ?_); (case hv => walk_at "sl"))
  | ((with_reducible refine' k_ext ?hv ?hw ?hn ?_); (case hv => walk_at "gt"); (case hw => walk_at "gt"); (case hn => walk_at "ln"))
  | ((with_reducible refine' k_app ?hv ?hn ?_); (case hv => walk_at "gt"); (case hn => walk_at "ln"))
  | ((with_reducible refine' k_popat ?hv ?hn ?hw ?_); (case hv => walk_at "gt"); (case hn => with_reducible assumption); (case hw => walk_at "ln"))
  | with_reducible refine k_lc ?_
  | with_reducible refine k_yes0 ?_
  | ((with_reducible show wipe _ _ = wipe _ _ ∧ _); refine ⟨rfl, ?_⟩)
  | ((with_reducible refine' k_adds ?hv ?_); (case hv => walk_at "ln"))
  | ((with_reducible refine' k_st1 ?hv ?_); (case hv => walk_at "gt"))
  | ((with_reducible refine' k_st2 ?hv ?_); (case hv => walk_at "gt"))
  | ((with_reducible refine' k_st3 ?hv ?_); (case hv => walk_at "gt"))
  | ((with_reducible refine' k_setl ?hv ?hn ?_); (case hv => walk_at "gt"); (case hn => rfl)))
local macro_rules | `(tactic| walk_at "put") => `(tactic| ((refine' ⟨_, ?ha, sz ?hb, ?_⟩); (case ha => walk_at "gt"); (case hb => walk_at "ln")))
local macro_rules | `(tactic| walk_at "go") => `(tactic| repeat (walk_at "s1"))

abbrev slaw : Stmt := top 34
theorem sclaw : FnScope ["_law_script", "_law_state", "_law_turn", "_law_rows", "_law_base_here", "_law_twin", "_law_far", "_law_numbers", "_law_others", "_law_k", "_law_x", "_law_y", "_law_some", "_law_made", "_law_told", "_law_one_here", "_law_row_here", "_law_shared", "_law_n", "_law_other", "_law_more", "_law_is_less"] ["_law_script"] (defScope slaw) := ⟨rfl, rfl, rfl, by decide +kernel, rfl, by decide +kernel, by decide +kernel⟩
section
variable {P : Program} {w : World} {K : PySem.W.Frag} {mg : Str → Option Value} {base : Heap} {Z : Cs}
def spLaw (K : PySem.W.Frag) : Sp := fun vs H Q _ => ∃ (a : Addr) (ns : List Int), vs = [.ref a] ∧ SqL K H a (ns.map V.int) ∧ ns.length ≤ 63 ∧ ∀ H', Q (.bl true) H'
theorem k_same {b : Bool} {p q : Prop} (h : q) : if (!(b == b)) = true then p else q := by
  cases b <;> exact h
open PySem.Spec PyProof.Rows in
theorem fn_ofF {x : Str} {st : Stmt} {N ps : List Str} {k : Nat} {sp : Sp} {f : Addr} {fd : FuncData} (F : FunD K x x (defArgs st) (defBody st) (defScope st) [] [] f fd) (S : FnScope N ps (defScope st))
    (len : ∀ vs H Q E, sp vs H Q E → vs.length = ps.length)
    (hbody : ∀ (f : Addr) (cdv : Value) (A : Around) (outer : List Env) (s : Shared) (H : Hp) (vs : List V) (Q : VK) (E : XK), Room k (A.deeper (envOfC x (defScope st) s.heap.objs.size f cdv)) → sp vs H Q E →
      ∃ t, PSs (cxR P w K mg base N x (defScope st) f cdv A outer s H) (defBody st) t ∧ t { nx := fun _ H' => Q .non H', rt := Q } (start N vs) H) : FnOk P w K mg base CX0 (k + 1) f fd ps sp := by
  refine F.ok S len fun cdv A outer s H vs Q E hr h => ?_
  obtain ⟨t, h1, h2⟩ := hbody f cdv A outer s H vs Q E hr h
  exact ⟨t, PSs.nox h1, h2⟩
theorem ok_law (B : Bn mg) (T : Tw K mg Z) (C_law_fresh : Cal P w K mg base 1 "_law_fresh" ["_law_script"] (spFresh K)) (C_law_take : Cal P w K mg base 2 "_law_take" ["_law_state", "_law_many"] spTake) (C_law_one : Cal P w K mg base 3 "_law_one" ["_law_state", "_law_things"] (spOne K))
    (C_law_base : Cal P w K mg base 5 "_law_base" ["_law_state", "_law_many"] (spBase Z)) (C_law_kept : Cal P w K mg base 4 "_law_kept" ["_law_state", "_law_many"] spKept) (C_law_edition : Cal P w K mg base 5 "_law_edition" ["_law_base_here", "_law_rows", "_law_numbers"] (spEdition K Z))
    (C_law_row : Cal P w K mg base 5 "_law_row" ["_law_made", "_law_far"] (spRow Z)) (C_law_is_kernel : Cal P w K mg base 3 "_law_is_kernel" ["_law_made", "_law_rows", "_law_told"] (spIsKern Z)) (C_law_counts_right : Cal P w K mg base 4 "_law_counts_right" ["_law_made", "_law_far"] (spCounts Z))
    (CEdition___or__ : CalM P w K mg base 6 Z.E "__or__" ["self", "other"] (spEdOp Z orN)) (CEdition___and__ : CalM P w K mg base 6 Z.E "__and__" ["self", "other"] (spEdOp Z andN)) (CEdition___sub__ : CalM P w K mg base 6 Z.E "__sub__" ["self", "other"] (spEdOp Z subN))
    (CEdition___le__ : CalM P w K mg base 3 Z.E "__le__" ["self", "other"] (spEdLe Z)) (CWork_whole : CalM P w K mg base 5 Z.W "whole" ["self"] (spWhole Z)) {f₀ : Addr} {fd : FuncData} (F : FunD K "law" "law" (defArgs slaw) (defBody slaw) (defScope slaw) [] [] f₀ fd) : FnOk P w K mg base CX0 7 f₀ fd ["_law_script"] (spLaw K) := by
  refine fn_ofF F sclaw (fun vs H Q E h => ?_) (fun f cdv A outer s H vs Q E hr h => ?_)
  · obtain ⟨_, _, rfl, _⟩ := h; rfl
  · obtain ⟨a, cells, rfl, hS, hl, k⟩ := h
    refine ⟨_, (pss_cons (ps_set (i := 1) sclaw.nd rfl (Or.inl rfl) (pe_fn C_law_fresh hr (by decide) (pa_cons (pv 0) pa_nil)))
      (pss_cons (ps_for PassesOwn.never rfl (p_range1 B.range (pa_cons pe_int pa_nil)) (pg_name (i := 2) sclaw.nd rfl (Or.inl rfl)) (pss_cons (ps_asg (pe_fn C_law_base hr (by decide) (pa_cons (pv 1) (pa_cons (pe_fn C_law_one hr (by decide) (pa_cons (pv 1) (pa_cons (pe_tup (pa_cons pe_int (pa_cons pe_int (pa_cons pe_int (pa_cons pe_int (pa_cons pe_int (pa_cons pe_int (pa_cons pe_int pa_nil)))))))) pa_nil))) pa_nil))) (pg_tup rfl (pgs_cons (pg_name (i := 3) sclaw.nd rfl (Or.inr rfl)) (pgs_cons (pg_name (i := 4) sclaw.nd rfl (Or.inl rfl)) (pgs_cons (pg_name (i := 5) sclaw.nd rfl (Or.inl rfl)) pgs_nil)))))
      (pss_cons (ps_asg (pe_tup (pa_cons (pe_callB (n_len K) (by rfl) B.len PySem.boot_len (pa_cons (pv 3) pa_nil)) (pa_cons (pe_fn C_law_kept hr (by decide) (pa_cons (pv 1) (pa_cons (pe_callB (n_len K) (by rfl) B.len PySem.boot_len (pa_cons (pv 3) pa_nil)) pa_nil))) pa_nil))) (pg_tup rfl (pgs_cons (pg_name (i := 6) sclaw.nd rfl (Or.inr rfl)) (pgs_cons (pg_name (i := 7) sclaw.nd rfl (Or.inr rfl)) pgs_nil))))
      (pss_cons (ps_set (i := 8) sclaw.nd rfl (Or.inl rfl) (pe_fn C_law_kept hr (by decide) (pa_cons (pv 1) (pa_cons (pe_callB (n_len K) (by rfl) B.len PySem.boot_len (pa_cons (pv 3) pa_nil)) pa_nil))))
      (pss_cutL (ps_if (pt_cmpR op_eq (pe_fn C_law_take hr (by decide) (pa_cons (pv 1) (pa_cons pe_int pa_nil))) pe_int (nomark _)) (pss_one (ps_setLc (i := 8) (own := [("_law_k", 9)]) (g := (gName 9)) rfl sclaw.nd rfl rfl (sw_true rfl rfl rfl (by decide +kernel)) (q_seq K (pv 8)) (blkOk_by (own := [("_law_k", 9)]) (N := ["_law_script", "_law_state", "_law_turn", "_law_rows", "_law_base_here", "_law_twin", "_law_far", "_law_numbers", "_law_others", "_law_k", "_law_x", "_law_y", "_law_some", "_law_made", "_law_told", "_law_one_here", "_law_row_here", "_law_shared", "_law_n", "_law_other", "_law_more", "_law_is_less"]) (sc := defScope slaw) (by decide +kernel)) (fun _ _ _ _ _ => (pg_name (i := 9) sclaw.nd rfl (Or.inl rfl) (.inr rfl))) (fun _ _ _ _ _ => (pts_one (pt_cmpR (o_inq K) (pv 9) (pv 7) rfl))) (fun _ _ _ _ _ => (pv 9)))) pss_nil)
      (pss_cons (ps_par (i := 10) (j := 11) (by rfl) sclaw.nd rfl rfl (by decide) rfl rfl (pa_cons (pe_fn C_law_edition hr (by decide) (pa_cons (pv 4) (pa_cons (pv 3) (pa_cons (pv 7) pa_nil)))) (pa_cons (pe_fn C_law_edition hr (by decide) (pa_cons (pv 5) (pa_cons (pv 3) (pa_cons (pv 8) pa_nil)))) pa_nil)) (by rfl))
      (pss_cons (ps_set (i := 12) sclaw.nd rfl (Or.inl rfl) (pe_op (o_bin CEdition___or__ hr (by decide) T.sfE) (pv 10) (pv 11)))
      (pss_cutL (ps_set (i := 13) sclaw.nd rfl (Or.inl rfl) (pe_lst (pa_cons (pv 10) (pa_cons (pv 11) (pa_cons (pe_op (o_bin CEdition___and__ hr (by decide) T.sfE) (pv 10) (pv 11)) (pa_cons (pv 12) (pa_cons (pe_op (o_bin CEdition___sub__ hr (by decide) T.sfE) (pv 10) (pv 11)) (pa_cons (pe_fn C_law_edition hr (by decide) (pa_cons (pv 4) (pa_cons (pv 3) (pa_cons (pe_lst pa_nil) pa_nil)))) (pa_cons (pe_mt0 (pv 4) T.clW CWork_whole hr (by decide)) pa_nil)))))))))
      (pss_cutL (ps_set (i := 14) sclaw.nd rfl (Or.inr rfl) (pe_lc (own := [("_law_one_here", 15)]) (g := (gName 15)) rfl sclaw.nd (q_seq K (pv 13)) (blkOk_by (own := [("_law_one_here", 15)]) (N := ["_law_script", "_law_state", "_law_turn", "_law_rows", "_law_base_here", "_law_twin", "_law_far", "_law_numbers", "_law_others", "_law_k", "_law_x", "_law_y", "_law_some", "_law_made", "_law_told", "_law_one_here", "_law_row_here", "_law_shared", "_law_n", "_law_other", "_law_more", "_law_is_less"]) (sc := defScope slaw) (by decide +kernel)) (fun _ _ _ _ _ => (pg_name (i := 15) sclaw.nd rfl (Or.inl rfl) (.inr rfl))) (fun _ _ _ _ _ => pts_nil) (fun _ _ _ _ _ => (pe_fn C_law_row hr (by decide) (pa_cons (pv 15) (pa_cons (pv 6) pa_nil))))))
      (pss_cons (ps_if (pt_not (pt_val (pe_callB (n_all K rfl) (by rfl) B.all (by decide +kernel) (pa_cons (pe_lc (own := [("_law_one_here", 15), ("_law_row_here", 16)]) (g := (gTup K 2 (gCons (gName 15) (gCons (gName 16) gNil)))) rfl sclaw.nd (q_zip K B.zip (pa_cons (pv 13) (pa_cons (pv 14) pa_nil))) (blkOk_by (own := [("_law_one_here", 15), ("_law_row_here", 16)]) (N := ["_law_script", "_law_state", "_law_turn", "_law_rows", "_law_base_here", "_law_twin", "_law_far", "_law_numbers", "_law_others", "_law_k", "_law_x", "_law_y", "_law_some", "_law_made", "_law_told", "_law_one_here", "_law_row_here", "_law_shared", "_law_n", "_law_other", "_law_more", "_law_is_less"]) (sc := defScope slaw) (by decide +kernel)) (fun _ _ _ _ _ => (pg_tup rfl (pgs_cons (pg_name (i := 15) sclaw.nd rfl (Or.inl rfl) (.inr rfl)) (pgs_cons (pg_name (i := 16) sclaw.nd rfl (Or.inl rfl) (.inr rfl)) pgs_nil)))) (fun _ _ _ _ _ => pts_nil) (fun _ _ _ _ _ => (pe_fn C_law_is_kernel hr (by decide) (pa_cons (pv 15) (pa_cons (pv 3) (pa_cons (pv 16) pa_nil)))))) pa_nil)))) (pss_one (ps_ret pe_bl)) pss_nil)
      (pss_cons (ps_if (pt_cmpR (o_neD K hr.units) (pe_ix (x_list K) (pv 14) pe_int (fun _ _ => rfl)) (pe_lc (own := [("_law_k", 9)]) (g := (gName 9)) rfl sclaw.nd (p_range1 B.range (pa_cons (pe_op op_add (pv 6) pe_int) pa_nil)) (blkOk_by (own := [("_law_k", 9)]) (N := ["_law_script", "_law_state", "_law_turn", "_law_rows", "_law_base_here", "_law_twin", "_law_far", "_law_numbers", "_law_others", "_law_k", "_law_x", "_law_y", "_law_some", "_law_made", "_law_told", "_law_one_here", "_law_row_here", "_law_shared", "_law_n", "_law_other", "_law_more", "_law_is_less"]) (sc := defScope slaw) (by decide +kernel)) (fun _ _ _ _ _ => (pg_name (i := 9) sclaw.nd rfl (Or.inr rfl) (.inl rfl))) (fun _ _ _ _ _ => pts_nil) (fun _ _ _ _ _ => (pe_callB (n_max K rfl) (by rfl) B.max (by decide +kernel) (pa_cons (pe_lc (own := [("_law_row_here", 16)]) (g := (gName 16)) rfl sclaw.nd (q_seq K (pe_slice (y_list K) (pv 14) po_none (po_some pe_int))) (blkOk_by (own := [("_law_row_here", 16)]) (by kernel_rfl)) (fun _ _ _ _ _ => (pg_name (i := 16) sclaw.nd rfl (Or.inl rfl) (.inr rfl))) (fun _ _ _ _ _ => pts_nil) (fun _ _ _ _ _ => (pe_callTy c_int (by rfl) B.int (by decide +kernel) (pa_cons (pe_ix (x_list K) (pv 16) (pv 9) (fun _ _ => rfl)) pa_nil)))) pa_nil)))) (nomark _)) (pss_one (ps_ret pe_bl)) pss_nil)
      (pss_cutL (ps_set (i := 17) sclaw.nd rfl (Or.inr rfl) (pe_lc (own := [("_law_k", 9)]) (g := (gName 9)) rfl sclaw.nd (p_range1 B.range (pa_cons (pe_op op_add (pv 6) pe_int) pa_nil)) (blkOk_by (own := [("_law_k", 9)]) (N := ["_law_script", "_law_state", "_law_turn", "_law_rows", "_law_base_here", "_law_twin", "_law_far", "_law_numbers", "_law_others", "_law_k", "_law_x", "_law_y", "_law_some", "_law_made", "_law_told", "_law_one_here", "_law_row_here", "_law_shared", "_law_n", "_law_other", "_law_more", "_law_is_less"]) (sc := defScope slaw) (by decide +kernel)) (fun _ _ _ _ _ => (pg_name (i := 9) sclaw.nd rfl (Or.inl rfl) (.inr rfl))) (fun _ _ _ _ _ => (pts_one (PW.pt (pw_and (pt_cmpR op_eq (pe_ix (x_seq K) (pe_ix (x_list K) (pv 14) pe_int (fun _ _ => rfl)) (pv 9) (fun _ _ => rfl)) (pv 9) (nomark _)) (pw_and1 (pt_cmpR op_eq (pe_ix (x_seq K) (pe_ix (x_list K) (pv 14) pe_int (fun _ _ => rfl)) (pv 9) (fun _ _ => rfl)) (pv 9) (nomark _))))))) (fun _ _ _ _ _ => (pv 9))))
      (pss_cons (ps_if (pt_cmpR (o_neD K hr.units) (pe_ix (x_list K) (pv 14) pe_int (fun _ _ => rfl)) (pe_lc (own := [("_law_k", 9)]) (g := (gName 9)) rfl sclaw.nd (p_range1 B.range (pa_cons (pe_op op_add (pv 6) pe_int) pa_nil)) (blkOk_by (own := [("_law_k", 9)]) (N := ["_law_script", "_law_state", "_law_turn", "_law_rows", "_law_base_here", "_law_twin", "_law_far", "_law_numbers", "_law_others", "_law_k", "_law_x", "_law_y", "_law_some", "_law_made", "_law_told", "_law_one_here", "_law_row_here", "_law_shared", "_law_n", "_law_other", "_law_more", "_law_is_less"]) (sc := defScope slaw) (by decide +kernel)) (fun _ _ _ _ _ => (pg_name (i := 9) sclaw.nd rfl (Or.inr rfl) (.inl rfl))) (fun _ _ _ _ _ => pts_nil) (fun _ _ _ _ _ => (pe_callB (n_max K rfl) (by rfl) B.max (by decide +kernel) (pa_cons (pe_lc (own := [("_law_n", 18)]) (g := (gName 18)) rfl sclaw.nd (q_seq K (pv 17)) (blkOk_by (own := [("_law_n", 18)]) (by kernel_rfl)) (fun _ _ _ _ _ => (pg_name (i := 18) sclaw.nd rfl (Or.inl rfl) (.inr rfl))) (fun _ _ _ _ _ => (pts_one (pt_cmpR op_le (pv 18) (pv 9) (nomark _)))) (fun _ _ _ _ _ => (pe_callTy c_int (by rfl) B.int (by decide +kernel) (pa_cons (pv 18) pa_nil)))) pa_nil)))) (nomark _)) (pss_one (ps_ret pe_bl)) pss_nil)
      (pss_cons (ps_if (PW.pt (pw_or (pt_cmpR (o_neD K hr.units) (pe_ix (x_list K) (pv 14) pe_int (fun _ _ => rfl)) (pe_op op_rep (pe_lst (pa_cons pe_int pa_nil)) (pe_op op_add (pv 6) pe_int)) (nomark _)) (pw_or1 (pt_cmpR (o_neD K hr.units) (pe_ix (x_list K) (pv 14) pe_int (fun _ _ => rfl)) (pe_listRg rfl (by rfl) B.list (prg_1 (by rfl) B.range (pe_op op_add (pv 6) pe_int))) (nomark _))))) (pss_one (ps_ret pe_bl)) pss_nil)
      (pss_cons (ps_for PassesOwn.never rfl (q_zip K B.zip (pa_cons (pv 13) (pa_cons (pv 14) pa_nil))) (pg_tup rfl (pgs_cons (pg_name (i := 15) sclaw.nd rfl (Or.inl rfl)) (pgs_cons (pg_name (i := 16) sclaw.nd rfl (Or.inr rfl)) pgs_nil))) (pss_one (ps_for PassesOwn.never rfl (q_zip K B.zip (pa_cons (pv 13) (pa_cons (pv 14) pa_nil))) (pg_tup rfl (pgs_cons (pg_name (i := 19) sclaw.nd rfl (Or.inl rfl)) (pgs_cons (pg_name (i := 20) sclaw.nd rfl (Or.inr rfl)) pgs_nil))) (pss_cons (ps_set (i := 21) sclaw.nd rfl (Or.inl rfl) (pe_callB (n_all K rfl) (by rfl) B.all (by decide +kernel) (pa_cons (pe_lc (own := [("_law_k", 9)]) (g := (gName 9)) rfl sclaw.nd (p_range1 B.range (pa_cons (pe_op op_add (pv 6) pe_int) pa_nil)) (blkOk_by (own := [("_law_k", 9)]) (N := ["_law_script", "_law_state", "_law_turn", "_law_rows", "_law_base_here", "_law_twin", "_law_far", "_law_numbers", "_law_others", "_law_k", "_law_x", "_law_y", "_law_some", "_law_made", "_law_told", "_law_one_here", "_law_row_here", "_law_shared", "_law_n", "_law_other", "_law_more", "_law_is_less"]) (sc := defScope slaw) (by decide +kernel)) (fun _ _ _ _ _ => (pg_name (i := 9) sclaw.nd rfl (Or.inl rfl) (.inr rfl))) (fun _ _ _ _ _ => pts_nil) (fun _ _ _ _ _ => (pe_cmpR op_le (pe_ix (x_list K) (pv 16) (pv 9) (fun _ _ => rfl)) (pe_ix (x_list K) (pv 20) (pv 9) (fun _ _ => rfl)) (nomark _)))) pa_nil)))
      (pss_one (ps_if (pt_cmpR op_ne (pe_cmpR (o_cmp CEdition___le__ hr (by decide)) (pv 15) (pv 19) (nomark _)) (pv 21) (nomark _)) (pss_one (ps_ret pe_bl)) pss_nil))))))
      (pss_one (ps_if (PW.pt (pw_or (pt_not (pt_val (pe_fn C_law_counts_right hr (by decide) (pa_cons (pv 10) (pa_cons (pv 6) pa_nil))))) (pw_or1 (pt_not (pt_val (pe_fn C_law_counts_right hr (by decide) (pa_cons (pv 12) (pa_cons (pv 6) pa_nil)))))))) (pss_one (ps_ret pe_bl)) pss_nil)))))))))))))))))
      (pss_one (ps_ret pe_bl)))), ?_⟩
    walk_at "go"
    refine ⟨a, cells, rfl, hS, hl, fun S H1 S1 ns0 nc0 D1 => ?_⟩
    walk_at "go"
    refine for_w walk_r0 (fun i σ' H' => ∃ v2 v3 v4 v5 v6 v7 v8 v9 v10 v11 v12 v13 v14 v15 v16 v17 v18 v19 v20 v21, σ' = [some (.ref a), some (.ref S.st), v2, v3, v4, v5, v6, v7, v8, v9, v10, v11, v12, v13, v14, v15, v16, v17, v18, v19, v20, v21] ∧ Dr H' S)
      ⟨_, _, _, _, _, _, _, _, _, _, _, _, _, _, _, _, _, _, _, _, rfl, D1⟩ (fun _ _ _ _ _ => trivial) ?_ ?_
    · rintro i x σ' H2 H3 hi ⟨v2, v3, v4, v5, v6, v7, v8, v9, v10, v11, v12, v13, v14, v15, v16, v17, v18, v19, v20, v21, rfl, D3⟩ ⟨rfl, rfl⟩
      walk_at "go"
      refine ⟨Nat.le_of_ble_eq_true rfl, fun tp ntp => ?_⟩
      refine ⟨S, tp, _, rfl, D3.new ntp, sa_t upd_same, D3.ne ntp, Nat.le_of_ble_eq_true rfl, Nat.le_of_ble_eq_true rfl, fun x H4 hx F4 D4 => ?_⟩
      obtain ⟨m, rfl, hm1, hm2⟩ : ∃ m : Nat, x = .int (m : Nat) ∧ 1 ≤ m ∧ m ≤ 60 := by
        simp only [List.mem_cons, List.not_mem_nil, or_false] at hx
        rcases hx with h | h | h | h | h | h | h
        · exact ⟨1, h, by decide, by decide⟩
        · exact ⟨2, h, by decide, by decide⟩
        · exact ⟨4, h, by decide, by decide⟩
        · exact ⟨7, h, by decide, by decide⟩
        · exact ⟨12, h, by decide, by decide⟩
        · exact ⟨30, h, by decide, by decide⟩
        · exact ⟨60, h, by decide, by decide⟩
      walk_at "go"
      refine ⟨S, m, rfl, D4, hm1, hm2, fun ws r p1 t1 p2 t2 tq H5 hW F5 nr g5 W5 W5' D5 htq => ?_⟩
      have G := hW.good hm1 hm2
      have hwl : ws.length = m := hW.1
      have hwm : (ws.map V.str).length = ws.length := List.length_map _
      have nrs : r ≠ S.st := (D4.ne nr)
      walk_at "go"
      refine ⟨S, ws.length, by rw [hwm]; rfl, D5, by omega, fun ns ln H6 As F6 nln D6 g6 => ?_⟩
      have nls : ln ≠ S.st := D5.ne nln
      have g6r := F6 _ _ nrs g5
      walk_at "go"
      refine ⟨Nat.le_of_ble_eq_true rfl, fun te nte => ?_⟩
      walk_at "go"
      refine ⟨S, ws.length, by rw [hwm]; rfl, D6.new nte, by omega, fun ms0 lo H7 As0 F7 nlo D7 g7 => ?_⟩
      have nos : lo ≠ S.st := (D6.new nte).ne nlo
      have g7r := F7 _ _ nrs (upd_new g6r nte)
      have g7n := F7 _ _ nls (upd_new g6 nte)
      have W7 := ((W5.dr F6 D5).new nte).dr F7 (D6.new nte)
      have W7' := ((W5'.dr F6 D5).new nte).dr F7 (D6.new nte)
      clear F4 F5 F6 F7
      walk_at "go"
      refine ⟨fun σ' H' => ∃ lo' ms v9, σ' = [some (.ref a), some (.ref S.st), some (.int (i : Nat)), some (.ref r), some (.ref p1), some (.ref p2), some (.int (ws.length : Nat)), some (.ref ln), some (.ref lo'), v9, v10, v11, v12, v13, v14, v15, v16, v17, v18, v19, v20, v21] ∧
        Asc ms ws.length ∧ H' lo' = some (.lst (iv ms)) ∧ Dr H' S ∧ H' r = some (.lst (ws.map V.str)) ∧ H' ln = some (.lst (iv ns)) ∧ WkAt Z H' p1 t1 "a" ws ∧ WkAt Z H' p2 t2 "a" ws, ?_, ?_⟩
      · walk_at "go"
        refine ⟨S, 4, rfl, D7, by decide, by decide, fun d H8 hd F8 D8 => ?_⟩
        have g8 := F8 _ _ nos g7
        have g8r := F8 _ _ nrs g7r
        have g8n := F8 _ _ nls g7n
        have W8 := W7.dr F8 D7
        have W8' := W7'.dr F8 D7
        have hml : ms0.length ≤ 100 := by have := As0.len; omega
        walk_at "go"
        refine k_dec (fun h => ?_) (fun h => ?_)
        · walk_at "go"
          refine lc_seq (sa_l g8) (fun u hu => hu) (fun D i H' => Same H8 H' ∧ H' D = some (.lst (iv ((ms0.take i).filter fun x => decide (x ∈ ns))))) (fun D nD => ⟨Same.new (Same.refl _) nD, upd_same⟩) ?_ ?_ ?_
          · rintro D i H' _ _ ⟨S2, _⟩ u hu
            exact rd_sm S2 hu
          · rintro D i x H9 nD hi ⟨S2, g2⟩ hx
            obtain ⟨y, hy, rfl⟩ := iv_get hx
            have hm2 := S2 _ _ g8n
            walk_at "go"
            rw [mem_iv]
            refine k_dec (fun h => ?_) (fun h => ?_)
            · walk_at "go"
              refine ⟨_, g2, sz (filt_len hml), Same.mut S2 nD, ?_⟩
              rw [upd_same, filter_take hy, if_pos (decide_eq_true h), iv_app]
            · refine ⟨S2, ?_⟩
              rw [filter_take hy, if_neg (by rw [decide_eq_false h]; exact Bool.false_ne_true), List.append_nil]
              exact g2
          · rintro D H9 nD ⟨S2, g2⟩
            rw [iv_len, List.take_length] at g2
            walk_at "go"
            exact ⟨D, _, _, by rw [hwm]; rfl, As0.filter _, g2, D8.same S2, S2 _ _ g8r, S2 _ _ g8n, W8.sm S2, W8'.sm S2⟩
        · walk_at "go"
          exact ⟨lo, ms0, _, by rw [hwm]; rfl, As0, g8, D8, g8r, g8n, W8, W8'⟩
      rintro σ' H9 ⟨lo', ms, v9', rfl, Bs, g9o, D9, g9r, g9n, W9, W9'⟩
      clear W5 W5' W7 W7' g5 g6 g6r g7 g7r g7n htq
      walk_at "go"
      refine ⟨p1, t1, r, ln, "a", ws, ns, rfl, W9, G, g9r, sa_l g9n, As, fun x nx H10 S10 nxx E10 => ?_⟩
      walk_at "go"
      refine ⟨p2, t2, r, lo', "a", ws, ms, rfl, W9'.sm S10, G, S10 _ _ g9r, sa_l (S10 _ _ g9o), Bs, fun y ny H11 S11 nyy E11 => ?_⟩
      walk_at "go"
      have W11 := (W9.sm S10).sm S11
      have W11' := (W9'.sm S10).sm S11
      have X11 := E10.sm S11
      refine ⟨x, nx, p1, t1, y, ny, p2, t2, "a", ws, ns, ms, rfl, X11, W11, E11, W11', G, As, fun o no H12 S12 noo E12 => ?_⟩
      have D12 := ((D9.same S10).same S11).same S12
      have r12 := S12 _ _ (S11 _ _ (S10 _ _ g9r))
      have W12 := W11.sm S12
      have W12' := W11'.sm S12
      have X12 := X11.sm S12
      have Y12 := E11.sm S12
      clear S10 S11 S12
      refine ⟨fun σ' H' => ∃ v9 L an sb ee wh, σ' = [some (.ref a), some (.ref S.st), some (.int (i : Nat)), some (.ref r), some (.ref p1), some (.ref p2), some (.int (ws.length : Nat)), some (.ref ln), some (.ref lo'), v9, some (.ref x), some (.ref y), some (.ref o), some (.ref L), v14, v15, v16, v17, v18, v19, v20, v21] ∧
        Dr H' S ∧ H' r = some (.lst (ws.map V.str)) ∧ H' L = some (.lst [.ref x, .ref y, .ref an, .ref o, .ref sb, .ref ee, .ref wh]) ∧ Edn Z H' x ws ns ∧ Edn Z H' y ws ms ∧ Edn Z H' an ws (andN ws.length ns ms) ∧ Edn Z H' o ws (orN ws.length ns ms) ∧ Edn Z H' sb ws (subN ws.length ns ms) ∧ Edn Z H' ee ws [] ∧ Edn Z H' wh ws (List.range ws.length), ?_, ?_⟩
      · walk_at "go"
        refine ⟨x, nx, p1, t1, y, ny, p2, t2, "a", ws, ns, ms, rfl, X12, W12, Y12, W12', G, As, fun an nan H13 S13 nann E13 => ?_⟩
        walk_at "go"
        refine ⟨x, nx, p1, t1, y, ny, p2, t2, "a", ws, ns, ms, rfl, X12.sm S13, W12.sm S13, Y12.sm S13, W12'.sm S13, G, As, fun sb nsb H14 S14 nsbb E14 => ?_⟩
        walk_at "go"
        refine ⟨Nat.le_of_ble_eq_true rfl, fun e1 ne1 => ?_⟩
        have W14 := (W12.sm S13).sm S14
        refine ⟨p1, t1, r, e1, "a", ws, [], rfl, W14.new ne1, G, upd_new (S14 _ _ (S13 _ _ r12)) ne1, sa_l upd_same, ⟨List.Pairwise.nil, by simp⟩, fun ee nee H15 S15 neee E15 => ?_⟩
        have S14' : Same H14 H15 := (Same.new (Same.refl _) ne1).trans S15
        have W15 := W14.sm S14'
        walk_at "go"
        refine ⟨p1, t1, "a", ws, rfl, W15, G, fun wh nwh H16 S16 nwhh E16 => ?_⟩
        walk_at "go"
        refine ⟨Nat.le_of_ble_eq_true rfl, fun L nL => ?_⟩
        have Sx : Same H12 (upd H16 L (.lst [.ref x, .ref y, .ref an, .ref o, .ref sb, .ref ee, .ref wh])) := Same.new (((S13.trans S14).trans S14').trans S16) nL
        have Sa : Same H13 (upd H16 L (.lst [.ref x, .ref y, .ref an, .ref o, .ref sb, .ref ee, .ref wh])) := Same.new ((S14.trans S14').trans S16) nL
        have Sb : Same H14 (upd H16 L (.lst [.ref x, .ref y, .ref an, .ref o, .ref sb, .ref ee, .ref wh])) := Same.new (S14'.trans S16) nL
        have Se : Same H15 (upd H16 L (.lst [.ref x, .ref y, .ref an, .ref o, .ref sb, .ref ee, .ref wh])) := Same.new S16 nL
        exact ⟨_, L, an, sb, ee, wh, rfl, D12.same Sx, Sx _ _ r12, upd_same, ⟨⟨_, _, _, X12.sm Sx, W12.sm Sx⟩, As⟩, ⟨⟨_, _, _, Y12.sm Sx, W12'.sm Sx⟩, Bs⟩,
          ⟨⟨_, _, _, E13.sm Sa, W12.sm Sx⟩, As.filter _⟩, ⟨⟨_, _, _, E12.sm Sx, W12.sm Sx⟩, (range_asc _).filter _⟩, ⟨⟨_, _, _, E14.sm Sb, W12.sm Sx⟩, As.filter _⟩, ⟨⟨_, _, _, E15.sm Se, W12.sm Sx⟩, ⟨List.Pairwise.nil, by simp⟩⟩, ⟨⟨_, _, _, E16.new nL, W12.sm Sx⟩, range_asc _⟩⟩
      rintro σ' H17 ⟨v9'', L, an, sb, ee, wh, rfl, D17, r17, L17, A0, A1, A2, A3, A4, A5, A6⟩
      clear X11 X12 Y12 W11 W11' W12 W12' E10 E11 E12 W9 W9'
      have hG := G.le
      have hE := seven (P := fun j e => Edn Z H17 e ws ([ns, ms, andN ws.length ns ms, orN ws.length ns ms, subN ws.length ns ms, [], List.range ws.length].getD j [])) A0 A1 A2 A3 A4 A5 A6
      refine ⟨fun σ' H' => ∃ v9 M l0 l1 l2 l3 l4 l5 l6 v15, σ' = [some (.ref a), some (.ref S.st), some (.int (i : Nat)), some (.ref r), some (.ref p1), some (.ref p2), some (.int (ws.length : Nat)), some (.ref ln), some (.ref lo'), v9, some (.ref x), some (.ref y), some (.ref o), some (.ref L), some (.ref M), v15, v16, v17, v18, v19, v20, v21] ∧
        Same H17 H' ∧ H' M = some (.lst [.ref l0, .ref l1, .ref l2, .ref l3, .ref l4, .ref l5, .ref l6]) ∧ ∀ j l, ([l0, l1, l2, l3, l4, l5, l6] : List Addr)[j]? = some l → H' l = some (.lst (iv (row ws.length ([ns, ms, andN ws.length ns ms, orN ws.length ns ms, subN ws.length ns ms, [], List.range ws.length].getD j [])))), ?_, ?_⟩
      · walk_at "go"
        refine lc_seq (sa_l L17) (fun u hu => hu) (fun D j H' => Same H17 H' ∧ ∃ ls : List Addr, ls.length = j ∧ H' D = some (.lst (ls.map V.ref)) ∧ ∀ j' l, ls[j']? = some l → l ≠ D ∧ H' l = some (.lst (iv (row ws.length ([ns, ms, andN ws.length ns ms, orN ws.length ns ms, subN ws.length ns ms, [], List.range ws.length].getD j' [])))))
          (fun D nD => ⟨Same.new (Same.refl _) nD, [], rfl, upd_same, fun j' l h => nomatch h⟩) ?_ ?_ ?_
        · rintro D j H' _ _ ⟨S2, _⟩ u hu
          exact rd_sm S2 hu
        · rintro D j v H18 nD hj ⟨S18, ls, hls, gD, hall⟩ hv
          obtain ⟨e, he, rfl⟩ := map_get (l := [x, y, an, o, sb, ee, wh]) (f := V.ref) hv
          walk_at "go"
          refine ⟨e, ws, _, rfl, (hE j e he).sm S18, G, fun l H19 S19 nl hl => ?_⟩
          have nlD : l ≠ D := (ne_of_none gD nl).symm
          have hj7 : j < 7 := hj
          refine ⟨_, S19 _ _ gD, sz (by rw [List.length_map]; omega), Same.mut (S18.trans S19) nD, ls ++ [l], by rw [List.length_append, hls]; rfl, by rw [upd_same, List.map_append]; rfl, fun j' l' h => ?_⟩
          by_cases q : j' < ls.length
          · rw [List.getElem?_append_left q] at h
            obtain ⟨q1, q2⟩ := hall j' l' h
            exact ⟨q1, upd_old (S19 _ _ q2) q1⟩
          · rw [List.getElem?_append_right (by omega)] at h
            have hj' : j' = j := by
              have := (List.getElem?_eq_some_iff.mp h).1
              simp at this
              omega
            subst hj'
            rw [hls, Nat.sub_self] at h
            cases h
            exact ⟨nlD, upd_old hl nlD⟩
        · rintro D H18 nD ⟨S18, ls, hls, gD, hall⟩
          obtain ⟨l0, l1, l2, l3, l4, l5, l6, rfl⟩ := of_seven hls
          walk_at "go"
          exact ⟨_, D, l0, l1, l2, l3, l4, l5, l6, _, rfl, S18, gD, fun j l h => (hall j l h).2⟩
      rintro σ' H20 ⟨v9'', M, l0, l1, l2, l3, l4, l5, l6, v15', rfl, S20, M20, hR⟩
      have hE2 : ∀ j e, ([x, y, an, o, sb, ee, wh] : List Addr)[j]? = some e → Edn Z H20 e ws ([ns, ms, andN ws.length ns ms, orN ws.length ns ms, subN ws.length ns ms, [], List.range ws.length].getD j []) := fun j e h => (hE j e h).sm S20
      have D20 := D17.same S20
      have r20 := S20 _ _ r17
      have L20 := S20 _ _ L17
      clear S20 hE A0 A1 A2 A3 A4 A5 A6 D17 r17 L17
      -- all kernels are right
      walk_at "go"
      refine lc_w (walk_zip (xs := [x, y, an, o, sb, ee, wh].map V.ref) (ys := [l0, l1, l2, l3, l4, l5, l6].map V.ref) (n := 7) rfl) (fun D j H' => Same H20 H' ∧ H' D = some (.lst ((List.replicate j true).map V.bl))) (fun D nD => ⟨Same.new (Same.refl _) nD, upd_same⟩) (fun D j H' nD hj p => ⟨sl_of (p.1 _ _ L20), sl_of (p.1 _ _ M20)⟩) ?_ ?_
      · rintro D j v H21 H22 nD hj ⟨S21, g21⟩ ⟨T2, u1, u2, rfl, nT, rfl, e1, e2⟩
        obtain ⟨e, he, rfl⟩ := map_get (l := [x, y, an, o, sb, ee, wh]) (f := V.ref) e1
        obtain ⟨l, hl, rfl⟩ := map_get (l := [l0, l1, l2, l3, l4, l5, l6]) (f := V.ref) e2
        have S22 : Same H20 (upd H21 T2 (.tup [.ref e, .ref l])) := Same.new S21 nT
        walk_at "go"
        refine ⟨e, r, l, ws, _, rfl, (hE2 j e he).sm S22, G, S22 _ _ r20, S22 _ _ (hR j l hl), fun H23 S23 => ?_⟩
        refine ⟨_, S23 _ _ (upd_new g21 nT), sz (by rw [List.length_map, List.length_replicate]; omega), Same.mut (S22.trans S23) nD, ?_⟩
        rw [upd_same, List.replicate_succ', List.map_append]
        rfl
      rintro D H21 nD ⟨S21, g21⟩
      walk_at "go"
      rw [show (List.replicate 7 true).all id = true from rfl]
      have hE3 : ∀ j e, ([x, y, an, o, sb, ee, wh] : List Addr)[j]? = some e → Edn Z H21 e ws ([ns, ms, andN ws.length ns ms, orN ws.length ns ms, subN ws.length ns ms, [], List.range ws.length].getD j []) := fun j e h => (hE2 j e h).sm S21
      have hR3 : ∀ j l, ([l0, l1, l2, l3, l4, l5, l6] : List Addr)[j]? = some l → H21 l = some (.lst (iv (row ws.length ([ns, ms, andN ws.length ns ms, orN ws.length ns ms, subN ws.length ns ms, [], List.range ws.length].getD j [])))) := fun j l h => S21 _ _ (hR j l h)
      have D21 := D20.same S21
      have r21 := S21 _ _ r20
      have L21 := S21 _ _ L20
      have M21 := S21 _ _ M20
      clear S21 hE2 hR D20 r20 L20 M20 g21
      -- that of | is the greater of both
      walk_at "go"
      rw [show ((ws.length : Int) + 1).toNat = ws.length + 1 by omega]
      refine lc_w walk_r0 (fun D j H' => Same H21 H' ∧ H' D = some (.lst (iv ((List.range j).map fun k => max (kern ns k) (kern ms k))))) (fun D nD => ⟨Same.new (Same.refl _) nD, upd_same⟩) (fun _ _ _ _ _ _ => trivial) ?_ ?_
      · rintro D' j v H22 H23 nD' hj ⟨S23, g23⟩ ⟨rfl, rfl⟩
        have M23 := S23 _ _ M21
        walk_at "go"
        refine k_sll (sl_of M23) fun sl nsl => ?_
        refine lc_seq (xs := [.ref l0, .ref l1]) (sa_l upd_same) (fun u hu => hu) (fun E j' H' => Same (upd H23 sl (.lst [.ref l0, .ref l1])) H' ∧ H' E = some (.lst (iv ([kern ns j, kern ms j].take j')))) (fun E nE => ⟨Same.new (Same.refl _) nE, upd_same⟩) ?_ ?_ ?_
        · rintro E j' H' _ _ ⟨S2, _⟩ u hu
          exact rd_sm S2 hu
        · rintro E j' v H24 nE hj' ⟨S24, g24⟩ hv
          have S21' : Same H21 H24 := S23.trans ((Same.new (Same.refl _) nsl).trans S24)
          have a0 := row_at (m := ws.length) ns (show j ≤ ws.length by omega)
          have a1 := row_at (m := ws.length) ms (show j ≤ ws.length by omega)
          have r0 := S21' _ _ (hR3 0 l0 rfl)
          have r1 := S21' _ _ (hR3 1 l1 rfl)
          match j', hj', g24, hv with
          | 0, _, g24, hv =>
            cases hv
            walk_at "go"
            exact ⟨_, g24, sz (by walk_at "ln"), Same.mut S24 nE, by rw [upd_same]; rfl⟩
          | 1, _, g24, hv =>
            cases hv
            walk_at "go"
            exact ⟨_, g24, sz (by walk_at "ln"), Same.mut S24 nE, by rw [upd_same]; rfl⟩
          | n + 2, h, _, _ => exact absurd h (by simp)
        · rintro E H24 nE ⟨S24, g24⟩
          have S21' : Same H23 H24 := (Same.new (Same.refl _) nsl).trans S24
          walk_at "go"
          refine k_max (ns := [(kern ns j : Int), (kern ms j : Int)]) g24 (by simp) fun mx hmx hle => ?_
          have h1 := hle (kern ns j : Int) (by simp)
          have h2 := hle (kern ms j : Int) (by simp)
          have emx : mx = ((max (kern ns j) (kern ms j) : Nat) : Int) := by
            simp only [List.mem_cons, List.not_mem_nil, or_false] at hmx
            omega
          subst emx
          refine ⟨_, S21' _ _ g23, sz (by rw [iv_len, List.length_map, List.length_range]; omega), Same.mut (S23.trans S21') nD', ?_⟩
          rw [upd_same, List.range_succ, List.map_append, List.map_singleton, iv_app]
      rintro D' H22 nD' ⟨S22, g22⟩
      have q3 : H22 l3 = some (.lst (iv (row ws.length (orN ws.length ns ms)))) := S22 _ _ (hR3 3 l3 rfl)
      refine k_neLI q3 g22 ?_
      rw [decide_eq_true (congrArg (List.map fun n : Nat => (n : Int)) (row_or As Bs))]
      walk_at "go"
      have hE4 : ∀ j e, ([x, y, an, o, sb, ee, wh] : List Addr)[j]? = some e → Edn Z H22 e ws ([ns, ms, andN ws.length ns ms, orN ws.length ns ms, subN ws.length ns ms, [], List.range ws.length].getD j []) := fun j e h => (hE3 j e h).sm S22
      have hR4 : ∀ j l, ([l0, l1, l2, l3, l4, l5, l6] : List Addr)[j]? = some l → H22 l = some (.lst (iv (row ws.length ([ns, ms, andN ws.length ns ms, orN ws.length ns ms, subN ws.length ns ms, [], List.range ws.length].getD j [])))) := fun j l h => S22 _ _ (hR3 j l h)
      have D22 := D21.same S22
      have L22 := S22 _ _ L21
      have M22 := S22 _ _ M21
      clear S22 hE3 hR3 D21 r21 L21 M21 g22 q3
      -- the cuts at which both stand
      refine ⟨fun σ' H' => ∃ v9 sh, σ' = [some (.ref a), some (.ref S.st), some (.int (i : Nat)), some (.ref r), some (.ref p1), some (.ref p2), some (.int (ws.length : Nat)), some (.ref ln), some (.ref lo'), v9, some (.ref x), some (.ref y), some (.ref o), some (.ref L), some (.ref M), v15', v16, some (.ref sh), v18, v19, v20, v21] ∧
        Same H22 H' ∧ H' sh = some (.lst (iv (shar ws.length ns ms))), ?_, ?_⟩
      · walk_at "go"
        rw [show ((ws.length : Int) + 1).toNat = ws.length + 1 by omega]
        have hrl : (List.range (ws.length + 1)).length ≤ 101 := by rw [List.length_range]; omega
        refine lc_w walk_r0 (fun D j H' => Same H22 H' ∧ H' D = some (.lst (iv (((List.range (ws.length + 1)).take j).filter fun k => decide (kern ns k = k) && decide (kern ms k = k))))) (fun D nD => ⟨Same.new (Same.refl _) nD, upd_same⟩) (fun _ _ _ _ _ _ => trivial) ?_ ?_
        · rintro D j v H23 H24 nD hj ⟨S24, g24⟩ ⟨rfl, rfl⟩
          have hy : (List.range (ws.length + 1))[j]? = some j := List.getElem?_range (by omega)
          have a0 := row_at (m := ws.length) ns (show j ≤ ws.length by omega)
          have a1 := row_at (m := ws.length) ms (show j ≤ ws.length by omega)
          have r0 : H24 l0 = some (.lst (iv (row ws.length ns))) := S24 _ _ (hR4 0 l0 rfl)
          have r1 : H24 l1 = some (.lst (iv (row ws.length ms))) := S24 _ _ (hR4 1 l1 rfl)
          have M24 := S24 _ _ M22
          have hsz : (iv (((List.range (ws.length + 1)).take j).filter fun k => decide (kern ns k = k) && decide (kern ms k = k))).length < 100000 := by
            rw [iv_len]
            have h1 := List.length_filter_le (fun k => decide (kern ns k = k) && decide (kern ms k = k)) ((List.range (ws.length + 1)).take j)
            have h2 := List.length_take_le' j (List.range (ws.length + 1))
            omega
          have no : (decide (kern ns j = j) && decide (kern ms j = j)) = false → Same H22 H24 ∧ H24 D = some (.lst (iv (((List.range (ws.length + 1)).take (j + 1)).filter fun k => decide (kern ns k = k) && decide (kern ms k = k)))) := fun h => by
            refine ⟨S24, ?_⟩
            rw [filter_take hy, if_neg (by rw [h]; exact Bool.false_ne_true), List.append_nil]
            exact g24
          walk_at "go"
          refine k_dec (fun h => ?_) (fun h => ?_)
          · walk_at "go"
            refine k_dec (fun h2 => ?_) (fun h2 => ?_)
            · walk_at "go"
              refine ⟨_, g24, sz hsz, Same.mut S24 nD, ?_⟩
              rw [upd_same, filter_take hy, if_pos (by rw [decide_eq_true (show kern ns j = j by omega), decide_eq_true (show kern ms j = j by omega)]; rfl), iv_app]
            · exact no (by rw [decide_eq_false (show ¬ kern ms j = j by omega), Bool.and_false])
          · walk_at "go"
            exact no (by rw [decide_eq_false (show ¬ kern ns j = j by omega), Bool.false_and])
        · rintro D H23 nD ⟨S23, g23⟩
          rw [List.take_of_length_le (by rw [List.length_range]; omega)] at g23
          walk_at "go"
          exact ⟨_, D, rfl, S23, g23⟩
      rintro σ' H23 ⟨v9'', sh, rfl, S23, sh23⟩
      have hE5 : ∀ j e, ([x, y, an, o, sb, ee, wh] : List Addr)[j]? = some e → Edn Z H23 e ws ([ns, ms, andN ws.length ns ms, orN ws.length ns ms, subN ws.length ns ms, [], List.range ws.length].getD j []) := fun j e h => (hE4 j e h).sm S23
      have hR5 : ∀ j l, ([l0, l1, l2, l3, l4, l5, l6] : List Addr)[j]? = some l → H23 l = some (.lst (iv (row ws.length ([ns, ms, andN ws.length ns ms, orN ws.length ns ms, subN ws.length ns ms, [], List.range ws.length].getD j [])))) := fun j l h => S23 _ _ (hR4 j l h)
      have D23 := D22.same S23
      have L23 := S23 _ _ L22
      have M23 := S23 _ _ M22
      clear S23 hE4 hR4 D22 L22 M22
      have hshl : (shar ws.length ns ms).length ≤ 101 := by
        unfold shar
        have := List.length_filter_le (fun k => decide (kern ns k = k) && decide (kern ms k = k)) (List.range (ws.length + 1))
        rw [List.length_range] at this
        omega
      -- that of & is the greatest of them not above
      walk_at "go"
      rw [show ((ws.length : Int) + 1).toNat = ws.length + 1 by omega]
      refine lc_w walk_r0 (fun D j H' => Same H23 H' ∧ H' D = some (.lst (iv ((List.range j).map fun k => kern (andN ws.length ns ms) k)))) (fun D nD => ⟨Same.new (Same.refl _) nD, upd_same⟩) (fun _ _ _ _ _ _ => trivial) ?_ ?_
      · rintro D' j v H24 H25 nD' hj ⟨S25, g25⟩ ⟨rfl, rfl⟩
        have sh25 := S25 _ _ sh23
        walk_at "go"
        refine lc_seq (sa_l sh25) (fun u hu => hu) (fun E j' H' => Same H25 H' ∧ H' E = some (.lst (iv (((shar ws.length ns ms).take j').filter fun n => decide (n ≤ j))))) (fun E nE => ⟨Same.new (Same.refl _) nE, upd_same⟩) ?_ ?_ ?_
        · rintro E j' H' _ _ ⟨S2, _⟩ u hu
          exact rd_sm S2 hu
        · rintro E j' v H26 nE hj' ⟨S26, g26⟩ hv
          obtain ⟨n, hn, rfl⟩ := iv_get hv
          walk_at "go"
          refine k_dec (fun h => ?_) (fun h => ?_)
          · walk_at "go"
            refine ⟨_, g26, sz ?_, Same.mut S26 nE, ?_⟩
            · rw [iv_len]
              have h1 := List.length_filter_le (fun n => decide (n ≤ j)) ((shar ws.length ns ms).take j')
              have h2 := List.length_take_le' j' (shar ws.length ns ms)
              omega
            · rw [upd_same, filter_take hn, if_pos (decide_eq_true (by omega)), iv_app]
          · refine ⟨S26, ?_⟩
            rw [filter_take hn, if_neg (by rw [decide_eq_false (by omega)]; exact Bool.false_ne_true), List.append_nil]
            exact g26
        · rintro E H26 nE ⟨S26, g26⟩
          rw [iv_len, List.take_length] at g26
          have hin := and_in As Bs (show j ≤ ws.length by omega)
          walk_at "go"
          refine k_max g26 (by rw [List.length_map]; exact List.length_pos_of_mem hin) fun mx hmx hle => ?_
          obtain ⟨y', hy', rfl⟩ := List.mem_map.mp hmx
          have h1 := hle (kern (andN ws.length ns ms) j : Int) (List.mem_map.mpr ⟨_, hin, rfl⟩)
          have h2 := and_max As Bs hy'
          have ey : y' = kern (andN ws.length ns ms) j := by omega
          subst ey
          refine ⟨_, S26 _ _ g25, sz (by rw [iv_len, List.length_map, List.length_range]; omega), Same.mut (S25.trans S26) nD', ?_⟩
          rw [upd_same, List.range_succ, List.map_append, List.map_singleton, iv_app]
      rintro D' H24 nD' ⟨S24, g24⟩
      have q2 : H24 l2 = some (.lst (iv (row ws.length (andN ws.length ns ms)))) := S24 _ _ (hR5 2 l2 rfl)
      refine k_neLI q2 g24 ?_
      rw [decide_eq_true (show (row ws.length (andN ws.length ns ms)).map (fun n : Nat => (n : Int)) = ((List.range (ws.length + 1)).map fun k => kern (andN ws.length ns ms) k).map (fun n : Nat => (n : Int)) from rfl)]
      walk_at "go"
      have hE6 : ∀ j e, ([x, y, an, o, sb, ee, wh] : List Addr)[j]? = some e → Edn Z H24 e ws ([ns, ms, andN ws.length ns ms, orN ws.length ns ms, subN ws.length ns ms, [], List.range ws.length].getD j []) := fun j e h => (hE5 j e h).sm S24
      have hR6 : ∀ j l, ([l0, l1, l2, l3, l4, l5, l6] : List Addr)[j]? = some l → H24 l = some (.lst (iv (row ws.length ([ns, ms, andN ws.length ns ms, orN ws.length ns ms, subN ws.length ns ms, [], List.range ws.length].getD j [])))) := fun j l h => S24 _ _ (hR5 j l h)
      have D24 := D23.same S24
      have L24 := S24 _ _ L23
      have M24 := S24 _ _ M23
      clear S24 hE5 hR5 D23 L23 M23 g24 q2 sh23
      refine ⟨Nat.le_of_ble_eq_true rfl, fun z1 nz1 => ?_⟩
      walk_at "go"
      rw [show (ws.length : Int) + 1 = ((ws.length + 1 : Nat) : Int) by omega]
      refine k_rep upd_same (by walk_at "ln") (by omega) fun z2 nz2 => ?_
      have ez : (List.replicate (ws.length + 1) [V.int 0]).flatten = iv (List.replicate (ws.length + 1) 0) := by
        unfold iv
        rw [List.map_replicate, List.map_replicate]
        exact List.flatten_replicate_singleton
      rw [ez]
      have q5 : H24 l5 = some (.lst (iv (row ws.length []))) := hR6 5 l5 rfl
      have q6 : H24 l6 = some (.lst (iv (row ws.length (List.range ws.length)))) := hR6 6 l6 rfl
      refine k_neLI (upd_new (upd_new q5 nz1) nz2) upd_same ?_
      rw [decide_eq_true (congrArg (List.map fun n : Nat => (n : Int)) (row_nil ws.length))]
      walk_at "go"
      refine ⟨RgOk.of_le (by omega) (by omega) (by omega) (by omega), fun z3 nz3 => ?_⟩
      rw [show (ws.length : Int) + 1 = ((ws.length + 1 : Nat) : Int) by omega, rgV_iv]
      refine k_neLI (upd_new (upd_new (upd_new q6 nz1) nz2) nz3) upd_same ?_
      rw [decide_eq_true (congrArg (List.map fun n : Nat => (n : Int)) (row_all ws.length))]
      have S25 := Same.new (u := .lst (((List.range (ws.length + 1)).map fun i : Nat => (i : Int)).map V.int)) (Same.new (u := .lst (iv (List.replicate (ws.length + 1) 0))) (Same.new (u := .lst [.int 0]) (Same.refl H24) nz1) nz2) nz3
      generalize hH25 : upd (upd (upd H24 z1 (.lst [.int 0])) z2 (.lst (iv (List.replicate (ws.length + 1) 0)))) z3 (.lst (((List.range (ws.length + 1)).map fun i : Nat => (i : Int)).map V.int)) = H25 at S25 ⊢
      clear q5 q6 nz1 nz2 nz3 hH25
      walk_at "go"
      -- one edition is within the other just if its kernels are not above
      have hA : ∀ j e, ([x, y, an, o, sb, ee, wh] : List Addr)[j]? = some e → Asc ([ns, ms, andN ws.length ns ms, orN ws.length ns ms, subN ws.length ns ms, [], List.range ws.length].getD j []) ws.length := fun j e h => (hE6 j e h).asc
      refine for_w (walk_zip (xs := [x, y, an, o, sb, ee, wh].map V.ref) (ys := [l0, l1, l2, l3, l4, l5, l6].map V.ref) (n := 7) rfl) (fun j σ' H' => ∃ v9 v15 v16 v19 v20 v21, σ' = [some (.ref a), some (.ref S.st), some (.int (i : Nat)), some (.ref r), some (.ref p1), some (.ref p2), some (.int (ws.length : Nat)), some (.ref ln), some (.ref lo'), v9, some (.ref x), some (.ref y), some (.ref o), some (.ref L), some (.ref M), v15, v16, some (.ref sh), v18, v19, v20, v21] ∧ Same H24 H') ⟨_, _, _, _, _, _, rfl, S25⟩
        (fun j σ' H' hj ⟨_, _, _, _, _, _, _, p⟩ => ⟨sl_of (p _ _ L24), sl_of (p _ _ M24)⟩) ?_ ?_
      · rintro j v σ' H26 H27 hj ⟨w9, w15, w16, w19, w20, w21, rfl, S26⟩ ⟨T2, u1, u2, rfl, nT, rfl, e1, e2⟩
        obtain ⟨e, he, rfl⟩ := map_get (l := [x, y, an, o, sb, ee, wh]) (f := V.ref) e1
        obtain ⟨l, hl2, rfl⟩ := map_get (l := [l0, l1, l2, l3, l4, l5, l6]) (f := V.ref) e2
        have S27 : Same H24 (upd H26 T2 (.tup [.ref e, .ref l])) := Same.new S26 nT
        have L27 := S27 _ _ L24
        have M27 := S27 _ _ M24
        walk_at "go"
        refine for_w (walk_zip (xs := [x, y, an, o, sb, ee, wh].map V.ref) (ys := [l0, l1, l2, l3, l4, l5, l6].map V.ref) (n := 7) rfl) (fun j' σ' H' => ∃ v9 v19 v20 v21, σ' = [some (.ref a), some (.ref S.st), some (.int (i : Nat)), some (.ref r), some (.ref p1), some (.ref p2), some (.int (ws.length : Nat)), some (.ref ln), some (.ref lo'), v9, some (.ref x), some (.ref y), some (.ref o), some (.ref L), some (.ref M), some (.ref e), some (.ref l), some (.ref sh), v18, v19, v20, v21] ∧ Same H24 H') ⟨_, _, _, _, rfl, S27⟩
          (fun j' σ' H' hj' ⟨_, _, _, _, _, p⟩ => ⟨sl_of (p _ _ L24), sl_of (p _ _ M24)⟩) ?_ ?_
        · rintro j' v' σ' H28 H29 hj' ⟨w9, w19, w20, w21, rfl, S28⟩ ⟨T3, u3, u4, rfl, nT3, rfl, e3, e4⟩
          obtain ⟨e', he', rfl⟩ := map_get (l := [x, y, an, o, sb, ee, wh]) (f := V.ref) e3
          obtain ⟨l', hl', rfl⟩ := map_get (l := [l0, l1, l2, l3, l4, l5, l6]) (f := V.ref) e4
          have S29 : Same H24 (upd H28 T3 (.tup [.ref e', .ref l'])) := Same.new S28 nT3
          walk_at "go"
          rw [show ((ws.length : Int) + 1).toNat = ws.length + 1 by omega]
          refine lc_w walk_r0 (fun D q H' => Same H24 H' ∧ H' D = some (.lst (((List.range q).map fun c => decide (kern ([ns, ms, andN ws.length ns ms, orN ws.length ns ms, subN ws.length ns ms, [], List.range ws.length].getD j []) c ≤ kern ([ns, ms, andN ws.length ns ms, orN ws.length ns ms, subN ws.length ns ms, [], List.range ws.length].getD j' []) c)).map V.bl))) (fun D nD => ⟨Same.new S29 nD, upd_same⟩) (fun _ _ _ _ _ _ => trivial) ?_ ?_
          · rintro D q v3 H30 H31 nD hq ⟨S31, g31⟩ ⟨rfl, rfl⟩
            have a0 := row_at (m := ws.length) ([ns, ms, andN ws.length ns ms, orN ws.length ns ms, subN ws.length ns ms, [], List.range ws.length].getD j []) (show q ≤ ws.length by omega)
            have a1 := row_at (m := ws.length) ([ns, ms, andN ws.length ns ms, orN ws.length ns ms, subN ws.length ns ms, [], List.range ws.length].getD j' []) (show q ≤ ws.length by omega)
            have r0 := S31 _ _ (hR6 j l hl2)
            have r1 := S31 _ _ (hR6 j' l' hl')
            walk_at "go"
            refine ⟨_, g31, sz (by rw [List.length_map, List.length_map, List.length_range]; omega), ?_, ?_⟩
            · refine Same.mut S31 (S29.free nD)
            · rw [upd_same, List.range_succ, List.map_append, List.map_append]
              show some (HO.lst (_ ++ [V.bl (decide ((kern _ q : Int) ≤ (kern _ q : Int)))])) = some (HO.lst (_ ++ [V.bl (decide (kern _ q ≤ kern _ q))]))
              rw [show decide ((kern ([ns, ms, andN ws.length ns ms, orN ws.length ns ms, subN ws.length ns ms, [], List.range ws.length].getD j []) q : Int) ≤ (kern ([ns, ms, andN ws.length ns ms, orN ws.length ns ms, subN ws.length ns ms, [], List.range ws.length].getD j' []) q : Int)) = decide (kern ([ns, ms, andN ws.length ns ms, orN ws.length ns ms, subN ws.length ns ms, [], List.range ws.length].getD j []) q ≤ kern ([ns, ms, andN ws.length ns ms, orN ws.length ns ms, subN ws.length ns ms, [], List.range ws.length].getD j' []) q) from decide_eq_decide.mpr (by omega)]
          · rintro D H30 nD ⟨S30, g30⟩
            walk_at "go"
            obtain ⟨⟨n1, w1, c1, X1, Y1⟩, Z1⟩ := (hE6 j e he).sm S30
            obtain ⟨⟨n2, w2, c2, X2, Y2⟩, Z2⟩ := (hE6 j' e' he').sm S30
            refine k_own X1.is X2.is ?_
            refine ⟨e, n1, w1, c1, e', n2, w2, c2, "a", ws, _, _, rfl, X1, Y1, X2, Y2, G, Z1, fun H31 S31 => ?_⟩
            walk_at "go"
            rw [le_same Z1 Z2]
            refine k_same ?_
            walk_at "go"
            exact ⟨_, _, _, _, rfl, S30.trans S31⟩
        · rintro σ' H28 ⟨w9, w19, w20, w21, rfl, S28⟩
          exact ⟨_, _, _, _, _, _, rfl, S28⟩
      · rintro σ' H26 ⟨w9, w15, w16, w19, w20, w21, rfl, S26⟩
        walk_at "go"
        refine ⟨x, ws, ns, rfl, (hE6 0 x rfl).sm S26, G, fun H27 S27 => ?_⟩
        walk_at "go"
        refine ⟨o, ws, orN ws.length ns ms, rfl, ((hE6 3 o rfl).sm S26).sm S27, G, fun H28 S28 => ?_⟩
        walk_at "go"
        exact ⟨_, _, _, _, _, _, _, _, _, _, _, _, _, _, _, _, _, _, _, _, rfl, ((D24.same S26).same S27).same S28⟩
    · rintro σ' H2 ⟨v2, v3, v4, v5, v6, v7, v8, v9, v10, v11, v12, v13, v14, v15, v16, v17, v18, v19, v20, v21, rfl, D2⟩
      walk_at "go"
      exact k H2
end
end Lf

set_option Elab.async false
set_option linter.all false
set_option maxRecDepth 100000
set_option maxHeartbeats 0
/-! The head and the end. -/
namespace Lf
open PySem PySem.Spec PyProof.Rows L2
def d_is_integer : He.DefD := ⟨("is_integer", none), "is_integer", "is_integer", defArgs sis_integer, defBody sis_integer, defScope sis_integer, [], []⟩
def d_is_word : He.DefD := ⟨("is_word", none), "is_word", "is_word", defArgs sis_word, defBody sis_word, defScope sis_word, [], []⟩
def d_is_row : He.DefD := ⟨("is_row", none), "is_row", "is_row", defArgs sis_row, defBody sis_row, defScope sis_row, [], []⟩
def d_is_upto : He.DefD := ⟨("is_upto", none), "is_upto", "is_upto", defArgs sis_upto, defBody sis_upto, defScope sis_upto, [], []⟩
def d_checked_passages : He.DefD := ⟨("checked_passages", none), "checked_passages", "checked_passages", defArgs schecked_passages, defBody schecked_passages, defScope schecked_passages, [], []⟩
def d_numbers_of : He.DefD := ⟨("numbers_of", none), "numbers_of", "numbers_of", defArgs snumbers_of, defBody snumbers_of, defScope snumbers_of, [], []⟩
def d_check_works : He.DefD := ⟨("check_works", none), "check_works", "check_works", defArgs scheck_works, defBody scheck_works, defScope scheck_works, [], []⟩
def d_edition_of : He.DefD := ⟨("edition_of", none), "edition_of", "edition_of", defArgs sedition_of, defBody sedition_of, defScope sedition_of, [], []⟩
def d__law_fresh : He.DefD := ⟨("_law_fresh", none), "_law_fresh", "_law_fresh", defArgs s_law_fresh, defBody s_law_fresh, defScope s_law_fresh, [], []⟩
def d__law_fill : He.DefD := ⟨("_law_fill", none), "_law_fill", "_law_fill", defArgs s_law_fill, defBody s_law_fill, defScope s_law_fill, [], []⟩
def d__law_take : He.DefD := ⟨("_law_take", none), "_law_take", "_law_take", defArgs s_law_take, defBody s_law_take, defScope s_law_take, [], []⟩
def d__law_one : He.DefD := ⟨("_law_one", none), "_law_one", "_law_one", defArgs s_law_one, defBody s_law_one, defScope s_law_one, [], []⟩
def d__law_all_words : He.DefD := ⟨("_law_all_words", none), "_law_all_words", "_law_all_words", defArgs s_law_all_words, defBody s_law_all_words, defScope s_law_all_words, [], []⟩
def d__law_some_words : He.DefD := ⟨("_law_some_words", none), "_law_some_words", "_law_some_words", defArgs s_law_some_words, defBody s_law_some_words, defScope s_law_some_words, [], []⟩
def d__law_kept : He.DefD := ⟨("_law_kept", none), "_law_kept", "_law_kept", defArgs s_law_kept, defBody s_law_kept, defScope s_law_kept, [], []⟩
def d__law_base : He.DefD := ⟨("_law_base", none), "_law_base", "_law_base", defArgs s_law_base, defBody s_law_base, defScope s_law_base, [], []⟩
def d__law_edition : He.DefD := ⟨("_law_edition", none), "_law_edition", "_law_edition", defArgs s_law_edition, defBody s_law_edition, defScope s_law_edition, [], []⟩
def d__law_row : He.DefD := ⟨("_law_row", none), "_law_row", "_law_row", defArgs s_law_row, defBody s_law_row, defScope s_law_row, [], []⟩
def d__law_is_kernel : He.DefD := ⟨("_law_is_kernel", none), "_law_is_kernel", "_law_is_kernel", defArgs s_law_is_kernel, defBody s_law_is_kernel, defScope s_law_is_kernel, [], []⟩
def d__law_counts_right : He.DefD := ⟨("_law_counts_right", none), "_law_counts_right", "_law_counts_right", defArgs s_law_counts_right, defBody s_law_counts_right, defScope s_law_counts_right, [], []⟩
def d_law : He.DefD := ⟨("law", none), "law", "law", defArgs slaw, defBody slaw, defScope slaw, [], []⟩
def d_Work___init__ : He.DefD := ⟨("Work", some "__init__"), "__init__", "Work.__init__", defArgs sWork___init__, defBody sWork___init__, defScope sWork___init__, [], []⟩
def d_Work___eq__ : He.DefD := ⟨("Work", some "__eq__"), "__eq__", "Work.__eq__", defArgs sWork___eq__, defBody sWork___eq__, defScope sWork___eq__, [], []⟩
def d_Work_whole : He.DefD := ⟨("Work", some "whole"), "whole", "Work.whole", defArgs sWork_whole, defBody sWork_whole, defScope sWork_whole, [], []⟩
def d_Edition___init__ : He.DefD := ⟨("Edition", some "__init__"), "__init__", "Edition.__init__", defArgs sEdition___init__, defBody sEdition___init__, defScope sEdition___init__, [], []⟩
def d_Edition___len__ : He.DefD := ⟨("Edition", some "__len__"), "__len__", "Edition.__len__", defArgs sEdition___len__, defBody sEdition___len__, defScope sEdition___len__, [], []⟩
def d_Edition___contains__ : He.DefD := ⟨("Edition", some "__contains__"), "__contains__", "Edition.__contains__", defArgs sEdition___contains__, defBody sEdition___contains__, defScope sEdition___contains__, [], []⟩
def d_Edition___and__ : He.DefD := ⟨("Edition", some "__and__"), "__and__", "Edition.__and__", defArgs sEdition___and__, defBody sEdition___and__, defScope sEdition___and__, [], []⟩
def d_Edition___or__ : He.DefD := ⟨("Edition", some "__or__"), "__or__", "Edition.__or__", defArgs sEdition___or__, defBody sEdition___or__, defScope sEdition___or__, [], []⟩
def d_Edition___sub__ : He.DefD := ⟨("Edition", some "__sub__"), "__sub__", "Edition.__sub__", defArgs sEdition___sub__, defBody sEdition___sub__, defScope sEdition___sub__, [], []⟩
def d_Edition___le__ : He.DefD := ⟨("Edition", some "__le__"), "__le__", "Edition.__le__", defArgs sEdition___le__, defBody sEdition___le__, defScope sEdition___le__, [], []⟩
def d_Edition_cut_behind : He.DefD := ⟨("Edition", some "cut_behind"), "cut_behind", "Edition.cut_behind", defArgs sEdition_cut_behind, defBody sEdition_cut_behind, defScope sEdition_cut_behind, [], []⟩
def d_Edition_count_at : He.DefD := ⟨("Edition", some "count_at"), "count_at", "Edition.count_at", defArgs sEdition_count_at, defBody sEdition_count_at, defScope sEdition_count_at, [], []⟩
def d_Edition_kernel : He.DefD := ⟨("Edition", some "kernel"), "kernel", "Edition.kernel", defArgs sEdition_kernel, defBody sEdition_kernel, defScope sEdition_kernel, [], []⟩
def fn : List He.DefD := [d_is_integer, d_is_word, d_is_row, d_is_upto, d_checked_passages, d_numbers_of, d_check_works, d_edition_of, d__law_fresh, d__law_fill, d__law_take, d__law_one, d__law_all_words, d__law_some_words, d__law_kept, d__law_base, d__law_edition, d__law_row, d__law_is_kernel, d__law_counts_right, d_law, d_Work___init__, d_Work___eq__, d_Work_whole, d_Edition___init__, d_Edition___len__, d_Edition___contains__, d_Edition___and__, d_Edition___or__, d_Edition___sub__, d_Edition___le__, d_Edition_cut_behind, d_Edition_count_at, d_Edition_kernel]
def fa : List He.Fa := [.glo "is_integer", .glo "is_word", .glo "is_row", .glo "is_upto", .glo "checked_passages", .glo "numbers_of", .glo "check_works", .glo "edition_of", .glo "_law_fresh", .glo "_law_fill", .glo "_law_take", .glo "_law_one", .glo "_law_all_words", .glo "_law_some_words", .glo "_law_kept", .glo "_law_base", .glo "_law_edition", .glo "_law_row", .glo "_law_is_kernel", .glo "_law_counts_right", .glo "law", .glo "Work", .glo "Edition", .cls "Work", .cls "Edition", .mkr "Work", .mkr "Edition", .noat "Work" "name", .noat "Work" "rows", .noat "Edition" "work", .noat "Edition" "numbers", .meth "Work" "__init__", .meth "Work" "__eq__", .meth "Work" "whole", .meth "Edition" "__init__", .meth "Edition" "__len__", .meth "Edition" "__contains__", .meth "Edition" "__and__", .meth "Edition" "__or__", .meth "Edition" "__sub__", .meth "Edition" "__le__", .meth "Edition" "cut_behind", .meth "Edition" "count_at", .meth "Edition" "kernel", .free "len", .free "range", .free "enumerate", .free "zip", .free "isinstance", .free "int", .free "str", .free "bool", .free "list", .free "tuple", .free "all", .free "any", .free "max", .free "min", .free "sum", .str "LETTERS" letters, .int "LONGEST" 8]
def exY (K : PySem.W.Frag) : Bool :=
  decide (PySem.W.findIn K (.ref (He.ga K "Work")) "__class__" = some (some (.builtin "object.__class__"))) && (decide (PySem.W.findIn K (.ref (He.ga K "Edition")) "__class__" = some (some (.builtin "object.__class__"))) &&
  (decide (PySem.W.specialIn K (.builtin "object.__class__") "__get__" = some (some (.builtin "getset_descriptor.__get__"))) && (decide (PySem.W.takesIn K (.builtin "object.__class__") = some true) &&
  (decide (PySem.W.mroIn K (He.ga K "Work") (.type "object") = some true) && (decide (PySem.W.mroIn K (He.ga K "Edition") (.type "object") = some true) && PySem.W.selfFirst K (He.ga K "Edition"))))))
abbrev AlY : Type := He.AlD × Bool
def obsY (n : Nat) (g : Addr → Option Obj) : AlY := (He.obsD fa fn (He.frG g (He.asD g n)), exY (He.frG g (He.asD g n)))
def hookY (n : Nat) : PySem.W.Hook where
  α := AlY
  obs := fun s => obsY n s.heap.get?
  val := fun _ => (He.valD fn, true)
  says := fun _ h => ∃ K : PySem.W.Frag, K.In h ∧ He.SaysD fa fn K ∧ exY K = true
  of := fun _ _ e => ⟨_, He.frG_in, congrArg (fun z : AlY => z.1) e, congrArg (fun z : AlY => z.2) e⟩
  keeps := fun _ _ _ ⟨K, hK, c⟩ k => ⟨K, PySem.W.Frag.In.keeps hK k, c⟩
theorem obsY_eq {n : Nat} {g : Addr → Option Obj} {s : Shared} (h : ∀ a, g a = s.heap.get? a) : obsY n g = (hookY n).obs s := by
  have e : g = s.heap.get? := funext h
  rw [e] <;> rfl
abbrev RR : PySem.W.OpenRow := PySem.W.OpenLaw.row PySem.Challenge.rw_leafmarks_k08_whole_kernels_of_joined_ed
def ob (s : PySem.W.SharedT) : AlY := obsY 5 (HandSHeadRun.getT s)
theorem ob_eq (s : PySem.W.SharedT) : ob s = (hookY 5).obs s.abs := obsY_eq (HandSHeadRun.getT_eq s)
theorem runY (w : World) : HandSHeadRun.RunEq RR (PySem.W.view RR.prog [34]) (hookY 5) ob 8000 ["__name__", "LeafError", "BadWord", "BadPassage", "OtherWork", "BadCount", "BadCut", "LETTERS", "LONGEST", "is_integer", "is_word", "is_row", "is_upto", "checked_passages", "Work", "numbers_of", "check_works", "edition_of", "Edition", "_law_fresh", "_law_fill", "_law_take", "_law_one", "_law_all_words", "_law_some_words", "_law_kept", "_law_base", "_law_edition", "_law_row", "_law_is_kernel", "_law_counts_right"] w := by
  intro os
  kernel_rfl
section
variable {P : Program} {w : World} {K : PySem.W.Frag} {h : Heap} {mg : Str → Option Value} {f : Addr}
theorem g_def (X : K.In h) (G : h.Ns mainGlobals mg) (c : He.SaysD fa fn K) {x : Str} {st : Stmt} {d : He.DefD} (i j : Nat) (hi : fa[i]? = some (.glo x) := by rfl) (hj : fn[j]? = some d := by rfl)
    (e : d = ⟨(x, none), x, x, defArgs st, defBody st, defScope st, [], []⟩ := by rfl) : Def K mg x st := by
  obtain ⟨fd, F⟩ := c.def_ j hj
  subst e
  exact ⟨He.ga K x, fd, He.glo_ok X G (c.fact i hi), F⟩
theorem g_meth (c : He.SaysD fa fn K) {x m q : Str} {st : Stmt} {d : He.DefD} (i j : Nat) (hi : fa[i]? = some (.meth x m) := by rfl) (hj : fn[j]? = some d := by rfl)
    (e : d = ⟨(x, some m), m, q, defArgs st, defBody st, defScope st, [], []⟩ := by rfl) : DefM K (He.ga K x) m q st := by
  obtain ⟨fd, F⟩ := c.def_ j hj
  subst e
  exact ⟨He.ma K (He.ga K x) m, fd, He.meth_ok (c.fact i hi), F⟩
theorem g_cls (X : K.In h) (G : h.Ns mainGlobals mg) (c : He.SaysD fa fn K) {base : Heap} {k : Nat} {x : Str} {ps : List Str} {sp : Sp} (i j : Nat) (C : CalM P w K mg base k (He.ga K x) "__init__" ps sp) (hi : fa[i]? = some (.glo x) := by rfl) (hj : fa[j]? = some (.mkr x) := by rfl) :
    CalC P w K mg base k x (He.ga K x) ps sp := by
  have m := c.fact j hj
  obtain ⟨m1, m2⟩ := He.ba (show (PySem.W.makesIn K (He.ga K x) && (He.eqO (PySem.W.findIn K (.ref (He.ga K x)) "__init__") (some (some (.ref (He.ma K (He.ga K x) "__init__")))) && (PySem.W.isFn K (.ref (He.ma K (He.ga K x) "__init__")) && PySem.W.keepIn K (.ref (He.ga K x))))) = true from m)
  exact ⟨He.glo_ok X G (c.fact i hi), m1, (He.ba (He.ba m2).2).2, C⟩
def Zs (K : PySem.W.Frag) : Cs := ⟨He.ga K "Work", He.ga K "Edition"⟩
theorem g_bn (X : K.In h) (G : h.Ns mainGlobals mg) (c : He.SaysD fa fn K) : Bn mg := ⟨He.free_ok X G (c.fact 44 rfl), He.free_ok X G (c.fact 45 rfl), He.free_ok X G (c.fact 46 rfl), He.free_ok X G (c.fact 47 rfl), He.free_ok X G (c.fact 48 rfl), He.free_ok X G (c.fact 49 rfl), He.free_ok X G (c.fact 50 rfl), He.free_ok X G (c.fact 51 rfl), He.free_ok X G (c.fact 52 rfl), He.free_ok X G (c.fact 53 rfl), He.free_ok X G (c.fact 54 rfl), He.free_ok X G (c.fact 55 rfl), He.free_ok X G (c.fact 56 rfl), He.free_ok X G (c.fact 57 rfl), He.free_ok X G (c.fact 58 rfl)⟩
theorem g_tw (X : K.In h) (G : h.Ns mainGlobals mg) (c : He.SaysD fa fn K) (y : exY K = true) : Tw K mg (Zs K) := by
  obtain ⟨y1, y⟩ := He.ba y
  obtain ⟨y2, y⟩ := He.ba y
  obtain ⟨y3, y⟩ := He.ba y
  obtain ⟨y4, y⟩ := He.ba y
  obtain ⟨y5, y⟩ := He.ba y
  obtain ⟨y6, y7⟩ := He.ba y
  exact ⟨He.glo_ok X G (c.fact 21 rfl), He.glo_ok X G (c.fact 22 rfl), of_decide_eq_true y1, of_decide_eq_true y2, of_decide_eq_true y3, of_decide_eq_true y4, of_decide_eq_true y5, of_decide_eq_true y6, y7, He.cls_ok (c.fact 23 rfl), He.noat_ok (c.fact 27 rfl), He.noat_ok (c.fact 28 rfl), He.cls_ok (c.fact 24 rfl), He.noat_ok (c.fact 29 rfl), He.noat_ok (c.fact 30 rfl)⟩
theorem factsY (X : K.In h) (G : h.Ns mainGlobals mg) (hfa : mg ("law" : Str) = some (.ref f)) (c : He.SaysD fa fn K) (y : exY K = true) :
    ∃ fd : FuncData, (∀ (s : Shared) (v : Value), BindsTo s fd ⟨[v], []⟩ [("_law_script", v)]) ∧ ∀ base : Heap, K.In base → base.Ns mainGlobals mg → FnOk P w K mg base CX0 7 f fd ["_law_script"] (spLaw K) := by
  have B := g_bn X G c
  have T := g_tw X G c y
  have W : Cw mg := ⟨He.str_ok X G (c.fact 59 rfl), He.int_ok X G (c.fact 60 rfl)⟩
  have Dis_integer : Def K mg "is_integer" sis_integer := g_def X G c 0 0
  have Dis_word : Def K mg "is_word" sis_word := g_def X G c 1 1
  have Dis_row : Def K mg "is_row" sis_row := g_def X G c 2 2
  have Dis_upto : Def K mg "is_upto" sis_upto := g_def X G c 3 3
  have Dchecked_passages : Def K mg "checked_passages" schecked_passages := g_def X G c 4 4
  have Dnumbers_of : Def K mg "numbers_of" snumbers_of := g_def X G c 5 5
  have Dcheck_works : Def K mg "check_works" scheck_works := g_def X G c 6 6
  have Dedition_of : Def K mg "edition_of" sedition_of := g_def X G c 7 7
  have D_law_fresh : Def K mg "_law_fresh" s_law_fresh := g_def X G c 8 8
  have D_law_fill : Def K mg "_law_fill" s_law_fill := g_def X G c 9 9
  have D_law_take : Def K mg "_law_take" s_law_take := g_def X G c 10 10
  have D_law_one : Def K mg "_law_one" s_law_one := g_def X G c 11 11
  have D_law_all_words : Def K mg "_law_all_words" s_law_all_words := g_def X G c 12 12
  have D_law_some_words : Def K mg "_law_some_words" s_law_some_words := g_def X G c 13 13
  have D_law_kept : Def K mg "_law_kept" s_law_kept := g_def X G c 14 14
  have D_law_base : Def K mg "_law_base" s_law_base := g_def X G c 15 15
  have D_law_edition : Def K mg "_law_edition" s_law_edition := g_def X G c 16 16
  have D_law_row : Def K mg "_law_row" s_law_row := g_def X G c 17 17
  have D_law_is_kernel : Def K mg "_law_is_kernel" s_law_is_kernel := g_def X G c 18 18
  have D_law_counts_right : Def K mg "_law_counts_right" s_law_counts_right := g_def X G c 19 19
  have Dlaw : Def K mg "law" slaw := g_def X G c 20 20
  have DWork___init__ : DefM K (Zs K).W "__init__" "Work.__init__" sWork___init__ := g_meth (x := "Work") c 31 21
  have DWork___eq__ : DefM K (Zs K).W "__eq__" "Work.__eq__" sWork___eq__ := g_meth (x := "Work") c 32 22
  have DWork_whole : DefM K (Zs K).W "whole" "Work.whole" sWork_whole := g_meth (x := "Work") c 33 23
  have DEdition___init__ : DefM K (Zs K).E "__init__" "Edition.__init__" sEdition___init__ := g_meth (x := "Edition") c 34 24
  have DEdition___len__ : DefM K (Zs K).E "__len__" "Edition.__len__" sEdition___len__ := g_meth (x := "Edition") c 35 25
  have DEdition___contains__ : DefM K (Zs K).E "__contains__" "Edition.__contains__" sEdition___contains__ := g_meth (x := "Edition") c 36 26
  have DEdition___and__ : DefM K (Zs K).E "__and__" "Edition.__and__" sEdition___and__ := g_meth (x := "Edition") c 37 27
  have DEdition___or__ : DefM K (Zs K).E "__or__" "Edition.__or__" sEdition___or__ := g_meth (x := "Edition") c 38 28
  have DEdition___sub__ : DefM K (Zs K).E "__sub__" "Edition.__sub__" sEdition___sub__ := g_meth (x := "Edition") c 39 29
  have DEdition___le__ : DefM K (Zs K).E "__le__" "Edition.__le__" sEdition___le__ := g_meth (x := "Edition") c 40 30
  have DEdition_cut_behind : DefM K (Zs K).E "cut_behind" "Edition.cut_behind" sEdition_cut_behind := g_meth (x := "Edition") c 41 31
  have DEdition_count_at : DefM K (Zs K).E "count_at" "Edition.count_at" sEdition_count_at := g_meth (x := "Edition") c 42 32
  have DEdition_kernel : DefM K (Zs K).E "kernel" "Edition.kernel" sEdition_kernel := g_meth (x := "Edition") c 43 33
  obtain ⟨f0, fd, hm, F⟩ := Dlaw
  have e := hfa.symm.trans hm
  cases e
  have b := FunD.bindsA (ps := ["_law_script"]) F fun _ _ _ _ _ _ us hl => match us, hl with | [_], _ => rfl
  refine ⟨fd, fun s v => b s [v] rfl, fun base _ _ => ?_⟩
  have C1 := ok_fresh (P := P) (w := w) (base := base) D_law_fresh
  have C2 := ok_fill (P := P) (w := w) (base := base) B D_law_fill
  have C3 := ok_take B C2 D_law_take
  have C4 := ok_one B C3 D_law_one
  have C5 := ok_all_words (P := P) (w := w) (base := base) D_law_all_words
  have C6 := ok_some_words B C5 C3 D_law_some_words
  have C7 := ok_is_word (P := P) (w := w) (base := base) B W Dis_word
  have C8 := ok_is_row (P := P) (w := w) (base := base) B Dis_row
  have C9 := ok_is_integer (P := P) (w := w) (base := base) B Dis_integer
  have C10 := ok_is_upto C9 Dis_upto
  have C11 := ok_passages B C8 C7 Dchecked_passages
  have C12 := ok_work_init T C7 C11 DWork___init__
  have C13 := ok_work_eq (P := P) (w := w) (base := base) B T DWork___eq__
  have C14 := ok_check C13 Dcheck_works
  have C15 := ok_numbers B T C8 C7 Dnumbers_of
  have C16 := ok_ed_init T C15 DEdition___init__
  have CW : CalC P w K mg base 3 "Work" (Zs K).W ["self", "name", "passages"] (spWorkInit K (Zs K)) := g_cls X G c 21 25 C12
  have CE : CalC P w K mg base 3 "Edition" (Zs K).E ["self", "work", "passages"] (spEdInit K (Zs K)) := g_cls X G c 22 26 C16
  have C17 := ok_edition_of T CE Dedition_of
  have C18 := ok_whole T CE DWork_whole
  have C19 := ok_ed_len (P := P) (w := w) (base := base) B T DEdition___len__
  have C20 := ok_ed_in B T C7 DEdition___contains__
  have C21 := ok_ed_and B T C14 C17 DEdition___and__
  have C22 := ok_ed_sub B T C14 C17 DEdition___sub__
  have C23 := ok_ed_or B T C14 C17 DEdition___or__
  have C24 := ok_ed_le B T C14 DEdition___le__
  have C25 := ok_cut_behind B T C10 DEdition_cut_behind
  have C26 := ok_count_at B T C10 DEdition_count_at
  have C27 := ok_kernel T C25 C26 DEdition_kernel
  have C28 := ok_kept B C3 C4 D_law_kept
  have C29 := ok_base B C6 CW D_law_base
  have C30 := ok_law_edition CE D_law_edition
  have C31 := ok_row B T C27 D_law_row
  have C32 := ok_is_kernel B T C20 D_law_is_kernel
  have C33 := ok_counts B T C19 C25 C26 D_law_counts_right
  exact ok_law B T C1 C3 C4 C29 C28 C30 C31 C32 C33 C23 C21 C22 C24 C18 F
end
end Lf
open PySem PySem.W PySem.Calls PyProof.Rows
theorem PySem.Challenge.cw_leafmarks_k08_whole_kernels_of_joined_ed_holds : PySem.Challenge.rw_leafmarks_k08_whole_kernels_of_joined_ed.Holds := by
  w_on; o_law
  refine HandSHeadRun.head_any (r := OpenLaw.row PySem.Challenge.rw_leafmarks_k08_whole_kernels_of_joined_ed) (q := view (OpenLaw.row PySem.Challenge.rw_leafmarks_k08_whole_kernels_of_joined_ed).prog [34]) (H := Lf.hookY 5) (ob := Lf.ob) (M := 8000) (loose := ["__name__", "LeafError", "BadWord", "BadPassage", "OtherWork", "BadCount", "BadCut", "LETTERS", "LONGEST", "is_integer", "is_word", "is_row", "is_upto", "checked_passages", "Work", "numbers_of", "check_works", "edition_of", "Edition", "_law_fresh", "_law_fill", "_law_take", "_law_one", "_law_all_words", "_law_some_words", "_law_kept", "_law_base", "_law_edition", "_law_row", "_law_is_kernel", "_law_counts_right"]) (d := HandSHeadRun.topDef (OpenLaw.row PySem.Challenge.rw_leafmarks_k08_whole_kernels_of_joined_ed).prog 34) (kwd := []) Lf.ob_eq
    (by kernel_rfl) (fun s => by kernel_rfl) Lf.runY (by kernel_rfl) (by kernel_rfl) (by kernel_rfl) (by rfl) (by first | assumption | decide +kernel) (by decide +kernel) ⟨rfl, rfl, rfl, rfl, rfl, by decide +kernel⟩ ?hw ?hc
  case hw => w_witness2
  case hc =>
    refine L2.walk_ofE (l := PySem.Challenge.rw_leafmarks_k08_whole_kernels_of_joined_ed) (n := 63) (k := 7) (x := "_law_script") (CX := L2.CX0) rfl (by decide) (by kernel_rfl) ⟨rfl, by decide, by decide⟩ ?F (fun _ _ _ _ z => z)
    intro w mg fa h Y G hmg0
    obtain ⟨K, KX, c, y⟩ := Y
    have hmg : mg ("law" : PySem.Str) = some (.ref fa) := by
      have e : (HandSHeadRun.topDef (OpenLaw.row PySem.Challenge.rw_leafmarks_k08_whole_kernels_of_joined_ed).prog 34).name = ("law" : PySem.Str) := by kernel_rfl
      rw [← e]
      exact hmg0
    obtain ⟨fd, hb, hF⟩ := Lf.factsY (P := (PySem.Challenge.rw_leafmarks_k08_whole_kernels_of_joined_ed).prog) (w := w) KX G hmg c y
    exact ⟨K, fd, Lf.spLaw K, KX, hb, fun H a ns hl _ hS => ⟨a, ns, rfl, hS, hl, fun _ => rfl⟩, hF⟩
