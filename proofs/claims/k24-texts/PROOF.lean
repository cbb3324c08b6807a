import PyProof.Rows.All
import Wide.All
import OpenK.AllK
import Wide.FinOn
import KE.GoesMore
import HandS.ForMost
import HandS.Walk
import HandS.IsInst
import HandS.TupAny
import HandS.Defaults
import HandS.Conv
import PySem.Challenge.RW_leafmarks_k24_rule_texts_refused
import HandS.Property
import HandS.Head0
import HandS.Head1
import HandS.Head2
import HandS.HeadEnd
import HandS.HeadHook1
import HandS.HeadHook2
import HandS.HeadHook4
import HandS.HeadWalk
import HandS.Ends
import HandS.ExcInit
import HandS.ExcField
import KE.KExcSuper
import HandS.HeadHook3
import HandS.HeadNt
import HandS.Lambda
import HandS.NoneIn
import KE.KOpsOwn
import HandS.Dict
import HandS.List
import PyProof.SumWalkG
import HandS.Style
import HandS.WordsExc
import HandS.TryOnly
import HandS.ExcOwn
import HandS.Zip
import HandS.TupLe
import HandS.MakeKw
import HandS.More
import PyProof.InstNe
import PyProof.EqKinds
import HandS.DictEq
import PyProof.ReprRoads
import PyProof.ReprLen
import PyProof.StrLawsTight
import PyProof.StrLawsChain
import HandS.Text
import HandS.Star
import HandS.RaiseMore
import PyProof.Rows.StrMul
import PyProof.StrBlock2
import KE.KIntText
import KE.IntTextText
import HandS.ClsMeth
import HandS.CallLocal
import HandS.TupMul
set_option Elab.async false
set_option linter.all false
set_option maxRecDepth 100000
/-! Further rules for the hand layer: enumerate of a tuple, calls of defs by one fact each. -/
namespace Lf
section
set_option maxRecDepth 100000
set_option maxHeartbeats 2000000
open PySem PySem.Spec PyProof.Rows L2

/-! ### enumerate(tuple) -/
theorem meets_enumerate_newT (l : Addr) (items : Array Value) (n : Nat) (dct : Option Addr) (sl : Array (Option Value)) :
    Meets (Builtin.«enumerate.__new__» ⟨[.type "enumerate", .ref l], []⟩) (fun _ R s => s.heap.get? l = some { cls := .type "tuple", dict := dct, data := .seq items n, slots := sl } ∧
      R (.ok (.ret (.ref (s.heap.push { cls := .type "tuple_iterator", data := .fields #[.ref l, .int 0 0] }).objs.size)))
        { s with heap := (s.heap.push { cls := .type "tuple_iterator", data := .fields #[.ref l, .int 0 0] }).push { cls := .type "enumerate", data := .fields #[.none, .bool false, .ref s.heap.objs.size, rawInt 0, .none, .none] } }) :=
  .of_wp fun prog w A R s h => by
    obtain ⟨hp, g, d, tk, os⟩ := s; obtain ⟨hl, h⟩ := h
    have hsub := sub_enumerate
    have hL : Heap.IsTuple (Shared.heap ⟨hp, g, d, tk, os⟩) l items := ⟨_, hl, rfl, n, rfl⟩
    wp_walk using AutoSeq1.wpAny_loadPart' hl
    refine wpAny_stack_any fun st => wpAny_pure ?_
    split
    · rename_i c _ _ _ _ _
      cases (c == Value.type "enumerate")
      · wp_walk using AutoSeq1.wpAny_loadPart' hl, wpAny_pyIter_tuple hL
        exact ⟨_, rfl, h⟩
      · wp_walk using AutoSeq1.wpAny_loadPart' hl, wpAny_pyIter_tuple hL
        exact ⟨_, rfl, h⟩
    · wp_walk using AutoSeq1.wpAny_loadPart' hl, wpAny_pyIter_tuple hL
      exact ⟨_, rfl, h⟩
section
variable {prog : Program} {w : World} {A : Around} {E : Value → Shared → Prop} {s : Shared}
theorem call_enumerate_tuple {l : Addr} {items : Array Value} {Q : Value → Shared → Prop} (hL : s.heap.IsTuple l items)
    (h : ∀ h', IsEnum h' (s.heap.objs.size + 1) s.heap.objs.size 0 .none → h'.IsTupleIter s.heap.objs.size l 0 → h'.objs.size = s.heap.objs.size + 2 →
      (∀ b o, s.heap.get? b = some o → h'.get? b = some o) → Q (.ref (s.heap.objs.size + 1)) { s with heap := h' }) :
    wpAny (model prog w) A (call (.type "enumerate") [.ref l]) Q E s := by
  obtain ⟨⟨c, dct, dt, sl⟩, hl, hc, n, hd⟩ := hL
  replace hc : c = .type "tuple" := hc
  replace hd : dt = .seq items n := hd
  subst hc hd
  refine callType_new F.called_enumerate (by decide) (F.typeCall_enumerate_1 _) (F.newCall_enumerate_1 _) (fun obj => F.args_object_init_2 obj _) F.entry_enumerate_new
    (meets_enumerate_newT l items n dct sl) ⟨hl, ?_⟩
  have hz : (s.heap.push { cls := .type "tuple_iterator", data := .fields #[.ref l, .int 0 0] }).objs.size = s.heap.objs.size + 1 := Heap.size_push ..
  show _ ∧ _
  rw [hz]
  have he : IsEnum ((s.heap.push { cls := .type "tuple_iterator", data := .fields #[.ref l, .int 0 0] }).push
      { cls := .type "enumerate", data := .fields #[.none, .bool false, .ref s.heap.objs.size, rawInt 0, .none, .none] }) (s.heap.objs.size + 1) s.heap.objs.size 0 .none := by
    have := Heap.get?_push_size (s.heap.push { cls := .type "tuple_iterator", data := .fields #[.ref l, .int 0 0] })
      (o := { cls := .type "enumerate", data := .fields #[.none, .bool false, .ref s.heap.objs.size, rawInt 0, .none, .none] }) rfl
    rw [hz] at this; exact this
  refine ⟨⟨_, he, rfl⟩, h _ he ⟨_, Heap.get?_push_of_some _ (Heap.get?_push_size _ rfl), rfl, rfl⟩ (by rw [Heap.size_push, hz]) fun b o x => Heap.get?_push_of_some _ (Heap.get?_push_of_some _ x)⟩
end
def IteT (K : PySem.W.Frag) (a : Addr) : It :=
  ⟨fun i H => ∃ (xs : List V) (x : V), SqT K H a xs ∧ xs[i]? = some x, fun i H v H' => ∃ T x, v = .ref T ∧ H T = none ∧ H' = upd H T (.tup [.int (i : Nat), x]) ∧ ∀ xs, SqT K H a xs → xs[i]? = some x, fun i H => ∃ xs : List V, SqT K H a xs ∧ xs.length ≤ i⟩
theorem turn_enumT {P : Program} {w : World} {K : PySem.W.Frag} {elts : List Expr} {kk : Nat} {tpos : Pos} (a e it : Addr) :
    Turn P w K (.Tuple elts kk tpos) (IteT K a) [e, it] e (fun i h => (∃ old, IsEnum h e it ((i : Nat) : Int) old) ∧ h.IsTupleIter it a i ∧ e ≠ it) where
  mem := by simp
  obj := fun i h st b hb => by
    obtain ⟨⟨old, he⟩, ⟨o, ho, hc, hd⟩, _⟩ := st
    have e' : b = e ∨ b = it := by simpa using hb
    rcases e' with z | z
    · rw [z]; exact ⟨_, he, fun v q => nomatch q⟩
    · rw [z]; exact ⟨o, ho, fun v q => by rw [hd] at q; cases q⟩
  keep := fun i h h' st k => let ⟨⟨old, he⟩, hi, hne⟩ := st; ⟨⟨old, k e (by simp) _ he⟩, hi.at fun o q => k it (by simp) o q, hne⟩
  item := by
    intro X hP hw hK hc i pins s σ H E I hf st hg
    subst hP hw hK
    obtain ⟨⟨old, he⟩, hit, hne⟩ := st
    obtain ⟨xs, x, hq, hx⟩ := hg
    obtain ⟨its, rv, p, hz⟩ := I.tuple hq
    obtain ⟨u, hu, ru⟩ := rv.get hx
    have hel : e < s.heap.objs.size := Heap.lt_size he
    have hil : it < s.heap.objs.size := by obtain ⟨_, q, _⟩ := hit; exact Heap.lt_size q
    have hait : a ≠ it := by
      intro z
      obtain ⟨o1, h1, c1, _⟩ := p
      obtain ⟨o2, h2, c2, _⟩ := hit
      rw [z] at h1
      rw [h1] at h2
      cases h2
      rw [c1] at c2
      exact absurd c2 (by decide)
    have hae : e ≠ a := by
      intro z
      obtain ⟨o1, h1, c1, _⟩ := p
      rw [← z] at h1
      have h2 : s.heap.get? e = _ := he
      rw [h1] at h2
      cases h2
      exact absurd c1 (show ¬ Value.type "enumerate" = Value.type "tuple" by decide)
    have hlt : i < its.toArray.size := by
      have : i < its.length := (List.getElem?_eq_some_iff.mp hu).1
      simpa using this
    have hh : X.A.in1.handled = none := I.ok.hd hc
    refine wpAny_pyNext_enum_itemD (Draws.tuple hh it a hait its.toArray) he ⟨hit, show s.heap.IsTuple a its.toArray from p⟩ hlt hne (by simp [hne, hae]) fun y h' tk hy ho hit' hT hsz hk => ?_
    have ey : y = u := by
      have hu' : its.toArray[i]? = some u := by simpa using hu
      have : some y = some u := hy.symm.trans hu'
      exact Option.some.inj this
    subst ey
    refine ⟨_, rfl, wpAny_letOwnedTupleGo_enum (s := { s with heap := h', toks := tk + 1 }) ho fun h'' he' sb => ?_⟩
    have hT2 : h''.get? s.heap.objs.size = some { cls := .type "tuple", data := .seq #[.int i tk, y] } := (sb.2 _ (Nat.ne_of_gt hel)).trans hT
    have new : ObjOk X.prog X.w (upd H s.heap.objs.size (.tup [.int (i : Nat), x])) h'' s.heap.objs.size (.tup [.int (i : Nat), x]) :=
      ⟨by show 2 ≤ sizeLine; decide, [.int i tk, y], .cons ⟨_, rfl⟩ (.cons ru .nil), ⟨_, hT2, rfl, _, rfl⟩⟩
    have I1 : Inv X pins σ (upd H s.heap.objs.size (.tup [.int (i : Nat), x])) { s with heap := h'', toks := tk + 1 } :=
      I.turnedNew (ch := [e, it]) (fun b ob hb q => (sb.2 b (fun z => hb (by simp [z]))).trans (hk b ob (fun z => hb (by simp [z])) (fun z => hb (by simp [z])) q)) hf (Nat.le_refl _) new
    refine ⟨.ref s.heap.objs.size, _, I1, rfl, ⟨_, x, rfl, I.hok.fresh (Nat.le_refl _), rfl, fun ys hy => by rw [I.tuple_inj hy hq]; exact hx⟩, ⟨⟨y, ?_⟩, hit'.1.at fun o q => (sb.2 it (Ne.symm hne)).trans q, hne⟩, fun b hb => ?_⟩
    · have e1 : ((i + 1 : Nat) : Int) = (i : Int) + 1 := by omega
      rw [e1]; exact he'
    · have hb' : b < s.heap.objs.size := by
        have e' : b = e ∨ b = it := by simpa using hb
        rcases e' with z | z
        · rw [z]; exact hel
        · rw [z]; exact hil
      rw [upd_ne (Nat.ne_of_lt hb')]
      exact (hf b hb).1
  done := by
    intro X hP hw hK hc i pins s σ H E I hf st hg
    subst hP hw hK
    obtain ⟨⟨old, he⟩, hit, hne⟩ := st
    obtain ⟨xs, hq, hx⟩ := hg
    obtain ⟨its, rv, p, hz⟩ := I.tuple hq
    obtain ⟨f0, f1, f2, f3, f4, f5⟩ := hf it (by simp)
    have hl := rv.length
    have hn : its.toArray[i]? = none := by simp; omega
    have hT : s.TypeIs (.ref e) "enumerate" := ⟨_, he, rfl⟩
    unfold pyNext
    refine wpAny_bind (wpAny_attempt (wpAny_callSpecial?_slot (name := Str.ofString "__next__") hT F.slot_enumerate_next
      (wpAny_call_entry F.slot_enumerate_next hT F.entry_enumerate_next ?_ (F.args_enumerate_next_1 _))))
    show wpAny _ _ (field (.ref e) 2 >>= _) _ _ _
    refine wpAny_bind (wpAny_field he rfl (x := .ref it) rfl ?_)
    refine wpAny_bind (wpAny_nextOf_tuple_end (A := X.A.in1) (I.ok.hd hc) hit (show s.heap.IsTuple a its.toArray from p) hn fun h' x he' hx' => ?_)
    obtain ⟨o, ho, hc'⟩ := hx'
    refine wpAny_bind (wpAny_isInstance (T := "StopIteration") (b := true) ⟨o, ho, hc'⟩ isSubtype_stop ?_)
    exact wpAny_pure ⟨rfl, I.turned (t' := s.toks) (fun b o hb q => he' b o hb q) f0 f1 f3 f4 f5⟩
  self := fun A i s Q E st h => let ⟨⟨_, he⟩, _⟩ := st; wpAny_pyIter_enum he h
/-- enumerate of a tuple or of a list -/
def rEnumA (K : PySem.W.Frag) (vs : List V) (H1 : Hp) (R : It → Hp → Prop) : Prop := ∃ a xs, vs = [.ref a] ∧ ((SqL K H1 a xs ∧ R (Ite K a) H1) ∨ (SqT K H1 a xs ∧ R (IteT K a) H1))
def iEnumA (K : PySem.W.Frag) (ta : TA) : TI := fun σ H R => ta σ H fun vs H1 => rEnumA K vs H1 R
theorem pi_enumA {X : Cx} {e : Expr} {ta : TA} {p pos tpos : Pos} {elts : List Expr} {kk : Nat} (hg : Gl X "enumerate") (hm : X.mg "enumerate" = none) (ha : PA X [e] ta) (hs : starEach [e] X.env = [(false, eval e X.env)] := by rfl) :
    PI X (.Tuple elts kk tpos) (.Call (.Name "enumerate" p) [e] [] pos) (iEnumA X.K ta) := by
  refine ⟨fun pins s σ H R I h => ?_⟩
  refine Call_ (ld_blt I hg hm boot_enumerate (PyProof.Rows.callWith_type1 (thn (ha.run pos pins s σ H _ I h) fun us s1 ⟨vs, H1, I1, r1, q1⟩ => ?_) hs rfl))
  obtain ⟨a, xs, ex, hq⟩ := q1
  subst ex
  cases r1 with
  | cons r rr =>
    cases rr
    cases r
    rcases hq with ⟨hq, q⟩ | ⟨hq, q⟩
    · obtain ⟨its, rv, p', hz⟩ := I1.list hq
      refine call_enumerate_list p'.isList fun h' he hit hsz hk => wpAny_pyIter_enum he ?_
      have I2 : Inv X pins σ H1 { s1 with heap := h' } := I1.kept (t' := s1.toks) hk
      refine ⟨s1.heap.objs.size + 1, [s1.heap.objs.size + 1, s1.heap.objs.size], _, _, H1, rfl, I2, turn_enum a (s1.heap.objs.size + 1) s1.heap.objs.size, ⟨⟨.none, he⟩, hit, Nat.succ_ne_self _⟩, fun b hb => ?_, q⟩
      have e' : b = s1.heap.objs.size + 1 ∨ b = s1.heap.objs.size := by simpa using hb
      have hle : s1.heap.objs.size ≤ b := by
        rcases e' with z | z
        · rw [z]; exact Nat.le_add_right _ _
        · rw [z]; exact Nat.le_refl _
      exact I1.fpOk hle (I1.hok.fresh hle)
    · obtain ⟨its, rv, p', hz⟩ := I1.tuple hq
      refine call_enumerate_tuple (show s1.heap.IsTuple a its.toArray from p') fun h' he hit hsz hk => wpAny_pyIter_enum he ?_
      have I2 : Inv X pins σ H1 { s1 with heap := h' } := I1.kept (t' := s1.toks) hk
      refine ⟨s1.heap.objs.size + 1, [s1.heap.objs.size + 1, s1.heap.objs.size], _, _, H1, rfl, I2, turn_enumT a (s1.heap.objs.size + 1) s1.heap.objs.size, ⟨⟨.none, he⟩, hit, Nat.succ_ne_self _⟩, fun b hb => ?_, q⟩
      have e' : b = s1.heap.objs.size + 1 ∨ b = s1.heap.objs.size := by simpa using hb
      have hle : s1.heap.objs.size ≤ b := by
        rcases e' with z | z
        · rw [z]; exact Nat.le_add_right _ _
        · rw [z]; exact Nat.le_refl _
      exact I1.fpOk hle (I1.hok.fresh hle)
theorem walk_enumT {K : PySem.W.Frag} {a : Addr} {xs : List V} : Walk (IteT K a) xs.length (fun H => SqT K H a xs) (YPair (fun i => some (.int (i : Nat))) (fun i => xs[i]?)) := by
  refine ⟨fun i _ hi q => ⟨xs, xs[i], q, by simp [hi]⟩, fun _ q => ⟨xs, q, Nat.le_refl _⟩, fun i H v H' _ q y => ?_⟩
  obtain ⟨T, x, h1, h2, h3, h4⟩ := y
  exact ⟨T, .int (i : Nat), x, h1, h2, h3, rfl, h4 xs q⟩

/-! ### a sequence: a list or a tuple -/
def SqA (K : PySem.W.Frag) (H : Hp) (a : Addr) (xs : List V) : Prop := SqL K H a xs ∨ SqT K H a xs
/-- what is walked, by its value -/
def rItL (K : PySem.W.Frag) (x : V) (H : Hp) (R : It → Hp → Prop) : Prop := ∃ a, x = .ref a ∧ (∃ xs, SqL K H a xs) ∧ R (Itl K a) H
def rItT (K : PySem.W.Frag) (x : V) (H : Hp) (R : It → Hp → Prop) : Prop := ∃ a, x = .ref a ∧ (∃ xs, SqT K H a xs) ∧ R (Itt K a) H
def rItS (x : V) (H : Hp) (R : It → Hp → Prop) : Prop := ∃ z, x = .str z ∧ R (Its z) H
def rItA (K : PySem.W.Frag) (x : V) (H : Hp) (R : It → Hp → Prop) : Prop := ∃ a xs, x = .ref a ∧ ((SqL K H a xs ∧ R (Itl K a) H) ∨ (SqT K H a xs ∧ R (Itt K a) H))
def rRg1 (vs : List V) (H : Hp) (R : It → Hp → Prop) : Prop := ∃ j : Int, vs = [.int j] ∧ -(2 ^ 62) ≤ j ∧ j < 2 ^ 62 ∧ R (Itr 0 j.toNat) H
def rRg2 (vs : List V) (H : Hp) (R : It → Hp → Prop) : Prop := ∃ i j : Int, vs = [.int i, .int j] ∧ (-(2 ^ 62) ≤ i ∧ i < 2 ^ 62 ∧ -(2 ^ 62) ≤ j ∧ j < 2 ^ 62) ∧ R (Itr i (j - i).toNat) H
def rZipL (K : PySem.W.Frag) (vs : List V) (H : Hp) (R : It → Hp → Prop) : Prop := ∃ a b xs ys, vs = [.ref a, .ref b] ∧ SqL K H a xs ∧ SqL K H b ys ∧ R (Itz K a b) H
def iE (r : V → Hp → (It → Hp → Prop) → Prop) (tl : TE) : TI := fun σ H R => tl σ H fun x H1 => r x H1 R
def iA (r : List V → Hp → (It → Hp → Prop) → Prop) (ta : TA) : TI := fun σ H R => ta σ H fun vs H1 => r vs H1 R
theorem p_seq {X : Cx} {tg l : Expr} {tl : TE} (hl : PE X l tl) : PI X tg l (iE (rItA X.K) tl) := by
  refine ⟨fun pins s σ H R I h => ?_⟩
  refine thn (hl.run pins s σ H _ I h) fun v s1 ⟨x, H1, I1, r1, q1⟩ => ?_
  obtain ⟨a, xs, e, q1⟩ := q1
  subst e
  cases r1
  rcases q1 with ⟨hq, q⟩ | ⟨hq, q⟩
  · obtain ⟨its, rv, p, hz⟩ := I1.list hq
    refine wpAny_pyIter_list p.isList ?_
    refine ⟨s1.heap.objs.size, [s1.heap.objs.size], _, _, H1, rfl, I1.kept (t' := s1.toks) fun b o e => Heap.get?_push_of_some _ e, turn_list a _, ⟨_, Heap.get?_push_size _ rfl, rfl, rfl⟩, fun b hb => ?_, q⟩
    have e : b = s1.heap.objs.size := by simpa using hb
    subst e
    exact I1.fpOk (Nat.le_refl _) (I1.hok.fresh (Nat.le_refl _))
  · obtain ⟨its, rv, p, hz⟩ := I1.tuple hq
    refine wpAny_pyIter_tuple (show s1.heap.IsTuple a its.toArray from p) ?_
    refine ⟨s1.heap.objs.size, [s1.heap.objs.size], _, _, H1, rfl, I1.kept (t' := s1.toks) fun b o e => Heap.get?_push_of_some _ e, turn_tuple a _, ⟨_, Heap.get?_push_size _ rfl, rfl, rfl⟩, fun b hb => ?_, q⟩
    have e : b = s1.heap.objs.size := by simpa using hb
    subst e
    exact I1.fpOk (Nat.le_refl _) (I1.hok.fresh (Nat.le_refl _))
theorem p_str {X : Cx} {tg l : Expr} {tl : TE} (hl : PE X l tl) : PI X tg l (iE rItS tl) := pi_str hl
theorem p_range1 {X : Cx} {tg a : Expr} {ta : TA} {p pos : Pos} (hm : X.mg "range" = none) (ha : PA X [a] ta) (hg : Gl X "range" := by rfl) (hs : starEach [a] X.env = [(false, eval a X.env)] := by rfl) : PI X tg (.Call (.Name "range" p) [a] [] pos) (iA rRg1 ta) := pi_range1 hg hm ha hs
theorem p_enum {X : Cx} {e : Expr} {ta : TA} {p pos tpos : Pos} {elts : List Expr} {kk : Nat} (hm : X.mg "enumerate" = none) (ha : PA X [e] ta) (hg : Gl X "enumerate" := by rfl) (hs : starEach [e] X.env = [(false, eval e X.env)] := by rfl) :
    PI X (.Tuple elts kk tpos) (.Call (.Name "enumerate" p) [e] [] pos) (iA (rEnumA X.K) ta) := pi_enumA hg hm ha hs
/-! ### the built-in names that the module leaves alone -/
structure Bn (mg : Str → Option Value) : Prop where
  len : mg "len" = none
  range : mg "range" = none
  enumerate : mg "enumerate" = none
  zip : mg "zip" = none
  isinstance : mg "isinstance" = none
  int : mg "int" = none
  str : mg "str" = none
  bool : mg "bool" = none
  list : mg "list" = none
  tuple : mg "tuple" = none
  all : mg "all" = none
  any : mg "any" = none
  max : mg "max" = none
  min : mg "min" = none
  sum : mg "sum" = none

/-! ### defs and their promises, by one fact each -/
/-- the module's name x stands for the def st -/
def Def (K : PySem.W.Frag) (mg : Str → Option Value) (x : Str) (st : Stmt) : Prop :=
  ∃ (f : Addr) (fd : FuncData), mg x = some (.ref f) ∧ FunD K x x (defArgs st) (defBody st) (defScope st) [] [] f fd
/-- the class at C has the def st as its method m -/
def DefM (K : PySem.W.Frag) (C : Addr) (m q : Str) (st : Stmt) : Prop :=
  ∃ (f : Addr) (fd : FuncData), Meth K C m f ∧ FunD K m q (defArgs st) (defBody st) (defScope st) [] [] f fd
section
variable (P : Program) (w : World) (K : PySem.W.Frag) (mg : Str → Option Value) (base : Heap)
/-- the def x keeps sp -/
def Cal (k : Nat) (x : Str) (ps : List Str) (sp : Sp) : Prop :=
  ∃ (f : Addr) (fd : FuncData), mg x = some (.ref f) ∧ PySem.W.keepIn K (.ref f) = true ∧ Binds K fd ps [] ∧ FnOk P w K mg base CX0 k f fd ps sp
/-- the method m of the class at C keeps sp -/
def CalM (k : Nat) (C : Addr) (m : Str) (ps : List Str) (sp : Sp) : Prop :=
  ∃ (f : Addr) (fd : FuncData), Meth K C m f ∧ Binds K fd ps [] ∧ FnOk P w K mg base CX0 k f fd ps sp
/-- the class x at C is made, its __init__ keeps sp -/
def CalC (k : Nat) (x : Str) (C : Addr) (ps : List Str) (sp : Sp) : Prop :=
  mg x = some (.ref C) ∧ PySem.W.makesIn K C = true ∧ PySem.W.keepIn K (.ref C) = true ∧ CalM P w K mg base k C "__init__" ps sp
end
/-- the context of a def's body that lets nothing out -/
abbrev cxR (P : Program) (w : World) (K : PySem.W.Frag) (mg : Str → Option Value) (base : Heap) (N : List Str) (qual : Str) (scope : Scope) (f : Addr) (cd : Value) (A : Around) (outer : List Env) (s : Shared) (H : Hp) : Cx where
  prog := P
  w := w
  K := K
  mg := mg
  base := base
  A := A.deeper (envOfC qual scope s.heap.objs.size f cd)
  N := N
  s_0 := s
  H_0 := H
  env := envOfC qual scope s.heap.objs.size f cd
  outer := outer
  stack := envOfC qual scope s.heap.objs.size f cd :: outer
  ex := []
  calm := true
  fn := fun _ => true
  pn := []
  xe := fun _ _ => False
section
variable {P : Program} {w : World} {K : PySem.W.Frag} {mg : Str → Option Value} {base : Heap}
theorem Cal.of {x : Str} {st : Stmt} {N ps : List Str} {k : Nat} {sp : Sp} (D : Def K mg x st) (S : FnScope N ps (defScope st))
    (hb : ∀ (kV doc pm : Value) (an : Option Addr) (cdv ct : Value) (us : List Value), us.length = ps.length → bindArgs (PySem.W.fnOf x x (defArgs st) (defBody st) (defScope st) .none kV doc pm an cdv ct) ⟨us, []⟩ = pure (ps.zip us))
    (len : ∀ vs H Q E, sp vs H Q E → vs.length = ps.length)
    (hbody : ∀ (f : Addr) (cdv : Value) (A : Around) (outer : List Env) (s : Shared) (H : Hp) (vs : List V) (Q : VK) (E : XK), Room k (A.deeper (envOfC x (defScope st) s.heap.objs.size f cdv)) → sp vs H Q E →
      ∃ t, PSs (cxR P w K mg base N x (defScope st) f cdv A outer s H) (defBody st) t ∧ t { nx := fun _ H' => Q .non H', rt := Q } (start N vs) H) : Cal P w K mg base (k + 1) x ps sp := by
  obtain ⟨f, fd, hm, F⟩ := D
  refine ⟨f, fd, hm, F.kp, F.bindsN hb, F.ok S len fun cdv A outer s H vs Q E hr h => ?_⟩
  obtain ⟨t, h1, h2⟩ := hbody f cdv A outer s H vs Q E hr h
  exact ⟨t, PSs.nox h1, h2⟩
theorem CalM.of {C : Addr} {m q : Str} {st : Stmt} {N ps : List Str} {k : Nat} {sp : Sp} (D : DefM K C m q st) (S : FnScope N ps (defScope st))
    (hb : ∀ (kV doc pm : Value) (an : Option Addr) (cdv ct : Value) (us : List Value), us.length = ps.length → bindArgs (PySem.W.fnOf m q (defArgs st) (defBody st) (defScope st) .none kV doc pm an cdv ct) ⟨us, []⟩ = pure (ps.zip us))
    (len : ∀ vs H Q E, sp vs H Q E → vs.length = ps.length)
    (hbody : ∀ (f : Addr) (cdv : Value) (A : Around) (outer : List Env) (s : Shared) (H : Hp) (vs : List V) (Q : VK) (E : XK), Room k (A.deeper (envOfC q (defScope st) s.heap.objs.size f cdv)) → sp vs H Q E →
      ∃ t, PSs (cxR P w K mg base N q (defScope st) f cdv A outer s H) (defBody st) t ∧ t { nx := fun _ H' => Q .non H', rt := Q } (start N vs) H) : CalM P w K mg base (k + 1) C m ps sp := by
  obtain ⟨f, fd, hm, F⟩ := D
  refine ⟨f, fd, hm, F.bindsN hb, F.ok S len fun cdv A outer s H vs Q E hr h => ?_⟩
  obtain ⟨t, h1, h2⟩ := hbody f cdv A outer s H vs Q E hr h
  exact ⟨t, PSs.nox h1, h2⟩
theorem Cal.imp {x : Str} {ps : List Str} {j k : Nat} {sp sp' : Sp} (C : Cal P w K mg base j x ps sp) (hk : j ≤ k) (h : ∀ vs H Q E, sp' vs H Q E → sp vs H Q E) : Cal P w K mg base k x ps sp' := by
  obtain ⟨f, fd, a, b, c, d⟩ := C
  exact ⟨f, fd, a, b, c, (d.mono hk).imp h⟩
end
section
variable {X : Cx} {k j : Nat} {ps : List Str} {sp : Sp} {x m : Str} {C : Addr} {p pos apos : Pos} {e o : Expr} {es : List Expr} {ta : TE} {t : TA}
theorem pe_fn (c : Cal X.prog X.w X.K X.mg X.base k x ps sp) (hr : Room j X.A) (hk : k ≤ j) (ha : PA X (e :: es) t) (hg : Gl X x := by rfl)
    (hdb : (x == ("__debug__" : Str)) = false := by decide) (he : starEach (e :: es) X.env = (false, eval e X.env) :: starEach es X.env := by rfl) (hpl : (backTo pos (starEach es X.env)).any (·.1) = false := by rfl) :
    PE X (.Call (.Name x p) (e :: es) [] pos) (tCall sp [] E0 t) := by
  obtain ⟨f, fd, h1, h2, h3, h4⟩ := c
  exact pe_call h4 (hr.mono hk) hg h1 h2 h3 .nil pass0 ha hdb he hpl
theorem pe_fn0 (c : Cal X.prog X.w X.K X.mg X.base k x ps sp) (hr : Room j X.A) (hk : k ≤ j) (hg : Gl X x := by rfl)
    (hdb : (x == ("__debug__" : Str)) = false := by decide) : PE X (.Call (.Name x p) [] [] pos) (tCall sp [] E0 tNil) := by
  obtain ⟨f, fd, h1, h2, h3, h4⟩ := c
  exact pe_call0 h4 (hr.mono hk) hg h1 h2 h3 .nil pass0 hdb
theorem pe_mt0 {pl : Sem Bool} (hx : PE X o ta) (cl : Cls X.K C) (c : CalM X.prog X.w X.K X.mg X.base k C m ps sp) (hr : Room j X.A) (hk : k ≤ j)
    (ht : eval (.Call (.Attribute o m apos) [] [] pos) X.env = (do
      let ov ← eval o X.env
      standAt apos.atName
      let (f, first) ← holding [ov] (getMethod ov m pl)
      callWith pos f first (backTo pos (starEach [] X.env)) (backToKw pos (keywordEach [] X.env))) := by rfl) :
    PE X (.Call (.Attribute o m apos) [] [] pos) (tMeth C m sp [] E0 ta tNil) := by
  obtain ⟨f, fd, h1, h2, h3⟩ := c
  exact pe_meth0 hx cl h1 h3 (hr.mono hk) h2 .nil pass0 ht
end
/-! ### a test or a value told at once -/
def tAns (t : TT) : TT := fun σ H Q => ∃ b, (∀ Q' : Bool → Hp → Prop, Q' b H → t σ H Q') ∧ Q b H
theorem pt_ans {X : Cx} {e : Expr} {t : TT} (h : PT X e t) : PT X e (tAns t) := ⟨fun pins s σ H Q I hq => by
  obtain ⟨b, h1, h2⟩ := hq
  exact h.run pins s σ H Q I (h1 Q h2)⟩
/-! ### what stands between two statements, said -/
def tMid (t u : TS) : TS := fun D σ H => ∃ Mid : L2.St → Hp → Prop, t { D with nx := Mid } σ H ∧ ∀ σ' H', Mid σ' H' → u D σ' H'
theorem pss_cutL {X : Cx} {st : Stmt} {rest : List Stmt} {t u : TS} (h1 : PS X st t) (h2 : PSs X rest u) : PSs X (st :: rest) (tMid t u) := by
  refine ⟨fun pins s σ H D I h => ?_⟩
  obtain ⟨M, h3, h4⟩ := h
  exact (pss_cons (t := fun D' σ' H' => t { D' with nx := M } σ' H' ∧ ∀ σ'' H'', M σ'' H'' → D'.nx σ'' H'') (u := u)
    ⟨fun pins s σ H D I h => wpAny_mono (h1.run pins s σ H _ I h.1) (fun f s' q => by
      cases f with
      | next => obtain ⟨σ', H', I', q'⟩ := q; exact ⟨σ', H', I', h.2 _ _ q'⟩
      | _ => exact q) fun _ _ e => e⟩ h2).run pins s σ H D I ⟨h3, h4⟩
/-! ### heaps -/
/-- all but what stands at st is as it was -/
def Fr (st : Addr) (H H' : Hp) : Prop := ∀ b o, b ≠ st → H b = some o → H' b = some o
theorem Fr.refl {st : Addr} {H : Hp} : Fr st H H := fun _ _ _ h => h
theorem Fr.trans {st : Addr} {H H1 H2 : Hp} (a : Fr st H H1) (b : Fr st H1 H2) : Fr st H H2 := fun c o n h => b c o n (a c o n h)
theorem Fr.same {st : Addr} {H H1 H2 : Hp} (a : Fr st H H1) (b : Same H1 H2) : Fr st H H2 := fun c o n h => b c o (a c o n h)
theorem Fr.new {st p : Addr} {H H1 : Hp} {u : HO} (a : Fr st H H1) (np : H1 p = none) : Fr st H (upd H1 p u) := fun c o n h => by
  have q := a c o n h
  rw [upd_ne (ne_of_none q np)]; exact q
theorem Fr.at {st : Addr} {H H1 : Hp} {u : HO} (a : Fr st H H1) : Fr st H (upd H1 st u) := fun c o n h => by
  rw [upd_ne n]; exact a c o n h
theorem Fr.mut {st p : Addr} {H H1 : Hp} {u : HO} (a : Fr st H H1) (np : H p = none) : Fr st H (upd H1 p u) := fun c o n h => by
  rw [upd_ne (ne_of_none h np)]; exact a c o n h
theorem Same.fr {st : Addr} {H H1 : Hp} (a : Same H H1) : Fr st H H1 := fun c o _ h => a c o h
theorem Same.new {p : Addr} {H H1 : Hp} {u : HO} (a : Same H H1) (np : H1 p = none) : Same H (upd H1 p u) := fun c o h => by
  have q := a c o h
  rw [upd_ne (ne_of_none q np)]; exact q
theorem Same.mut {p : Addr} {H H1 : Hp} {u : HO} (a : Same H H1) (np : H p = none) : Same H (upd H1 p u) := fun c o h => by
  rw [upd_ne (ne_of_none h np)]; exact a c o h
theorem upd_new {H : Hp} {p q : Addr} {o u : HO} (h : H q = some o) (n : H p = none) : upd H p u q = some o := by rw [upd_ne (ne_of_none h n)]; exact h
theorem upd_old {H : Hp} {p q : Addr} {o u : HO} (h : H q = some o) (n : q ≠ p) : upd H p u q = some o := by rw [upd_ne n]; exact h
theorem Same.none {H H' : Hp} {p : Addr} (s : Same H H') (n : H' p = none) : H p = none := s.free n
theorem new_none {H : Hp} {p q : Addr} {u : HO} (n : upd H p u q = none) : H q = none := by
  by_cases e : q = p
  · subst e; rw [upd_same] at n; cases n
  · rw [upd_ne e] at n; exact n
theorem sm_get {H H' : Hp} {q : Addr} {o : HO} (s : Same H H') (h : H q = some o) : H' q = some o := s _ _ h
theorem fr_get {st : Addr} {H H' : Hp} {q : Addr} {o : HO} (s : Fr st H H') (h : H q = some o) (n : q ≠ st) : H' q = some o := s _ _ n h
theorem sl_of {K : PySem.W.Frag} {H : Hp} {p : Addr} {xs : List V} (h : H p = some (.lst xs)) : SqL K H p xs := .inl (.inl h)
theorem st_of {K : PySem.W.Frag} {H : Hp} {p : Addr} {xs : List V} (h : H p = some (.tup xs)) : SqT K H p xs := .inl (.inl h)
theorem rd_new {H : Hp} {p q : Addr} {u o : HO} (h : Rd H q u) (n : H p = none) : Rd (upd H p o) q u := by
  rcases h with h | ⟨b, h⟩
  · exact .inl (upd_new h n)
  · exact .inr ⟨b, upd_new h n⟩
theorem rd_sm {H H' : Hp} {q : Addr} {u : HO} (s : Same H H') (h : Rd H q u) : Rd H' q u := by
  rcases h with h | ⟨b, h⟩
  · exact .inl (s _ _ h)
  · exact .inr ⟨b, s _ _ h⟩
theorem sl_new {K : PySem.W.Frag} {H : Hp} {p q : Addr} {o : HO} {xs : List V} (h : SqL K H q xs) (n : H p = none) : SqL K (upd H p o) q xs := h.imp (fun h => rd_new h n) id
theorem st_new {K : PySem.W.Frag} {H : Hp} {p q : Addr} {o : HO} {xs : List V} (h : SqT K H q xs) (n : H p = none) : SqT K (upd H p o) q xs := h.imp (fun h => rd_new h n) id
theorem sl_sm {K : PySem.W.Frag} {H H' : Hp} {q : Addr} {xs : List V} (s : Same H H') (h : SqL K H q xs) : SqL K H' q xs := h.imp (fun h => rd_sm s h) id
theorem st_sm {K : PySem.W.Frag} {H H' : Hp} {q : Addr} {xs : List V} (s : Same H H') (h : SqT K H q xs) : SqT K H' q xs := h.imp (fun h => rd_sm s h) id
theorem rd_fr {st : Addr} {H H' : Hp} {q : Addr} {u : HO} (s : Fr st H H') (n : q ≠ st) (h : Rd H q u) : Rd H' q u := by
  rcases h with h | ⟨b, h⟩
  · exact .inl (s _ _ n h)
  · exact .inr ⟨b, s _ _ n h⟩
theorem sl_fr {K : PySem.W.Frag} {st : Addr} {H H' : Hp} {q : Addr} {xs : List V} (s : Fr st H H') (n : q ≠ st) (h : SqL K H q xs) : SqL K H' q xs := h.imp (fun h => rd_fr s n h) id
theorem st_fr {K : PySem.W.Frag} {st : Addr} {H H' : Hp} {q : Addr} {xs : List V} (s : Fr st H H') (n : q ≠ st) (h : SqT K H q xs) : SqT K H' q xs := h.imp (fun h => rd_fr s n h) id
theorem sa_fr {K : PySem.W.Frag} {st : Addr} {H H' : Hp} {q : Addr} {xs : List V} (s : Fr st H H') (n : q ≠ st) (h : SqA K H q xs) : SqA K H' q xs := h.imp (fun h => sl_fr s n h) (fun h => st_fr s n h)
theorem sa_new {K : PySem.W.Frag} {H : Hp} {p q : Addr} {o : HO} {xs : List V} (h : SqA K H q xs) (n : H p = none) : SqA K (upd H p o) q xs := h.imp (fun h => sl_new h n) (fun h => st_new h n)
theorem sa_sm {K : PySem.W.Frag} {H H' : Hp} {q : Addr} {xs : List V} (s : Same H H') (h : SqA K H q xs) : SqA K H' q xs := h.imp (fun h => sl_sm s h) (fun h => st_sm s h)
theorem sa_l {K : PySem.W.Frag} {H : Hp} {q : Addr} {xs : List V} (h : H q = some (.lst xs)) : SqA K H q xs := .inl (sl_of h)
theorem sa_t {K : PySem.W.Frag} {H : Hp} {q : Addr} {xs : List V} (h : H q = some (.tup xs)) : SqA K H q xs := .inr (st_of h)
theorem ty_sm {K : PySem.W.Frag} {H H' : Hp} {v : V} {t : Value} (s : Same H H') (h : TyX K H v t) : TyX K H' v t := by
  cases h with
  | base b =>
    refine .base ?_
    cases b with
    | non => exact .non
    | bl x => exact .bl x
    | int i => exact .int i
    | str x => exact .str x
    | flt x => exact .flt x
    | lst e => exact .lst (s _ _ e)
    | frz e => exact .frz (s _ _ e)
    | tup e => exact .tup (s _ _ e)
    | dK e => exact .dK (s _ _ e)
    | dT e => exact .dT (s _ _ e)
    | ins e cl ha hn htk hm => exact .ins (s _ _ e) cl ha hn htk hm
  | byt b => exact .byt b
  | set e => exact .set (s _ _ e)
  | kList e c => exact .kList e c
  | kTuple e c => exact .kTuple e c
  | kDict e c => exact .kDict e c
  | fTuple e => exact .fTuple (s _ _ e)
  | fDict e => exact .fDict (s _ _ e)
theorem ty_new {K : PySem.W.Frag} {H : Hp} {v : V} {t : Value} {p : Addr} {o : HO} (h : TyX K H v t) (np : H p = none) : TyX K (upd H p o) v t := ty_sm (fun _ _ e => upd_new e np) h
/-- a heap of one object -/
theorem rd_one {H : Hp} {p : Addr} {o u : HO} (h : H p = some o) (r : Rd (fun b => if b = p then some o else none) p u) : Rd H p u := by
  rcases r with r | ⟨b, r⟩
  · have r' : some o = some u := by simpa using r
    cases r'
    exact .inl h
  · have r' : some o = some (.frz b u) := by simpa using r
    cases r'
    exact .inr ⟨b, h⟩
end
/-! Readings step by step: one lemma a shape, by the head of the goal. -/
section
set_option maxRecDepth 100000
set_option maxHeartbeats 2000000
open PySem L2

/-! ### readings under names -/
def rLen (K : PySem.W.Frag) : List V → Hp → VK → Prop := fun xs H Q => ∃ x n, xs = [x] ∧ LenV K x H n ∧ Q (.int (n : Nat)) H
theorem c_len {X : Cx} : CallR X (.builtin "len") (rLen X.K) := call_len
def rInt1 : List V → Hp → VK → Prop := fun xs H Q => (∃ i, xs = [.int i] ∧ Q (.int i) H) ∨ ∃ k, xs = [.bl k] ∧ Q (.int (if k then 1 else 0)) H
theorem c_int {X : Cx} : CallR X (.type "int") rInt1 := call_int1
def rListOf (K : PySem.W.Frag) : List V → Hp → VK → Prop := fun xs H Q => ∃ p ys, xs = [.ref p] ∧ (SqL K H p ys ∨ SqT K H p ys) ∧ ∀ l, H l = none → Q (.ref l) (upd H l (.lst ys))
theorem c_list {X : Cx} : CallR X (.type "list") (rListOf X.K) := call_list_of
def rTupOf (K : PySem.W.Frag) : List V → Hp → VK → Prop := fun xs H Q => ∃ p ys, xs = [.ref p] ∧ ((SqL K H p ys ∧ ∀ l, H l = none → Q (.ref l) (upd H l (.tup ys))) ∨ (SqT K H p ys ∧ Q (.ref p) H))
theorem c_tuple {X : Cx} : CallR X (.type "tuple") (rTupOf X.K) := call_tuple_of
def rAddS2 : R2 := fun x y H Q => ∃ i j, x = .str i ∧ y = .str j ∧ i.length + j.length ≤ sizeLine ∧ Q (.str (i ++ j)) H
theorem o_adds {X : Cx} : OpR X (binaryOp .Add) rAddS2 := op_add_str
def rInSign : R2 := fun x y H Q => ∃ (c : Nat) (z : Str), x = .str ⟨#[c]⟩ ∧ y = .str z ∧ Q (.bl (decide (c ∈ z.cps.toList))) H
theorem o_insign {X : Cx} : OpR X (compareOp .In) rInSign := op_in_sign

/-! ### the rules with the written part named (so that a reading does not hang on its context) -/
section
variable {X : Cx} (K : PySem.W.Frag)
theorem x_list (h : X.K = K := by rfl) : IxR X (rIxL K) := h ▸ ix_list
theorem x_tup (h : X.K = K := by rfl) : IxR X (rIxT K) := h ▸ ix_tup
theorem x_seq (h : X.K = K := by rfl) : IxR X (rIx K) := h ▸ ix_seq
theorem y_list (h : X.K = K := by rfl) : SlR X (rSlL K) := h ▸ sl_list
theorem y_tup (h : X.K = K := by rfl) : SlR X (rSlA K) := h ▸ sl_tupA
theorem n_len (h : X.K = K := by rfl) : CallR X (.builtin "len") (rLen K) := h ▸ c_len
theorem n_list (h : X.K = K := by rfl) : CallR X (.type "list") (rListOf K) := h ▸ c_list
theorem n_tuple (h : X.K = K := by rfl) : CallR X (.type "tuple") (rTupOf K) := h ▸ c_tuple
theorem n_all (hc : X.calm = true) (h : X.K = K := by rfl) : CallR X (.builtin "all") (rAll K) := h ▸ cr_all hc
theorem n_isi (h : X.K = K := by rfl) : CallR X (.builtin "isinstance") (rIsi K) := h ▸ call_isi
theorem n_isiT (h : X.K = K := by rfl) : CallR X (.builtin "isinstance") (rIsiT K) := h ▸ call_isiT
theorem o_inq (h : X.K = K := by rfl) : OpR X (compareOp .In) (rIn K false) := h ▸ op_in_seq
theorem o_ninq (h : X.K = K := by rfl) : OpR X (compareOp .NotIn) (rIn K true) := h ▸ op_notIn_seq
theorem o_eqD (hu : X.A.units + 64 < cLine) (h : X.K = K := by rfl) : OpR X (compareOp .Eq) (rEqD K) := h ▸ op_eqD hu
theorem o_neD (hu : X.A.units + 64 < cLine) (h : X.K = K := by rfl) : OpR X (compareOp .NotEq) (rNeD K) := h ▸ op_neD hu
theorem q_seq {tg l : Expr} {tl : TE} (hl : PE X l tl) (h : X.K = K := by rfl) : PI X tg l (iE (rItA K) tl) := h ▸ p_seq hl
theorem q_enum {e : Expr} {ta : TA} {p pos tpos : Pos} {elts : List Expr} {kk : Nat} (hm : X.mg "enumerate" = none) (ha : PA X [e] ta) (hg : Gl X "enumerate" := by rfl) (hs : starEach [e] X.env = [(false, eval e X.env)] := by rfl) (h : X.K = K := by rfl) :
    PI X (.Tuple elts kk tpos) (.Call (.Name "enumerate" p) [e] [] pos) (iA (rEnumA K) ta) := h ▸ p_enum hm ha hg hs
theorem e_fld {e : Expr} {f : Str} {ta : TE} {pos : Pos} (he : PE X e ta) (hb : attributeBase e f X.env (eval e X.env) = eval e X.env := by rfl) (h : X.K = K := by rfl) : PE X (.Attribute e f pos) (tFld K ta f) := h ▸ pe_fld he hb
theorem e_bm {o e : Expr} {es : List Expr} {to : TE} {t : TA} {name : Str} {apos cpos : Pos} {T id : String} {r : V → List V → Hp → VK → Prop} (pa : PlainAttrs T) (slot : Slot T name id) (hty : typeOf (.builtin id) = pure (.type "method_descriptor")) (hm : MtR X id r) (ho : PE X o to) (ha : PA X (e :: es) t)
    (hbase : attributeBase o name X.env (eval o X.env) = eval o X.env := by rfl)
    (hfew : ((backTo cpos (starEach (e :: es) X.env)).all (fun x => !x.1) && (backToKw cpos (keywordEach [] X.env)).all (fun x => x.1.isSome)
      && decide ((e :: es).length + ([] : List Keyword).length + (if ([] : List Keyword).isEmpty then 0 else 1) < 30)) = true := by rfl)
    (hline : (apos.endLine == cpos.line) = true := by rfl) (hs : starEach (e :: es) X.env = (false, eval e X.env) :: starEach es X.env := by rfl) (hplain : (backTo cpos (starEach es X.env)).any (·.1) = false := by rfl) (h : X.K = K := by rfl) :
    PE X (.Call (.Attribute o name apos) (e :: es) [] cpos) (tBM K T r to t) := h ▸ pe_bm pa slot hty hm ho ha hbase hfew hline hs hplain
theorem t_fld {o value : Expr} {f : Str} {ta tv : TE} {pos pos' : Pos} (ha : PE X o ta) (hv : PE X value tv) (hs : swapsWith value (some (.Attribute o f pos')) pos.line X.env = pure false := by rfl) (h : X.K = K := by rfl) : PS X (.Assign [.Attribute o f pos'] value pos) (sFld K ta tv f) := h ▸ ps_fld ha hv hs
end
def rRgt (x : V) (H1 : Hp) (Q : Int → Int → Hp → Prop) : Prop := ∃ n, x = .int n ∧ Q 0 n H1
/-! ### loops under names -/
def ForB (g : TG) (tb : TS) (D : Ends) (σ : L2.St) : It → Hp → Prop := fun J H1 => ∃ W : Nat → Nat → L2.St → Hp → Prop, (∃ m, W 0 m σ H1) ∧ ∀ i m σ H, W i m σ H →
    (J.stop i H ∧ D.nx σ H) ∨ (J.go i H ∧ ∃ N : L2.St → Hp → Prop, (∀ σ' H', N σ' H' → ∃ m', m' < m ∧ W (i + 1) m' σ' H') ∧ ∀ x H', J.yld i H x H' → g x σ H' fun σ2 H2 => tb { D with nx := N, ct := N, bk := D.nx } σ2 H2)
def LcB (g : TG) (tt : TT) (te : TE) (vs : List Nat) (σ : L2.St) (Q : VK) : It → Hp → Prop := fun J H1 => ∀ D, H1 D = none → ∃ W : Nat → Nat → Hp → Prop, (∃ m, W 0 m (upd H1 D (.lst []))) ∧ ∀ i m H, W i m H →
    (J.stop i H ∧ Q (.ref D) H) ∨ (J.go i H ∧ ∃ Nx : Hp → Prop, (∀ H', Nx H' → ∃ m', m' < m ∧ W (i + 1) m' H') ∧ ∀ x H', J.yld i H x H' → g x (wipe σ vs) H' fun σ2 H2 => wipe σ2 vs = wipe σ vs ∧ tt σ2 H2 fun b H3 =>
    if b = true then te σ2 H3 fun y H4 => ∃ acc, H4 D = some (.lst acc) ∧ acc.length < sizeLine ∧ Nx (upd H4 D (.lst (acc ++ [y]))) else Nx H3)
theorem for_w {J : It} {n : Nat} {G : Hp → Prop} {Y : Nat → Hp → V → Hp → Prop} (w : Walk J n G Y) {g : TG} {tb : TS} {D : Ends} {σ : L2.St} {H : Hp} (Pv : Nat → L2.St → Hp → Prop) (h0 : Pv 0 σ H) (hG : ∀ i σ H, i ≤ n → Pv i σ H → G H)
    (hs : ∀ i x σ H H', i < n → Pv i σ H → Y i H x H' → g x σ H' fun σ2 H2 => tb { D with nx := Pv (i + 1), ct := Pv (i + 1), bk := D.nx } σ2 H2) (hd : ∀ σ H, Pv n σ H → D.nx σ H) : ForB g tb D σ J H := for_it w Pv h0 hG hs hd
theorem lc_w {J : It} {n : Nat} {G : Hp → Prop} {Y : Nat → Hp → V → Hp → Prop} (w : Walk J n G Y) {g : TG} {tt : TT} {te : TE} {vs : List Nat} {σ : L2.St} {H1 : Hp} {Q : VK} (Pv : Addr → Nat → Hp → Prop) (h0 : ∀ D, H1 D = none → Pv D 0 (upd H1 D (.lst []))) (hG : ∀ D i H, H1 D = none → i ≤ n → Pv D i H → G H)
    (hs : ∀ D i x H H', H1 D = none → i < n → Pv D i H → Y i H x H' → g x (wipe σ vs) H' fun σ2 H2 => wipe σ2 vs = wipe σ vs ∧ tt σ2 H2 fun b H3 =>
      if b = true then te σ2 H3 fun y H4 => ∃ acc, H4 D = some (.lst acc) ∧ acc.length < sizeLine ∧ Pv D (i + 1) (upd H4 D (.lst (acc ++ [y]))) else Pv D (i + 1) H3) (hd : ∀ D H, H1 D = none → Pv D n H → Q (.ref D) H) : LcB g tt te vs σ Q J H1 :=
  fun D nD => lc_it w (Pv D) (h0 D nD) (fun i H hi p => hG D i H nD hi p) (fun i x H H' hi p y => hs D i x H H' nD hi p y) (fun H p => hd D H nD p)
/-! ### own instances -/
def rFld (K : PySem.W.Frag) (f : Str) (x : V) (H1 : Hp) (Q : VK) : Prop := ∃ a C dx fs v, x = .ref a ∧ H1 a = some (.ins C dx fs) ∧ Cls K C ∧ NoAttr K C f ∧ fs.lookup f = some v ∧ Q v H1
def rPut (K : PySem.W.Frag) (f : Str) (x y : V) (H2 : Hp) (N : Hp → Prop) : Prop := ∃ a C dx fs, x = .ref a ∧ H2 a = some (.ins C dx fs) ∧ Cls K C ∧ NoAttr K C f ∧ fs.length < 1000 ∧ N (upd H2 a (.ins C dx (putF f y fs)))
/-- a new instance is made -/
def MkB (C : Addr) (sp : Sp) (vs : List V) (H1 : Hp) (Q : VK) : Prop := ∀ x dx, H1 x = none → H1 dx = none → dx ≠ x → sp (.ref x :: (vs ++ [])) (upd (upd H1 dx (.own x)) x (.ins C dx [])) (fun v H2 => v = .non ∧ Q (.ref x) H2) E0
/-- the field f of the instance at a holds v -/
def Fl (K : PySem.W.Frag) (H : Hp) (a : Addr) (f : Str) (v : V) : Prop := ∃ C dx fs, H a = some (.ins C dx fs) ∧ Cls K C ∧ NoAttr K C f ∧ fs.lookup f = some v
/-- an instance of C, no field of which is m -/
def Mt (H : Hp) (a C : Addr) (m : Str) : Prop := ∃ dx fs, H a = some (.ins C dx fs) ∧ fs.lookup m = none
/-- an instance of C -/
def Is (H : Hp) (a C : Addr) : Prop := ∃ dx fs, H a = some (.ins C dx fs)
/-! ### isinstance -/
theorem kb_NoneType_str : kitB "NoneType" "str" = some false := by decide +kernel
theorem kb_NoneType_int : kitB "NoneType" "int" = some false := by decide +kernel
theorem kb_NoneType_bool : kitB "NoneType" "bool" = some false := by decide +kernel
theorem kb_NoneType_list : kitB "NoneType" "list" = some false := by decide +kernel
theorem kb_NoneType_tuple : kitB "NoneType" "tuple" = some false := by decide +kernel
theorem kb_NoneType_dict : kitB "NoneType" "dict" = some false := by decide +kernel
theorem kb_bool_str : kitB "bool" "str" = some false := by decide +kernel
theorem kb_bool_int : kitB "bool" "int" = some true := by decide +kernel
theorem kb_bool_bool : kitB "bool" "bool" = some true := by decide +kernel
theorem kb_bool_list : kitB "bool" "list" = some false := by decide +kernel
theorem kb_bool_tuple : kitB "bool" "tuple" = some false := by decide +kernel
theorem kb_bool_dict : kitB "bool" "dict" = some false := by decide +kernel
theorem kb_int_str : kitB "int" "str" = some false := by decide +kernel
theorem kb_int_int : kitB "int" "int" = some true := by decide +kernel
theorem kb_int_bool : kitB "int" "bool" = some false := by decide +kernel
theorem kb_int_list : kitB "int" "list" = some false := by decide +kernel
theorem kb_int_tuple : kitB "int" "tuple" = some false := by decide +kernel
theorem kb_int_dict : kitB "int" "dict" = some false := by decide +kernel
theorem kb_str_str : kitB "str" "str" = some true := by decide +kernel
theorem kb_str_int : kitB "str" "int" = some false := by decide +kernel
theorem kb_str_bool : kitB "str" "bool" = some false := by decide +kernel
theorem kb_str_list : kitB "str" "list" = some false := by decide +kernel
theorem kb_str_tuple : kitB "str" "tuple" = some false := by decide +kernel
theorem kb_str_dict : kitB "str" "dict" = some false := by decide +kernel
theorem kb_list_str : kitB "list" "str" = some false := by decide +kernel
theorem kb_list_int : kitB "list" "int" = some false := by decide +kernel
theorem kb_list_bool : kitB "list" "bool" = some false := by decide +kernel
theorem kb_list_list : kitB "list" "list" = some true := by decide +kernel
theorem kb_list_tuple : kitB "list" "tuple" = some false := by decide +kernel
theorem kb_list_dict : kitB "list" "dict" = some false := by decide +kernel
theorem kb_tuple_str : kitB "tuple" "str" = some false := by decide +kernel
theorem kb_tuple_int : kitB "tuple" "int" = some false := by decide +kernel
theorem kb_tuple_bool : kitB "tuple" "bool" = some false := by decide +kernel
theorem kb_tuple_list : kitB "tuple" "list" = some false := by decide +kernel
theorem kb_tuple_tuple : kitB "tuple" "tuple" = some true := by decide +kernel
theorem kb_tuple_dict : kitB "tuple" "dict" = some false := by decide +kernel
theorem kb_dict_str : kitB "dict" "str" = some false := by decide +kernel
theorem kb_dict_int : kitB "dict" "int" = some false := by decide +kernel
theorem kb_dict_bool : kitB "dict" "bool" = some false := by decide +kernel
theorem kb_dict_list : kitB "dict" "list" = some false := by decide +kernel
theorem kb_dict_tuple : kitB "dict" "tuple" = some false := by decide +kernel
theorem kb_dict_dict : kitB "dict" "dict" = some true := by decide +kernel
theorem ka1 {K : PySem.W.Frag} {t c1 : Value} {r1 : Bool} (h1 : PySem.W.kitOne K t c1 = some r1) : PySem.W.kitAny K t [c1] = some r1 := by
  unfold PySem.W.kitAny
  rw [h1]
  cases r1 <;> rfl
theorem kaC {K : PySem.W.Frag} {t c : Value} {cs : List Value} {r1 r2 : Bool} (h1 : PySem.W.kitOne K t c = some r1) (h2 : PySem.W.kitAny K t cs = some r2) : PySem.W.kitAny K t (c :: cs) = some (r1 || r2) := by
  unfold PySem.W.kitAny
  rw [h1]
  cases r1
  · exact h2
  · rfl
section
variable {K : PySem.W.Frag} {σ : L2.St} {H H' : Hp} {D : Ends} {Q : VK} {Qb : Bool → Hp → Prop} {Qa : List V → Hp → Prop} {t u v : TS} {ta tb tc te : TE} {tr : TA} {c d : TT} {x y z : V} {i j : Nat} {A B : Prop} {g : TG} {gs : TGs} {r : R2}

/-! ### statements -/
theorem k_seq (h : t { D with nx := u D } σ H) : tSeq t u D σ H := h
theorem k_set (h : te σ H fun x H1 => D.nx (σ.set i (some x)) H1) : tAsg te (gName i) D σ H := h
theorem k_asg (h : te σ H fun x H1 => g x σ H1 D.nx) : tAsg te g D σ H := h
theorem k_par (h : tr σ H fun vs H1 => ∃ v w, vs = [v, w] ∧ D.nx ((σ.set i (some v)).set j (some w)) H1) : tPar i j tr D σ H := h
theorem k_par2 {N : V → V → Prop} (h : N x y) : ∃ v w, [x, y] = [v, w] ∧ N v w := ⟨_, _, rfl, h⟩
theorem k_drop (h : te σ H fun _ H1 => D.nx σ H1) : tDrop te D σ H := h
theorem k_ret (h : te σ H D.rt) : tRet te D σ H := h
theorem k_next (h : D.nx σ H) : tNext D σ H := h
theorem k_if (h : c σ H fun b H1 => if b = true then t D σ H1 else u D σ H1) : tIfS c t u D σ H := h
theorem k_aug {tip : TIp} (hx : σ[i]? = some (some x)) (h : te σ H fun y H1 => tip x y H1 fun z H2 => D.nx (σ.set i (some z)) H2) : tAug i te tip D σ H := ⟨_, hx, h⟩
theorem k_ipI {f : Int → Int → Int} {a b : Int} (h : Q (.int (f a b)) H) : ipI f (.int a) (.int b) H Q := ⟨_, _, rfl, rfl, h⟩
theorem k_gname {N : L2.St → Hp → Prop} (h : N (σ.set i (some x)) H) : gName i x σ H N := h
theorem k_gsub {to ti : TE} {ts : TSet} {N : L2.St → Hp → Prop} (h : to σ H fun o H1 => ti σ H1 fun i H2 => ts o i x H2 fun H3 => N σ H3) : gSub to ti ts x σ H N := h
theorem k_gtup {a : Addr} {xs : List V} {n : Nat} {N : L2.St → Hp → Prop} (hs : SqT K H a xs) (hl : xs.length = n) (h : gs xs σ H N) : gTup K n gs (.ref a) σ H N := ⟨a, xs, rfl, hs, hl, h⟩
theorem k_gcons {xs : List V} {N : L2.St → Hp → Prop} (h : g x σ H fun σ' H' => gs xs σ' H' N) : gCons g gs (x :: xs) σ H N := ⟨_, _, rfl, h⟩
theorem k_gnil {N : L2.St → Hp → Prop} (h : N σ H) : gNil [] σ H N := ⟨rfl, h⟩
theorem k_setl {p : Addr} {xs : List V} {k : Int} {n : Nat} {N : Hp → Prop} (hp : H p = some (.lst xs)) (hn : ixN xs.length k = some n) (h : N (upd H p (.lst (xs.set n x)))) : rSetL (.ref p) (.int k) x H N := ⟨p, xs, k, n, rfl, rfl, hp, hn, h⟩
theorem k_st1 {p : Addr} {a b c d : V} {N : Hp → Prop} (hp : H p = some (.lst [a, b, c, d])) (h : N (upd H p (.lst [a, x, c, d]))) : rSetL (.ref p) (.int 1) x H N := ⟨p, _, 1, 1, rfl, rfl, hp, rfl, h⟩
theorem k_st2 {p : Addr} {a b c d : V} {N : Hp → Prop} (hp : H p = some (.lst [a, b, c, d])) (h : N (upd H p (.lst [a, b, x, d]))) : rSetL (.ref p) (.int 2) x H N := ⟨p, _, 2, 2, rfl, rfl, hp, rfl, h⟩
theorem k_st3 {p : Addr} {a b c d : V} {N : Hp → Prop} (hp : H p = some (.lst [a, b, c, d])) (h : N (upd H p (.lst [a, b, c, x]))) : rSetL (.ref p) (.int 3) x H N := ⟨p, _, 3, 3, rfl, rfl, hp, rfl, h⟩

/-! ### tests -/
theorem k_test (h : te σ H fun x H' => ∃ k, x = .bl k ∧ Qb k H') : tTest te σ H Qb := h
theorem k_B (h : te σ H fun x H' => ∃ k, x = .bl k ∧ Qb k H') : tB te σ H Qb := h
theorem k_blE {b : Bool} {P : Bool → Prop} (h : P b) : ∃ k, V.bl b = .bl k ∧ P k := ⟨_, rfl, h⟩
theorem k_and (h : c σ H fun b H1 => if b = true then d σ H1 Qb else Qb false H1) : tAnd c d σ H Qb := h
theorem k_or (h : c σ H fun b H1 => if b = true then Qb true H1 else d σ H1 Qb) : tOr c d σ H Qb := h
theorem k_not (h : c σ H fun b H1 => Qb (!b) H1) : tNot c σ H Qb := h
theorem k_dec {p : Prop} [Decidable p] (h1 : p → A) (h2 : ¬ p → B) : if decide p = true then A else B := by
  by_cases h : p
  · rw [if_pos (decide_eq_true h)]; exact h1 h
  · rw [if_neg (by rw [decide_eq_false h]; exact Bool.false_ne_true)]; exact h2 h
theorem k_ndec {p : Prop} [Decidable p] (h1 : p → B) (h2 : ¬ p → A) : if (!decide p) = true then A else B := by
  by_cases h : p
  · rw [decide_eq_true h]; exact iteF (h1 h)
  · rw [decide_eq_false h]; exact iteT (h2 h)
theorem k_yes {b : Bool} (hb : b = true) (h : A) : if b = true then A else B := by rw [if_pos hb]; exact h
theorem k_no {b : Bool} (hb : b = false) (h : B) : if b = true then A else B := by rw [if_neg (by rw [hb]; exact Bool.false_ne_true)]; exact h
theorem k_bool {b : Bool} (h1 : b = true → A) (h2 : b = false → B) : if b = true then A else B := by
  cases b with
  | true => exact iteT (h1 rfl)
  | false => exact iteF (h2 rfl)

/-! ### expressions -/
theorem k_var (hv : σ[i]? = some (some x)) (h : Q x H) : tVar i σ H Q := ⟨_, hv, h⟩
theorem k_c (h : Q x H) : tC x σ H Q := h
theorem k_op (h : ta σ H fun x H1 => tb σ H1 fun y H2 => r x y H2 Q) : tOp r ta tb σ H Q := h
theorem k_un {f : V → Hp → VK → Prop} (h : ta σ H fun x H1 => f x H1 Q) : tUn f ta σ H Q := h
theorem k_U {f : Int → V} {a : Int} (h : Q (f a) H) : rU f (.int a) H Q := ⟨_, rfl, h⟩
theorem k_I0 {f : Int → Int → V} {a b : Int} (h : Q (f a b) H) : rI0 f (.int a) (.int b) H Q := ⟨_, _, rfl, rfl, h⟩
theorem k_I {C : Int → Int → Prop} {f : Int → Int → V} {a b : Int} (hc : C a b) (h : Q (f a b) H) : rI C f (.int a) (.int b) H Q := ⟨_, _, rfl, rfl, hc, h⟩
theorem int_eq {a b : Int} : decide (V.int a = V.int b) = decide (a = b) := by
  by_cases h : a = b
  · subst h; simp
  · rw [decide_eq_false h, decide_eq_false (fun e => h (V.int.inj e))]
theorem k_eqI {a b : Int} (h : Q (.bl (decide (a = b))) H) : rEq (.int a) (.int b) H Q := ⟨rfl, by rw [int_eq]; exact h⟩
theorem k_neI {a b : Int} (h : Q (.bl (!decide (a = b))) H) : rNe (.int a) (.int b) H Q := ⟨rfl, by rw [int_eq]; exact h⟩
theorem str_eq {a b : Str} : decide (V.str a = V.str b) = decide (a = b) := by
  by_cases h : a = b
  · subst h; simp
  · rw [decide_eq_false h, decide_eq_false (fun e => h (V.str.inj e))]
theorem k_eqS {a b : Str} (h : Q (.bl (decide (a = b))) H) : rEq (.str a) (.str b) H Q := ⟨rfl, by rw [str_eq]; exact h⟩
theorem k_neS {a b : Str} (h : Q (.bl (!decide (a = b))) H) : rNe (.str a) (.str b) H Q := ⟨rfl, by rw [str_eq]; exact h⟩
theorem bl_eq {a b : Bool} : decide (V.bl a = V.bl b) = (a == b) := by cases a <;> cases b <;> rfl
theorem k_eqB {a b : Bool} (h : Q (.bl (a == b)) H) : rEq (.bl a) (.bl b) H Q := ⟨rfl, by rw [bl_eq]; exact h⟩
theorem k_neB {a b : Bool} (h : Q (.bl (!(a == b))) H) : rNe (.bl a) (.bl b) H Q := ⟨rfl, by rw [bl_eq]; exact h⟩
theorem k_ixl {p : Addr} {xs : List V} {k : Int} (hp : SqL K H p xs) (hn : atI xs k = some x) (h : Q x H) : rIxL K (.ref p) (.int k) H Q := ⟨p, xs, k, x, rfl, rfl, hp, hn, h⟩
theorem k_ixt {p : Addr} {xs : List V} {k : Int} (hp : SqT K H p xs) (hn : atI xs k = some x) (h : Q x H) : rIxT K (.ref p) (.int k) H Q := ⟨p, xs, k, x, rfl, rfl, hp, hn, h⟩
theorem k_ixa {p : Addr} {xs : List V} {k : Int} (hp : SqA K H p xs) (hn : atI xs k = some x) (h : Q x H) : rIx K (.ref p) (.int k) H Q :=
  hp.elim (fun hp => .inl ⟨p, xs, k, x, rfl, rfl, hp, hn, h⟩) fun hp => .inr (.inl ⟨p, xs, k, x, rfl, rfl, hp, hn, h⟩)
theorem k_nil (h : Qa [] H) : tNil σ H Qa := h
theorem k_cons (h : ta σ H fun x H1 => tr σ H1 fun xs H2 => Qa (x :: xs) H2) : tCons ta tr σ H Qa := h
theorem k_cb {f : List V → Hp → VK → Prop} (h : tr σ H fun vs H1 => f vs H1 Q) : tCB f tr σ H Q := h
theorem k_call {sp : Sp} {E : XK} (h : tr σ H fun vs H1 => sp (vs ++ []) H1 Q E) : tCall sp [] E tr σ H Q := h
theorem k_lst (h : tr σ H fun xs H1 => xs.length ≤ sizeLine ∧ ∀ p, H1 p = none → Q (.ref p) (upd H1 p (.lst xs))) : tLst tr σ H Q := h
theorem k_tup (h : tr σ H fun xs H1 => xs.length ≤ sizeLine ∧ ∀ p, H1 p = none → Q (.ref p) (upd H1 p (.tup xs))) : tTup tr σ H Q := h
theorem k_ifx (h : c σ H fun b H1 => if b = true then ta σ H1 Q else tb σ H1 Q) : tIf c ta tb σ H Q := h
theorem k_andv (h : ta σ H fun x H1 => ∃ c, x = .bl c ∧ if c = true then tb σ H1 Q else Q (.bl false) H1) : tAndV ta tb σ H Q := h
theorem k_orv (h : ta σ H fun x H1 => ∃ c, x = .bl c ∧ if c = true then Q (.bl true) H1 else tb σ H1 Q) : tOrV ta tb σ H Q := h
theorem k_notv (h : ta σ H fun x H1 => ∃ c, x = .bl c ∧ Q (.bl (!c)) H1) : tNotV ta σ H Q := h
theorem k_lenl {p : Addr} {xs : List V} (hp : SqL K H p xs) (h : Q (.int (xs.length : Nat)) H) : rLen K [.ref p] H Q := ⟨_, _, rfl, .inl ⟨xs, hp, rfl⟩, h⟩
theorem k_lent {p : Addr} {xs : List V} (hp : SqT K H p xs) (h : Q (.int (xs.length : Nat)) H) : rLen K [.ref p] H Q := ⟨_, _, rfl, .inr ⟨xs, hp, rfl⟩, h⟩
theorem k_lena {p : Addr} {xs : List V} (hp : SqA K H p xs) (h : Q (.int (xs.length : Nat)) H) : rLen K [.ref p] H Q := hp.elim (fun hp => k_lenl hp h) fun hp => k_lent hp h
theorem k_lens {z : Str} (hz : z.length ≤ sizeLine) (h : Q (.int (z.length : Nat)) H) : rLen K [.str z] H Q := ⟨_, _, rfl, ⟨hz, rfl⟩, h⟩
theorem k_inti {a : Int} (h : Q (.int a) H) : rInt1 [.int a] H Q := .inl ⟨_, rfl, h⟩
theorem k_intb {b : Bool} (h : Q (.int (if b then 1 else 0)) H) : rInt1 [.bl b] H Q := .inr ⟨_, rfl, h⟩
theorem k_sl {f : V → Option Int → Option Int → Hp → VK → Prop} {tl th : TO} (h : te σ H fun x H1 => tl σ H1 fun l H2 => th σ H2 fun u H3 => f x l u H3 Q) : tSl f te tl th σ H Q := h
theorem k_nopart {Qo : Option Int → Hp → Prop} (h : Qo none H) : tNoPart σ H Qo := h
theorem k_part {Qo : Option Int → Hp → Prop} (h : te σ H fun x H1 => ∃ i, x = .int i ∧ Qo (some i) H1) : tPart te σ H Qo := h
theorem k_parti {N : Int → Prop} {a : Int} (h : N a) : ∃ i, V.int a = .int i ∧ N i := ⟨_, rfl, h⟩
theorem k_sll {lo hi : Option Int} {p : Addr} {xs : List V} (hp : SqL K H p xs) (h : ∀ l, H l = none → Q (.ref l) (upd H l (.lst (cutV xs lo hi)))) : rSlL K (.ref p) lo hi H Q := ⟨p, xs, rfl, hp, h⟩
theorem k_for {wi : TI} {tb : TS} (h : wi σ H (ForB g tb D σ)) : tFor wi g tb D σ H := h
variable {R : It → Hp → Prop}
theorem k_iE {ri : V → Hp → (It → Hp → Prop) → Prop} (h : te σ H fun x H1 => ri x H1 R) : iE ri te σ H R := h
theorem k_iA {ri : List V → Hp → (It → Hp → Prop) → Prop} (h : tr σ H fun x H1 => ri x H1 R) : iA ri tr σ H R := h
theorem k_itl {p : Addr} {xs : List V} (hp : SqL K H p xs) (h : R (Itl K p) H) : rItL K (.ref p) H R := ⟨p, rfl, ⟨xs, hp⟩, h⟩
theorem k_itt {p : Addr} {xs : List V} (hp : SqT K H p xs) (h : R (Itt K p) H) : rItT K (.ref p) H R := ⟨p, rfl, ⟨xs, hp⟩, h⟩
theorem k_its {s : Str} (h : R (Its s) H) : rItS (.str s) H R := ⟨s, rfl, h⟩
theorem k_rg1 {n : Int} (h1 : -(2 ^ 62) ≤ n) (h2 : n < 2 ^ 62) (h : R (Itr 0 n.toNat) H) : rRg1 [.int n] H R := ⟨n, rfl, h1, h2, h⟩
theorem k_rg1n {n : Nat} (h2 : n < 10000) (h : R (Itr 0 n) H) : rRg1 [.int (n : Int)] H R := ⟨n, rfl, by omega, by omega, by rw [Int.toNat_natCast]; exact h⟩
theorem k_enuml {p : Addr} {xs : List V} (hp : SqL K H p xs) (h : R (Ite K p) H) : rEnumA K [.ref p] H R := ⟨p, xs, rfl, .inl ⟨hp, h⟩⟩
theorem k_enumt {p : Addr} {xs : List V} (hp : SqT K H p xs) (h : R (IteT K p) H) : rEnumA K [.ref p] H R := ⟨p, xs, rfl, .inr ⟨hp, h⟩⟩
theorem sl_rd {a : Addr} {xs : List V} {H' : Hp} (k : ∀ u, Rd H a u → Rd H' a u) (h : SqL K H a xs) : SqL K H' a xs := h.imp (k _) id
theorem st_rd {a : Addr} {xs : List V} {H' : Hp} (k : ∀ u, Rd H a u → Rd H' a u) (h : SqT K H a xs) : SqT K H' a xs := h.imp (k _) id
/-- for i, x in enumerate(xs), xs a list or a tuple -/
theorem for_enum {tb : TS} {a : Addr} {xs : List V} {H0 : Hp} (hS : SqA K H0 a xs) (Pv : Nat → L2.St → Hp → Prop) (h0 : Pv 0 σ H) (hG : ∀ i σ' H', i ≤ xs.length → Pv i σ' H' → ∀ u, Rd H0 a u → Rd H' a u)
    (hs : ∀ i x σ' H' T, i < xs.length → Pv i σ' H' → H' T = none → xs[i]? = some x → g (.ref T) σ' (upd H' T (.tup [.int (i : Nat), x])) fun σ2 H2 => tb { D with nx := Pv (i + 1), ct := Pv (i + 1), bk := D.nx } σ2 H2)
    (hd : ∀ σ' H', Pv xs.length σ' H' → D.nx σ' H') : rEnumA K [.ref a] H (ForB g tb D σ) := by
  rcases hS with hS | hS
  · refine k_enuml (sl_rd (hG 0 σ H (Nat.zero_le _) h0) hS) (for_w walk_enum Pv h0 (fun i σ' H' hi p => sl_rd (hG i σ' H' hi p) hS) ?_ hd)
    rintro i v σ' H' H'' hi p ⟨T, x, y, rfl, nT, rfl, e1, e2⟩
    cases e1
    exact hs i y σ' H' T hi p nT e2
  · refine k_enumt (st_rd (hG 0 σ H (Nat.zero_le _) h0) hS) (for_w walk_enumT Pv h0 (fun i σ' H' hi p => st_rd (hG i σ' H' hi p) hS) ?_ hd)
    rintro i v σ' H' H'' hi p ⟨T, x, y, rfl, nT, rfl, e1, e2⟩
    cases e1
    exact hs i y σ' H' T hi p nT e2
theorem all_flat_str (ws : List Str) : (ws.map V.str).all flatV = true := by rw [List.all_map]; exact List.all_eq_true.mpr fun _ _ => rfl
theorem all_flat_int (ns : List Int) : (ns.map V.int).all flatV = true := by rw [List.all_map]; exact List.all_eq_true.mpr fun _ _ => rfl
theorem inV_str (s : Str) (ws : List Str) : inV (.str s) (ws.map V.str) = decide (s ∈ ws) := by
  unfold inV
  rw [List.any_map]
  show ws.any (fun y => eqV (.str y) (.str s)) = _
  rw [Bool.eq_iff_iff, List.any_eq_true, decide_eq_true_iff]
  constructor
  · rintro ⟨y, hy, e⟩
    have e' : (y == s) = true := e
    rw [← eq_of_beq e']; exact hy
  · intro h
    exact ⟨s, h, beq_self_eq_true s⟩
theorem inV_int (n : Int) (ns : List Int) : inV (.int n) (ns.map V.int) = decide (n ∈ ns) := by
  unfold inV
  rw [List.any_map]
  show ns.any (fun y => eqV (.int y) (.int n)) = _
  rw [Bool.eq_iff_iff, List.any_eq_true, decide_eq_true_iff]
  constructor
  · rintro ⟨y, hy, e⟩
    have e' : (y == n) = true := e
    rw [← eq_of_beq e']; exact hy
  · intro h
    exact ⟨n, h, beq_self_eq_true n⟩
theorem k_in {p : Addr} {xs : List V} (hp : SqA K H p xs) (hx : flatV x = true) (hf : xs.all flatV = true) (h : Q (.bl (inV x xs)) H) : rIn K false x (.ref p) H Q := ⟨p, xs, rfl, hp, hx, hf, h⟩
theorem k_nin {p : Addr} {xs : List V} (hp : SqA K H p xs) (hx : flatV x = true) (hf : xs.all flatV = true) (h : Q (.bl (!inV x xs)) H) : rIn K true x (.ref p) H Q := ⟨p, xs, rfl, hp, hx, hf, h⟩
theorem k_inS {p : Addr} {s : Str} {ws : List Str} (hp : SqA K H p (ws.map V.str)) (h : Q (.bl (decide (s ∈ ws))) H) : rIn K false (.str s) (.ref p) H Q := k_in hp rfl (all_flat_str ws) (by rw [inV_str]; exact h)
theorem k_inI {p : Addr} {n : Int} {ns : List Int} (hp : SqA K H p (ns.map V.int)) (h : Q (.bl (decide (n ∈ ns))) H) : rIn K false (.int n) (.ref p) H Q := k_in hp rfl (all_flat_int ns) (by rw [inV_int]; exact h)
theorem k_ninS {p : Addr} {s : Str} {ws : List Str} (hp : SqA K H p (ws.map V.str)) (h : Q (.bl (!decide (s ∈ ws))) H) : rIn K true (.str s) (.ref p) H Q := k_nin hp rfl (all_flat_str ws) (by rw [inV_str]; exact h)
theorem k_ninI {p : Addr} {n : Int} {ns : List Int} (hp : SqA K H p (ns.map V.int)) (h : Q (.bl (!decide (n ∈ ns))) H) : rIn K true (.int n) (.ref p) H Q := k_nin hp rfl (all_flat_int ns) (by rw [inV_int]; exact h)
theorem k_zipl {p q : Addr} {xs ys : List V} (hp : SqL K H p xs) (hq : SqL K H q ys) (h : R (Itz K p q) H) : rZipL K [.ref p, .ref q] H R := ⟨p, q, xs, ys, rfl, hp, hq, h⟩
theorem k_isi {n : String} {t : Value} {b : Bool} (ht : TyX K H x t) (hk : PySem.W.kitOne K t (.type n) = some b) (h : Q (.bl b) H) : rIsi K [x, .ty n] H Q := ⟨x, _, t, _, b, rfl, .ty n, ht, hk, h⟩
theorem k_isiO {C : Addr} {t : Value} {b : Bool} (ht : TyX K H x t) (hk : PySem.W.kitOne K t (.ref C) = some b) (h : Q (.bl b) H) : rIsi K [x, .ref C] H Q := ⟨x, _, t, _, b, rfl, .own C, ht, hk, h⟩
theorem or_t {b : Bool} : (true || b) = true := rfl
theorem or_f {b : Bool} : (false || b) = b := rfl
theorem iteNT (h : B) : if (!true) = true then A else B := h
theorem iteNF (h : A) : if (!false) = true then A else B := h
theorem k_all {p : Addr} {bs : List Bool} (hp : H p = some (.lst (bs.map V.bl))) (h : Q (.bl (bs.all id)) H) : rAll K [.ref p] H Q := ⟨p, bs, rfl, sl_of hp, h⟩
theorem k_any {p : Addr} {bs : List Bool} (hp : H p = some (.lst (bs.map V.bl))) (h : Q (.bl (bs.any id)) H) : rAny K [.ref p] H Q := ⟨p, bs, rfl, sl_of hp, h⟩
theorem k_insign {c : Nat} {s : Str} (h : Q (.bl (decide (c ∈ s.cps.toList))) H) : rInSign (.str ⟨#[c]⟩) (.str s) H Q := ⟨c, s, rfl, rfl, h⟩
theorem k_isi2 {tp : Addr} {n m : String} {t : Value} {b b1 b2 : Bool} (hb : (b1 || b2) = b) (hp : H tp = some (.tup [.ty n, .ty m])) (ht : TyX K H x t) (h1 : PySem.W.kitOne K t (.type n) = some b1) (h2 : PySem.W.kitOne K t (.type m) = some b2) (h : Q (.bl b) H) : rIsiT K [x, .ref tp] H Q :=
  ⟨x, tp, _, t, _, _, rfl, hp, .cons (.ty n) (.cons (.ty m) .nil), ht, kaC h1 (ka1 h2), by rw [hb]; exact h⟩
theorem k_isi4 {tp : Addr} {n m n' m' : String} {t : Value} {b1 b2 b3 b4 : Bool} (hp : H tp = some (.tup [.ty n, .ty m, .ty n', .ty m'])) (ht : TyX K H x t) (h1 : PySem.W.kitOne K t (.type n) = some b1) (h2 : PySem.W.kitOne K t (.type m) = some b2) (h3 : PySem.W.kitOne K t (.type n') = some b3) (h4 : PySem.W.kitOne K t (.type m') = some b4) (h : Q (.bl (b1 || (b2 || (b3 || b4)))) H) : rIsiT K [x, .ref tp] H Q :=
  ⟨x, tp, _, t, _, _, rfl, hp, .cons (.ty n) (.cons (.ty m) (.cons (.ty n') (.cons (.ty m') .nil))), ht, kaC h1 (kaC h2 (kaC h3 (ka1 h4))), h⟩
theorem k_chain {r' : R2} (h : ta σ H fun x H1 => tb σ H1 fun y H2 => r x y H2 fun z H3 => ∃ k, z = .bl k ∧ (if k = true then tc σ H3 fun w' H4 => r' y w' H4 Q else Q (.bl false) H3)) : tChain r r' ta tb tc σ H Q := h
/-! fields and methods of own instances -/
theorem k_fldR {f : Str} (h : ta σ H fun x H1 => rFld K f x H1 Q) : tFld K ta f σ H Q := h
theorem k_fl {a : Addr} {f : Str} (hf : Fl K H a f x) (h : Q x H) : rFld K f (.ref a) H Q := by
  obtain ⟨C, dx, fs, h1, h2, h3, h4⟩ := hf
  exact ⟨a, C, dx, fs, x, rfl, h1, h2, h3, h4, h⟩
theorem k_sfld {f : Str} (h : tb σ H fun y H1 => ta σ H1 fun x H2 => rPut K f x y H2 fun H3 => D.nx σ H3) : sFld K ta tb f D σ H := h
theorem k_meth {C : Addr} {m : Str} {sp : Sp} {E : XK} (h : ta σ H fun x H1 => ∃ a dx fs, x = .ref a ∧ H1 a = some (.ins C dx fs) ∧ fs.lookup m = none ∧ tr σ H1 fun vs H2 => sp (x :: (vs ++ [])) H2 Q E) : tMeth C m sp [] E ta tr σ H Q := h
theorem k_mt {a C : Addr} {m : Str} (hm : Mt H a C m) (h : A) : ∃ a' dx fs, V.ref a = .ref a' ∧ H a' = some (.ins C dx fs) ∧ fs.lookup m = none ∧ A := by
  obtain ⟨dx, fs, h1, h2⟩ := hm
  exact ⟨a, dx, fs, rfl, h1, h2, h⟩
theorem k_make {C : Addr} {sp : Sp} (h : tr σ H fun vs H1 => MkB C sp vs H1 Q) : tMake C sp [] E0 tr σ H Q := h
theorem k_bm {T : String} {f : V → List V → Hp → VK → Prop} (h : te σ H fun x H1 => tyV K T x H1 ∧ tr σ H1 fun xs H2 => f x xs H2 Q) : tBM K T f te tr σ H Q := h
theorem k_bm0 {T : String} {f : V → List V → Hp → VK → Prop} (h : te σ H fun x H1 => tyV K T x H1 ∧ f x [] H1 Q) : tBM0 K T f te σ H Q := h
theorem k_tyl {p : Addr} {xs : List V} (hp : SqL K H p xs) (h : A) : tyV K "list" (.ref p) H ∧ A := ⟨.inl ⟨rfl, xs, hp⟩, h⟩
theorem k_tys {s : Str} (h : A) : tyV K "str" (.str s) H ∧ A := ⟨rfl, h⟩
theorem k_ext {p q : Addr} {xs ys : List V} (hp : H p = some (.lst xs)) (hq : H q = some (.lst ys)) (hn : xs.length + ys.length < 100000) (h : Q .non (upd H p (.lst (xs ++ ys)))) : rExtend (.ref p) [.ref q] H Q := ⟨p, q, xs, ys, rfl, rfl, hp, hq, Nat.le_of_lt (Nat.lt_of_lt_of_le hn (by decide)), h⟩
theorem k_popat {p : Addr} {xs : List V} {n : Nat} (hp : H p = some (.lst xs)) (hn : xs[n]? = some x) (hl : n < 100000) (h : Q x (upd H p (.lst (xs.eraseIdx n)))) : rPopAt (.ref p) [.int (n : Int)] H Q := by
  have hj : n < xs.length := (List.getElem?_eq_some_iff.mp hn).1
  have e : ixN xs.length (n : Int) = some n := by
    unfold ixN
    rw [if_pos (by omega), if_pos (by omega), Int.toNat_natCast]
  exact ⟨p, xs, n, n, x, rfl, rfl, hp, by omega, by omega, (ixN_seq e).1, hn, h⟩
theorem k_lc {wi : TI} {tt : TT} {vs : List Nat} (h : wi σ H (LcB g tt te vs σ Q)) : tLc wi g tt te vs σ H Q := h
theorem k_yes0 (h : Qb true H) : tYes σ H Qb := h
theorem k_adds {a b : Str} (hl : a.length + b.length < 1000000) (h : Q (.str (a ++ b)) H) : rAddS2 (.str a) (.str b) H Q := ⟨a, b, rfl, rfl, Nat.le_of_lt (Nat.lt_of_lt_of_le hl (by decide)), h⟩
theorem sz {n : Nat} (h : n < 100000) : n < sizeLine := Nat.lt_of_lt_of_le h (by decide)
theorem szl {n : Nat} (h : n < 100000) : n ≤ sizeLine := Nat.le_of_lt (sz h)
theorem k_lrg {te' : L2.St → Hp → (Int → Int → Hp → Prop) → Prop} (h : te' σ H fun a b H1 => RgOk a b ∧ ∀ q, H1 q = none → Q (.ref q) (upd H1 q (.lst (rgV a b)))) : tLstRg te' σ H Q := h
theorem k_rgt {Qr : Int → Int → Hp → Prop} (h : ta σ H fun x H1 => rRgt x H1 Qr) : tRg1 ta σ H Qr := h
theorem k_rgti {Qr : Int → Int → Hp → Prop} {n : Int} (h : Qr 0 n H) : rRgt (.int n) H Qr := ⟨n, rfl, h⟩
theorem k_rep {p : Addr} {xs : List V} {n : Nat} (hp : H p = some (.lst xs)) (hn : xs.length * n < 100000) (hn2 : n < 100000) (h : ∀ l, H l = none → Q (.ref l) (upd H l (.lst (List.replicate n xs).flatten))) : rRep (.ref p) (.int (n : Int)) H Q := ⟨p, n, xs, rfl, rfl, hp, by omega, by omega, by rw [Int.toNat_natCast]; exact Nat.le_of_lt (Nat.lt_of_lt_of_le hn (by decide)), fun l nl => by rw [Int.toNat_natCast]; exact h l nl⟩
theorem k_app {p : Addr} {xs : List V} (hp : H p = some (.lst xs)) (hn : xs.length < 10000) (h : Q .non (upd H p (.lst (xs ++ [x])))) : rAppend (.ref p) [x] H Q := ⟨p, xs, x, rfl, rfl, hp, Nat.lt_of_lt_of_le hn (by decide), h⟩
end
end
/-! The draws of a law: fresh, fill, take, one. -/
end Lf
namespace Lf
open PySem L2
local macro_rules | `(tactic| walk_at "nq") => `(tactic| first | with_reducible assumption | with_reducible exact Ne.symm (by assumption) | with_reducible exact ne_of_none (by assumption) (by assumption) | with_reducible exact Ne.symm (ne_of_none (by assumption) (by assumption)))
local macro_rules | `(tactic| walk_at "gt") => `(tactic| first | with_reducible assumption | with_reducible exact upd_same | ((with_reducible refine' upd_new ?ha ?hb); (case hb => with_reducible assumption); (case ha => walk_at "gt")) | ((with_reducible refine' upd_old ?ha ?hb); (case hb => walk_at "nq"); (case ha => walk_at "gt")) | ((with_reducible refine' sm_get ?hb ?ha); (case hb => with_reducible assumption); (case ha => walk_at "gt")) | ((with_reducible refine' fr_get ?hb ?ha ?hc); (case hb => with_reducible assumption); (case hc => walk_at "nq"); (case ha => walk_at "gt")))
local macro_rules | `(tactic| walk_at "sl") => `(tactic| first | with_reducible assumption | ((with_reducible refine' sl_of ?ha); (case ha => walk_at "gt")) | ((with_reducible refine' sl_new ?ha ?hb); (case hb => with_reducible assumption); (case ha => walk_at "sl")) | ((with_reducible refine' sl_sm ?hb ?ha); (case hb => with_reducible assumption); (case ha => walk_at "sl")) | ((with_reducible refine' sl_fr ?hb ?hc ?ha); (case hb => with_reducible assumption); (case hc => walk_at "nq"); (case ha => walk_at "sl")))
local macro_rules | `(tactic| walk_at "st") => `(tactic| first | with_reducible assumption | ((with_reducible refine' st_of ?ha); (case ha => walk_at "gt")) | ((with_reducible refine' st_new ?ha ?hb); (case hb => with_reducible assumption); (case ha => walk_at "st")) | ((with_reducible refine' st_sm ?hb ?ha); (case hb => with_reducible assumption); (case ha => walk_at "st")) | ((with_reducible refine' st_fr ?hb ?hc ?ha); (case hb => with_reducible assumption); (case hc => walk_at "nq"); (case ha => walk_at "st")))
local macro_rules | `(tactic| walk_at "sa") => `(tactic| first | with_reducible assumption | ((with_reducible refine' sa_l ?ha); (case ha => walk_at "gt")) | ((with_reducible refine' sa_t ?ha); (case ha => walk_at "gt")) | ((with_reducible refine' sa_new ?ha ?hb); (case hb => with_reducible assumption); (case ha => walk_at "sa")) | ((with_reducible refine' sa_sm ?hb ?ha); (case hb => with_reducible assumption); (case ha => walk_at "sa")) | ((with_reducible refine' sa_fr ?hb ?hc ?ha); (case hb => with_reducible assumption); (case hc => walk_at "nq"); (case ha => walk_at "sa")) | ((with_reducible refine' Or.inl ?ha); (case ha => walk_at "sl")) | ((with_reducible refine' Or.inr ?ha); (case ha => walk_at "st")))
local macro_rules | `(tactic| walk_at "ln") => `(tactic| first | decide | omega | exact Nat.le_of_ble_eq_true rfl | (simp only [List.length_append, List.length_map, List.length_cons, List.length_nil, List.length_flatMap]; omega))
local macro_rules | `(tactic| walk_at "ty") => `(tactic| first | with_reducible assumption | with_reducible exact .base (.int _) | with_reducible exact .base (.str _) | with_reducible exact .base (.bl _) | with_reducible exact .base .non | ((with_reducible refine' TyX.base (TyOf.lst ?ha)); (case ha => walk_at "gt")) | ((with_reducible refine' TyX.base (TyOf.tup ?ha)); (case ha => walk_at "gt")) | ((with_reducible refine' TyX.base (TyOf.dK ?ha)); (case ha => walk_at "gt")) | ((with_reducible refine' ty_new ?ha ?hb); (case hb => with_reducible assumption); (case ha => walk_at "ty")) | ((with_reducible refine' ty_sm ?hb ?ha); (case hb => with_reducible assumption); (case ha => walk_at "ty")))
local macro_rules | `(tactic| walk_at "kb") => `(tactic| first | with_reducible assumption | exact kb_str_str | exact kb_int_str | exact kb_list_str | exact kb_tuple_str | exact kb_bool_str | exact kb_NoneType_str | exact kb_dict_str | exact kb_str_int | exact kb_int_int | exact kb_list_int | exact kb_tuple_int | exact kb_bool_int | exact kb_NoneType_int | exact kb_dict_int | exact kb_str_bool | exact kb_int_bool | exact kb_list_bool | exact kb_tuple_bool | exact kb_bool_bool | exact kb_NoneType_bool | exact kb_dict_bool | exact kb_str_list | exact kb_int_list | exact kb_list_list | exact kb_tuple_list | exact kb_bool_list | exact kb_NoneType_list | exact kb_dict_list | exact kb_str_tuple | exact kb_int_tuple | exact kb_list_tuple | exact kb_tuple_tuple | exact kb_bool_tuple | exact kb_NoneType_tuple | exact kb_dict_tuple | exact kb_str_dict | exact kb_int_dict | exact kb_list_dict | exact kb_tuple_dict | exact kb_bool_dict | exact kb_NoneType_dict | exact kb_dict_dict)
local macro_rules | `(tactic| walk_at "wk") => `(tactic| first | with_reducible assumption | ((with_reducible refine' WkAt.new ?ha ?hb); (case hb => with_reducible assumption); (case ha => walk_at "wk")) | ((with_reducible refine' WkAt.sm ?hb ?ha); (case hb => with_reducible assumption); (case ha => walk_at "wk")) | ((with_reducible refine' WkAt.dr ?hb ?hc ?ha); (case hb => with_reducible assumption); (case hc => with_reducible assumption); (case ha => walk_at "wk")))
local macro_rules | `(tactic| walk_at "ed") => `(tactic| first | with_reducible assumption | ((with_reducible refine' EdAt.new ?ha ?hb); (case hb => with_reducible assumption); (case ha => walk_at "ed")) | ((with_reducible refine' EdAt.sm ?hb ?ha); (case hb => with_reducible assumption); (case ha => walk_at "ed")) | ((with_reducible refine' EdAt.dr ?hb ?hc ?ha); (case hb => with_reducible assumption); (case hc => with_reducible assumption); (case ha => walk_at "ed")))
local macro_rules | `(tactic| walk_at "pl") => `(tactic| first | with_reducible assumption | ((with_reducible refine' PlAt.new ?ha ?hb); (case hb => with_reducible assumption); (case ha => walk_at "pl")) | ((with_reducible refine' PlAt.sm ?hb ?ha); (case hb => with_reducible assumption); (case ha => walk_at "pl")) | ((with_reducible refine' PlAt.dr ?hb ?hc ?ha); (case hb => with_reducible assumption); (case hc => with_reducible assumption); (case ha => walk_at "pl")))
local macro_rules | `(tactic| walk_at "fl") => `(tactic| first | with_reducible assumption | ((with_reducible refine' WkAt.rows ?hT ?hW); (case hT => assumption); (case hW => walk_at "wk")) | ((with_reducible refine' WkAt.name ?hT ?hW); (case hT => assumption); (case hW => walk_at "wk")) | ((with_reducible refine' EdAt.work ?hT ?hW); (case hT => assumption); (case hW => walk_at "ed")) | ((with_reducible refine' EdAt.nums ?hT ?hW); (case hT => assumption); (case hW => walk_at "ed")) | ((with_reducible refine' PlAt.edition ?hT ?hW); (case hT => assumption); (case hW => walk_at "pl")) | ((with_reducible refine' PlAt.count ?hT ?hW); (case hT => assumption); (case hW => walk_at "pl")))
local macro_rules | `(tactic| walk_at "mt") => `(tactic| first | with_reducible assumption | ((with_reducible refine' WkAt.mt ?hn1 ?hn2 ?hW); (case hW => walk_at "wk"); (case hn1 => decide +kernel); (case hn2 => decide +kernel)) | ((with_reducible refine' EdAt.mt ?hn1 ?hn2 ?hW); (case hW => walk_at "ed"); (case hn1 => decide +kernel); (case hn2 => decide +kernel)) | ((with_reducible refine' PlAt.mt ?hn1 ?hn2 ?hW); (case hW => walk_at "pl"); (case hn1 => decide +kernel); (case hn2 => decide +kernel)))
local macro_rules | `(tactic| walk_at "is") => `(tactic| first | with_reducible assumption | ((with_reducible refine' WkAt.is ?hW); (case hW => walk_at "wk")) | ((with_reducible refine' EdAt.is ?hW); (case hW => walk_at "ed")) | ((with_reducible refine' PlAt.is ?hW); (case hW => walk_at "pl")))
local macro_rules | `(tactic| walk_at "ic") => `(tactic| first
  | ((with_reducible show CMul _ _); first | exact Or.inl ⟨by decide, by decide⟩ | exact Or.inr ⟨by decide, by decide⟩ | exact Or.inl ⟨by omega, by omega⟩ | exact Or.inr ⟨by omega, by omega⟩)
  | ((with_reducible show CDiv _ _); first | exact ⟨by decide, by decide⟩ | exact ⟨by omega, by omega⟩)
  | ((with_reducible show CPow _ _); first | exact ⟨by decide, by decide, by decide⟩ | exact ⟨by decide, by decide, by omega⟩)
  | (show (0 : Int) < _; first | decide | omega))
local macro_rules | `(tactic| walk_at "s1") => `(tactic| first
  | with_reducible refine k_seq ?_
  | with_reducible refine k_set ?_
  | with_reducible refine k_asg ?_
  | with_reducible refine k_par ?_
  | with_reducible refine k_par2 ?_
  | with_reducible refine k_drop ?_
  | with_reducible refine k_ret ?_
  | with_reducible refine k_next ?_
  | with_reducible refine k_if ?_
  | ((with_reducible refine' k_aug ?hv ?_); (case hv => exact rfl))
  | with_reducible refine k_ipI ?_
  | with_reducible refine k_gname ?_
  | with_reducible refine k_gsub ?_
  | ((with_reducible refine' k_gtup ?hv ?hw ?_); (case hv => walk_at "st"); (case hw => rfl))
  | with_reducible refine k_gcons ?_
  | with_reducible refine k_gnil ?_
  | with_reducible refine k_test ?_
  | with_reducible refine k_B ?_
  | with_reducible refine k_blE ?_
  | with_reducible refine k_and ?_
  | with_reducible refine k_or ?_
  | with_reducible refine k_not ?_
  | with_reducible refine iteT ?_
  | with_reducible refine iteF ?_
  | with_reducible refine iteNT ?_
  | with_reducible refine iteNF ?_
  | ((with_reducible refine' k_var ?hv ?_); (case hv => exact rfl))
  | with_reducible refine k_c ?_
  | with_reducible refine k_op ?_
  | with_reducible refine k_un ?_
  | with_reducible refine k_U ?_
  | with_reducible refine k_I0 ?_
  | ((with_reducible refine' k_I ?hv ?_); (case hv => walk_at "ic"))
  | with_reducible refine k_eqI ?_
  | with_reducible refine k_neI ?_
  | with_reducible refine k_eqS ?_
  | with_reducible refine k_neS ?_
  | with_reducible refine k_eqB ?_
  | with_reducible refine k_neB ?_
  | with_reducible refine k_for ?_
  | with_reducible refine k_iE ?_
  | with_reducible refine k_iA ?_
  | ((with_reducible refine' k_itl ?hv ?_); (case hv => walk_at "sl"))
  | ((with_reducible refine' k_itt ?hv ?_); (case hv => walk_at "st"))
  | with_reducible refine k_its ?_
  | ((with_reducible refine' k_rg1n ?hv ?_); (case hv => first | decide | omega))
  | ((with_reducible refine' k_rg1 ?hv ?hw ?_); (case hv => first | decide | omega); (case hw => first | decide | omega))
  | ((with_reducible refine' k_inS ?hv ?_); (case hv => walk_at "sa"))
  | ((with_reducible refine' k_inI ?hv ?_); (case hv => walk_at "sa"))
  | ((with_reducible refine' k_ninS ?hv ?_); (case hv => walk_at "sa"))
  | ((with_reducible refine' k_ninI ?hv ?_); (case hv => walk_at "sa"))
  | ((with_reducible refine' k_zipl ?hv ?hw ?_); (case hv => walk_at "sl"); (case hw => walk_at "sl"))
  | with_reducible refine k_nil ?_
  | with_reducible refine k_cons ?_
  | with_reducible refine k_cb ?_
  | with_reducible refine k_call ?_
  | with_reducible refine k_lst ?_
  | with_reducible refine k_tup ?_
  | with_reducible refine k_ifx ?_
  | with_reducible refine k_andv ?_
  | with_reducible refine k_orv ?_
  | with_reducible refine k_notv ?_
  | with_reducible refine k_inti ?_
  | with_reducible refine k_intb ?_
  | with_reducible refine k_sl ?_
  | with_reducible refine k_nopart ?_
  | with_reducible refine k_part ?_
  | with_reducible refine k_parti ?_
  | ((with_reducible refine' k_lenl ?hv ?_); (case hv => walk_at "sl"))
  | ((with_reducible refine' k_lent ?hv ?_); (case hv => walk_at "st"))
  | ((with_reducible refine' k_lens ?hv ?_); (case hv => exact szl (by walk_at "ln")))
  | ((with_reducible refine' k_lena ?hv ?_); (case hv => walk_at "sa"))
  | ((with_reducible refine' k_ixl ?hv ?hn ?_); (case hv => walk_at "sl"); (case hn => first | rfl | assumption))
  | ((with_reducible refine' k_ixt ?hv ?hn ?_); (case hv => walk_at "st"); (case hn => first | rfl | assumption))
  | ((with_reducible refine' k_ixa ?hv ?hn ?_); (case hv => walk_at "sa"); (case hn => first | rfl | assumption))
  | with_reducible refine k_chain ?_
  | ((with_reducible refine' k_isi ?hv ?hw ?_); (case hv => walk_at "ty"); (case hw => walk_at "kb"))
  | ((with_reducible refine' k_isi2 ?hb ?hp ?hv ?hw ?hx ?_); (case hp => walk_at "gt"); (case hv => walk_at "ty"); (case hw => walk_at "kb"); (case hx => walk_at "kb"); (case hb => first | exact or_t | exact or_f))
  | ((with_reducible refine' k_all ?hv ?_); (case hv => walk_at "gt"))
  | ((with_reducible refine' k_any ?hv ?_); (case hv => walk_at "gt"))
  | with_reducible refine k_insign ?_
  | with_reducible refine k_fldR ?_
  | ((with_reducible refine' k_fl ?hv ?_); (case hv => walk_at "fl"))
  | with_reducible refine k_sfld ?_
  | with_reducible refine k_meth ?_
  | ((with_reducible refine' k_mt ?hv ?_); (case hv => walk_at "mt"))
  | with_reducible refine k_make ?_
  | ((with_reducible refine' k_own ?hv ?hw ?_); (case hv => walk_at "is"); (case hw => walk_at "is"))
  | ((with_reducible refine' k_ownin ?hv ?_); (case hv => walk_at "is"))
  | ((with_reducible refine' k_lenO ?hv ?_); (case hv => walk_at "is"))
  | with_reducible refine k_prop ?_
  | ((with_reducible refine' k_pr ?hv ?_); (case hv => walk_at "is"))
  | ((with_reducible refine' k_ownI ?hv ?_); (case hv => walk_at "is"))
  | ((with_reducible refine' k_ownR ?hv ?_); (case hv => walk_at "is"))
  | with_reducible refine k_mx ?_
  | with_reducible refine k_mn ?_
  | with_reducible refine k_lrg ?_
  | with_reducible refine k_rgt ?_
  | with_reducible refine k_rgti ?_
  | with_reducible refine k_bm ?_
  | with_reducible refine k_bm0 ?_
  | with_reducible refine k_tys ?_
  | ((with_reducible refine' k_tyl ?hv ?_); (case hv => walk_at "sl"))
  | ((with_reducible refine' k_ext ?hv ?hw ?hn ?_); (case hv => walk_at "gt"); (case hw => walk_at "gt"); (case hn => walk_at "ln"))
  | ((with_reducible refine' k_app ?hv ?hn ?_); (case hv => walk_at "gt"); (case hn => walk_at "ln"))
  | ((with_reducible refine' k_popat ?hv ?hn ?hw ?_); (case hv => walk_at "gt"); (case hn => with_reducible assumption); (case hw => walk_at "ln"))
  | with_reducible refine k_lc ?_
  | with_reducible refine k_yes0 ?_
  | ((with_reducible show wipe _ _ = wipe _ _ ∧ _); refine ⟨rfl, ?_⟩)
  | ((with_reducible refine' k_adds ?hv ?_); (case hv => walk_at "ln"))
  | ((with_reducible refine' k_st1 ?hv ?_); (case hv => walk_at "gt"))
  | ((with_reducible refine' k_st2 ?hv ?_); (case hv => walk_at "gt"))
  | ((with_reducible refine' k_st3 ?hv ?_); (case hv => walk_at "gt"))
  | ((with_reducible refine' k_setl ?hv ?hn ?_); (case hv => walk_at "gt"); (case hn => rfl)))
local macro_rules | `(tactic| walk_at "put") => `(tactic| ((refine' ⟨_, ?ha, sz ?hb, ?_⟩); (case ha => walk_at "gt"); (case hb => walk_at "ln")))
local macro_rules | `(tactic| walk_at "go") => `(tactic| repeat (walk_at "s1"))
section
set_option maxRecDepth 100000
set_option maxHeartbeats 2000000

def top (i : Nat) : Stmt := PySem.Challenge.pw_leafmarks_k24_rule_texts_refused.main.body.getD i (.Pass ⟨0, 0, 0, 0⟩)
abbrev s_law_fresh : Stmt := top 25
theorem sc_law_fresh : FnScope ["_law_script"] ["_law_script"] (defScope s_law_fresh) := ⟨rfl, rfl, rfl, by decide +kernel, rfl, by decide +kernel, by decide +kernel⟩
abbrev s_law_fill : Stmt := top 26
theorem sc_law_fill : FnScope ["_law_state", "_law_cells", "_law_nth", "_law_seed", "_law_k", "_law_prime", "_law_far"] ["_law_state"] (defScope s_law_fill) := ⟨rfl, rfl, rfl, by decide +kernel, rfl, by decide +kernel, by decide +kernel⟩
abbrev s_law_take : Stmt := top 27
theorem sc_law_take : FnScope ["_law_state", "_law_many", "_law_laps", "_law_digit"] ["_law_state", "_law_many"] (defScope s_law_take) := ⟨rfl, rfl, rfl, by decide +kernel, rfl, by decide +kernel, by decide +kernel⟩
abbrev s_law_one : Stmt := top 28
theorem sc_law_one : FnScope ["_law_state", "_law_things"] ["_law_state", "_law_things"] (defScope s_law_one) := ⟨rfl, rfl, rfl, by decide +kernel, rfl, by decide +kernel, by decide +kernel⟩
section
variable {P : Program} {w : World} {K : PySem.W.Frag} {mg : Str → Option Value} {base : Heap}

/-- where a state of draws stands: its list, the cells' list -/
structure Ds where
  st : Addr
  c : Addr
/-- a state of draws stands there -/
def Dr (H : Hp) (S : Ds) : Prop := ∃ (n r : Int) (b : Bool) (cells : List Int),
  H S.st = some (.lst [.ref S.c, .int n, .int r, .bl b]) ∧ H S.c = some (.lst (cells.map V.int)) ∧ 0 ≤ n ∧ 0 ≤ r ∧ cells.length ≤ 63
theorem cell_ne {H : Hp} {st c : Addr} {n r : Int} {b : Bool} {cells : List Int} (h1 : H st = some (.lst [.ref c, .int n, .int r, .bl b])) (h2 : H c = some (.lst (cells.map V.int))) : c ≠ st := by
  refine ne_of h2 h1 fun e => ?_
  have e' := HO.lst.inj e
  cases cells with
  | nil => cases e'
  | cons a l =>
    rw [List.map_cons] at e'
    injection e' with e1 _
    cases e1
theorem Dr.same {H H' : Hp} {S : Ds} (s : Same H H') (d : Dr H S) : Dr H' S := by
  obtain ⟨n, r, b, cells, h1, h2, h3⟩ := d
  exact ⟨n, r, b, cells, s _ _ h1, s _ _ h2, h3⟩
theorem Dr.new {H : Hp} {S : Ds} {p : Addr} {o : HO} (d : Dr H S) (np : H p = none) : Dr (upd H p o) S := by
  obtain ⟨n, r, b, cells, h1, h2, h3⟩ := d
  exact ⟨n, r, b, cells, upd_new h1 np, upd_new h2 np, h3⟩
theorem Dr.ne {H : Hp} {S : Ds} {p : Addr} (d : Dr H S) (np : H p = none) : p ≠ S.st := by
  obtain ⟨n, r, b, cells, h1, _⟩ := d
  exact (ne_of_none h1 np).symm
theorem Dr.nc {H : Hp} {S : Ds} {p : Addr} (d : Dr H S) (np : H p = none) : p ≠ S.c := by
  obtain ⟨n, r, b, cells, h1, h2, _⟩ := d
  exact (ne_of_none h2 np).symm
/-- another object changes -/
theorem Dr.mut {H H0 : Hp} {S : Ds} {p : Addr} {o : HO} (d : Dr H S) (d0 : Dr H0 S) (np : H0 p = none) : Dr (upd H p o) S := by
  have n1 := d0.ne np
  have n2 := d0.nc np
  obtain ⟨n, r, b, cells, h1, h2, h3⟩ := d
  exact ⟨n, r, b, cells, upd_old h1 n1.symm, upd_old h2 n2.symm, h3⟩
theorem Fr.none {H H' : Hp} {S : Ds} {p : Addr} (f : Fr S.st H H') (d : Dr H' S) (n : H' p = none) : H p = none := by
  cases e : H p with
  | none => rfl
  | some o =>
    by_cases q : p = S.st
    · subst q
      obtain ⟨_, _, _, _, h1, _⟩ := d
      rw [h1] at n; cases n
    · rw [f _ _ q e] at n; cases n

def spFresh (K : PySem.W.Frag) : Sp := fun vs H Q _ => ∃ (a : Addr) (ns : List Int), vs = [.ref a] ∧ SqL K H a (ns.map V.int) ∧ ns.length ≤ 63 ∧
  ∀ S H', Same H H' → H S.st = none → H S.c = none → Dr H' S → Q (.ref S.st) H'
theorem cutV_upto {xs : List V} {n : Nat} (h : xs.length ≤ n) : cutV xs none (some (n : Int)) = xs := by
  unfold cutV
  rw [HT.sIx_none, HT.sIx_nat, List.drop_zero, Nat.sub_zero, Nat.min_eq_right h, List.take_length]
theorem ok_fresh (D : Def K mg "_law_fresh" s_law_fresh) : Cal P w K mg base 1 "_law_fresh" ["_law_script"] (spFresh K) := by
  refine Cal.of D sc_law_fresh (fun _ _ _ _ _ _ us hl => match us, hl with | [_], _ => rfl) (fun vs H Q E h => ?_) (fun f cdv A outer s H vs Q E hr h => ?_)
  · obtain ⟨a, ns, rfl, _⟩ := h; rfl
  · obtain ⟨a, ns, rfl, hS, hl, k⟩ := h
    refine ⟨_, (pss_one (ps_ret (pe_lst (pa_cons (pe_slice (y_list K) (pv 0) po_none (po_some pe_int)) (pa_cons pe_int (pa_cons pe_int (pa_cons pe_bl pa_nil))))))), ?_⟩
    walk_at "go"
    refine k_sll hS fun c nc => ?_
    walk_at "go"
    refine ⟨Nat.le_of_ble_eq_true rfl, fun st nst => ?_⟩
    have e : cutV (ns.map V.int) none (some ((63 : Nat) : Int)) = ns.map V.int := cutV_upto (by rw [List.length_map]; exact hl)
    have nst' : H st = none := by
      cases q : H st with
      | none => rfl
      | some o => rw [upd_new q nc] at nst; cases nst
    refine k ⟨st, c⟩ _ (fun b o hb => upd_new (upd_new hb nc) nst) nst' nc ⟨0, 0, false, ns, upd_same, ?_, Int.le_refl _, Int.le_refl _, hl⟩
    show upd _ st _ c = _
    rw [upd_ne (ne_of_none upd_same nst), upd_same]
    exact congrArg (fun z => some (HO.lst z)) e

/-! ### fill -/
theorem at_lt {xs : List V} {k : Int} (h0 : 0 ≤ k) (h1 : k < xs.length) : ∃ x, x ∈ xs ∧ atI xs k = some x := by
  have e : xs[k.toNat]? = some (xs[k.toNat]'(by omega)) := List.getElem?_eq_getElem (by omega)
  have q := atI_nat e
  rw [Int.toNat_of_nonneg h0] at q
  exact ⟨_, List.getElem_mem _, q⟩
theorem at_mod {xs : List Int} (n : Int) (h : (0 : Int) < ((xs.map V.int).length : Nat)) : ∃ z, atI (xs.map V.int) (n % ((xs.map V.int).length : Nat)) = some (.int z) := by
  obtain ⟨x, hx, e⟩ := at_lt (xs := xs.map V.int) (k := n % ((xs.map V.int).length : Nat)) (Int.emod_nonneg _ (by omega)) (Int.emod_lt_of_pos _ h)
  obtain ⟨z, _, rfl⟩ := List.mem_map.mp hx
  exact ⟨z, e⟩
def spFill : Sp := fun vs H Q _ => ∃ S : Ds, vs = [.ref S.st] ∧ Dr H S ∧ ∀ H', Fr S.st H H' → Dr H' S → Q .non H'
def primes : List V := [.int 2147483647, .int 2147483629, .int 2147483587, .int 2147483579, .int 2147483563]
theorem ok_fill (B : Bn mg) (D : Def K mg "_law_fill" s_law_fill) : Cal P w K mg base 1 "_law_fill" ["_law_state"] spFill := by
  refine Cal.of D sc_law_fill (fun _ _ _ _ _ _ us hl => match us, hl with | [_], _ => rfl) (fun vs H Q E h => ?_) (fun f cdv A outer s H vs Q E hr h => ?_)
  · obtain ⟨a, rfl, _⟩ := h; rfl
  · obtain ⟨⟨st, c⟩, rfl, ⟨n, r, b, cells, h1, h2, hn, hr0, hcl⟩, k⟩ := h
    replace h1 : H st = some (.lst [.ref c, .int n, .int r, .bl b]) := h1
    replace h2 : H c = some (.lst (cells.map V.int)) := h2
    replace k : ∀ H', Fr st H H' → Dr H' ⟨st, c⟩ → Q .non H' := k
    have nc := cell_ne h1 h2
    have nc' := nc.symm
    have hcl' : (cells.map V.int).length ≤ 63 := by rw [List.length_map]; exact hcl
    refine ⟨_, (pss_cons (ps_par (i := 1) (j := 2) (by rfl) sc_law_fill.nd rfl rfl (by decide) rfl rfl (pa_cons (pe_ix (x_list K) (pv 0) pe_int (fun _ _ => rfl)) (pa_cons (pe_ix (x_list K) (pv 0) pe_int (fun _ _ => rfl)) pa_nil)) (by rfl))
      (pss_cons (ps_set (i := 3) sc_law_fill.nd rfl (Or.inl rfl) (pe_op op_add (pe_op op_mul pe_int (pv 2)) pe_int))
      (pss_cutL (ps_if (pt_cmpR op_gt (pe_callB (n_len K) (by rfl) B.len PySem.boot_len (pa_cons (pv 1) pa_nil)) pe_int (nomark _)) (pss_one (ps_set (i := 3) sc_law_fill.nd rfl (Or.inl rfl) (pe_op op_add (pe_op op_mul pe_int (pe_op op_fdiv (pv 2) (pe_callB (n_len K) (by rfl) B.len PySem.boot_len (pa_cons (pv 1) pa_nil)))) (pe_ix (x_list K) (pv 1) (pe_op op_mod (pe_callTy c_int (by rfl) B.int (by decide +kernel) (pa_cons (pv 2) pa_nil)) (pe_callB (n_len K) (by rfl) B.len PySem.boot_len (pa_cons (pv 1) pa_nil))) (fun _ _ => rfl))))) pss_nil)
      (pss_cons (ps_asg (pe_op op_add (pv 2) pe_int) (pg_sub (pv 0) pe_int set_list))
      (pss_cutL (ps_asg (pe_or (pe_cmpR op_ge (pv 2) (pe_callB (n_len K) (by rfl) B.len PySem.boot_len (pa_cons (pv 1) pa_nil)) (nomark _)) (pe_one (pe_cmpR op_lt (pv 3) (pe_op op_pow pe_int pe_int) (nomark _)))) (pg_sub (pv 0) pe_int set_list))
      (pss_cons (ps_asg (pe_op op_sub (pv 3) (pe_op op_pow pe_int pe_int)) (pg_sub (pv 0) pe_int set_list))
      (pss_one (ps_if (pt_val (pe_ix (x_list K) (pv 0) pe_int (fun _ _ => rfl))) (pss_cons (ps_asg pe_int (pg_sub (pv 0) pe_int set_list))
      (pss_one (ps_for PassesOwn.never rfl (q_enum K B.enumerate (pa_cons (pe_tup (pa_cons pe_int (pa_cons pe_int (pa_cons pe_int (pa_cons pe_int (pa_cons pe_int pa_nil)))))) pa_nil)) (pg_tup rfl (pgs_cons (pg_name (i := 4) sc_law_fill.nd rfl (Or.inl rfl)) (pgs_cons (pg_name (i := 5) sc_law_fill.nd rfl (Or.inl rfl)) pgs_nil))) (pss_cons (ps_set (i := 6) sc_law_fill.nd rfl (Or.inl rfl) (pe_op op_mod (pe_callTy c_int (by rfl) B.int (by decide +kernel) (pa_cons (pe_op op_mul (pe_op op_add (pe_op op_add (pv 3) (pe_op op_mul (pe_op op_mul pe_int (pv 4)) (pv 4))) (pe_op op_mul pe_int (pv 4))) (pe_op op_add pe_int (pe_op op_mul pe_int (pv 4)))) pa_nil)) (pv 5)))
      (pss_one (ps_asg (pe_op op_add (pe_op op_mul (pe_ix (x_list K) (pv 0) pe_int (fun _ _ => rfl)) (pv 5)) (pe_op op_mod (pe_callTy c_int (by rfl) B.int (by decide +kernel) (pa_cons (pe_op op_pow (pv 6) pe_int) pa_nil)) (pv 5))) (pg_sub (pv 0) pe_int set_list))))))) pss_nil)))))))), ?_⟩
    walk_at "go"
    refine ⟨fun σ' H' => H' = H ∧ ∃ seed, σ' = [some (.ref st), some (.ref c), some (.int n), some (.int seed), none, none, none], ?_, ?_⟩
    · walk_at "go"
      refine k_dec (fun h => ?_) (fun h => ⟨rfl, _, rfl⟩)
      obtain ⟨z, hz⟩ := at_mod n h
      walk_at "go"
      exact ⟨rfl, _, rfl⟩
    · rintro σ' H1 ⟨rfl, seed, rfl⟩
      walk_at "go"
      refine ⟨fun σ' H' => ∃ b', σ' = [some (.ref st), some (.ref c), some (.int n), some (.int seed), none, none, none] ∧ H' = upd H1 st (.lst [.ref c, .int (n + 1), .int r, .bl b']) ∧ (b' = false → 10 ^ 18 ≤ seed), ?_, ?_⟩
      · walk_at "go"
        refine k_dec (fun h => ?_) (fun h => ?_)
        · walk_at "go"
          exact ⟨true, rfl, upd_upd, fun e => nomatch e⟩
        · walk_at "go"
          refine ⟨decide (seed < 10 ^ 18), rfl, upd_upd, fun e => ?_⟩
          have := of_decide_eq_false e
          omega
      · rintro σ' H2 ⟨b', rfl, rfl, hb'⟩
        walk_at "go"
        refine k_bool (fun h => ?_) (fun h => ?_)
        · subst h
          walk_at "go"
          refine ⟨Nat.le_of_ble_eq_true rfl, fun tp ntp => ?_⟩
          have ntp' : tp ≠ st := by
            intro e
            rw [e, upd_same] at ntp
            cases ntp
          walk_at "go"
          refine for_enum (xs := primes) (H0 := fun b => if b = tp then some (.tup primes) else none) (sa_t (if_pos rfl)) (fun i σ' H' => ∃ v4 v5 v6 r', σ' = [some (.ref st), some (.ref c), some (.int n), some (.int seed), v4, v5, v6] ∧ H' st = some (.lst [.ref c, .int (n + 1), .int r', .bl true]) ∧ 0 ≤ r' ∧ Fr st H1 H' ∧ H' tp = some (.tup primes)) ⟨_, _, _, 0, rfl, by walk_at "gt", Int.le_refl _, ?_, upd_same⟩ ?_ ?_ ?_
          · exact Fr.new (Fr.at (Fr.at (Fr.at Fr.refl))) ntp
          · rintro i σ' H' _ ⟨_, _, _, _, _, _, _, _, h⟩ u hu
            exact rd_one h hu
          · rintro i x2 σ' H' T hi ⟨v4, v5, v6, r', rfl, g1, g2, g3, g4⟩ nT e2
            obtain ⟨p, rfl, hp0, hp1⟩ : ∃ p : Int, x2 = .int p ∧ 0 < p ∧ p < 2 ^ 40 := by
              have : x2 ∈ primes := List.mem_of_getElem? e2
              simp only [primes, List.mem_cons, List.not_mem_nil, or_false] at this
              rcases this with h | h | h | h | h <;> exact ⟨_, h, by decide, by decide⟩
            have nT' : T ≠ st := (ne_of_none g1 nT).symm
            have hi5 : i < 5 := hi
            walk_at "go"
            refine k_I ⟨by decide, by decide, ?_⟩ ?_
            · have q1 := Int.emod_nonneg ((seed + 10007 * (i : Int) * (i : Int) + 101 * (i : Int)) * (48271 + 2 * (i : Int))) (show p ≠ 0 by omega)
              have q2 := Int.emod_lt_of_pos ((seed + 10007 * (i : Int) * (i : Int) + 101 * (i : Int)) * (48271 + 2 * (i : Int))) hp0
              omega
            walk_at "go"
            refine ⟨_, _, _, _, rfl, upd_same, ?_, ?_, ?_⟩
            · exact Int.add_nonneg (Int.mul_nonneg g2 (by omega)) (Int.emod_nonneg _ (by omega))
            · exact Fr.at (Fr.new g3 nT)
            · exact upd_old (upd_new g4 nT) ntp'
          · rintro σ' H' ⟨v4, v5, v6, r', rfl, g1, g2, g3, g4⟩
            exact k _ g3 ⟨n + 1, r', true, cells, g1, g3 _ _ nc h2, by omega, g2, hcl⟩
        · walk_at "go"
          rw [upd_upd]
          exact k _ (Fr.at Fr.refl) ⟨n + 1, _, b', cells, upd_same, upd_old h2 nc, by omega, by have := hb' h; show (0 : Int) ≤ seed - 10 ^ 18; omega, hcl⟩

/-! ### take -/
def spTake : Sp := fun vs H Q _ => ∃ (S : Ds) (m : Int), vs = [.ref S.st, .int m] ∧ Dr H S ∧ 1 ≤ m ∧ m < 1073741824 ∧
  ∀ (d : Nat) H', (d : Int) < m → Fr S.st H H' → Dr H' S → Q (.int (d : Nat)) H'
theorem ok_take (B : Bn mg) (C_law_fill : Cal P w K mg base 1 "_law_fill" ["_law_state"] spFill) (D : Def K mg "_law_take" s_law_take) : Cal P w K mg base 2 "_law_take" ["_law_state", "_law_many"] spTake := by
  refine Cal.of D sc_law_take (fun _ _ _ _ _ _ us hl => match us, hl with | [_, _], _ => rfl) (fun vs H Q E h => ?_) (fun f cdv A outer s H vs Q E hr h => ?_)
  · obtain ⟨a, m, rfl, _⟩ := h; rfl
  · obtain ⟨⟨st, c⟩, m, rfl, D0, hm1, hm2, k⟩ := h
    replace k : ∀ (d : Nat) H', (d : Int) < m → Fr st H H' → Dr H' ⟨st, c⟩ → Q (.int (d : Nat)) H' := k
    refine ⟨_, (pss_cons (ps_set (i := 2) sc_law_take.nd rfl (Or.inl rfl) pe_int)
      (pss_cons (ps_while PassesOwn.never (pt_ans (PW.pt (pw_and (pt_cmpR op_lt (pv 2) pe_int (nomark _)) (pw_and1 (PW.pt (pw_or (pt_cmpR op_eq (pe_ix (x_list K) (pv 0) pe_int (fun _ _ => rfl)) pe_int (nomark _)) (pw_or1 (PW.pt (pw_and (pt_val (pe_ix (x_list K) (pv 0) pe_int (fun _ _ => rfl))) (pw_and1 (pt_cmpR op_lt (pe_ix (x_list K) (pv 0) pe_int (fun _ _ => rfl)) (pe_op op_mul (pv 1) pe_int) (nomark _)))))))))))) (pss_cons (ps_expr (pe_fn C_law_fill hr (by decide) (pa_cons (pv 0) pa_nil)))
      (pss_cons (ps_aug (i := 2) sc_law_take.nd rfl (Or.inl rfl) pe_int ip_add)
      (pss_one (ps_if (pt_ans (PW.pt (pw_and (pt_val (pe_ix (x_list K) (pv 0) pe_int (fun _ _ => rfl))) (pw_and1 (pt_cmpR op_lt (pe_ix (x_list K) (pv 0) pe_int (fun _ _ => rfl)) (pe_op op_mul (pv 1) pe_int) (nomark _)))))) (pss_one (ps_asg (pe_op op_add (pe_ix (x_list K) (pv 0) pe_int (fun _ _ => rfl)) (pe_op op_mul (pe_op op_mul (pv 1) pe_int) (pe_op op_add pe_int (pe_op op_mod (pe_callTy c_int (by rfl) B.int (by decide +kernel) (pa_cons (pe_ix (x_list K) (pv 0) pe_int (fun _ _ => rfl)) pa_nil)) pe_int)))) (pg_sub (pv 0) pe_int set_list))) pss_nil)))))
      (pss_cons (ps_set (i := 3) sc_law_take.nd rfl (Or.inl rfl) (pe_op op_mod (pe_callTy c_int (by rfl) B.int (by decide +kernel) (pa_cons (pe_ix (x_list K) (pv 0) pe_int (fun _ _ => rfl)) pa_nil)) (pv 1)))
      (pss_cons (ps_asg (pe_op op_fdiv (pe_ix (x_list K) (pv 0) pe_int (fun _ _ => rfl)) (pv 1)) (pg_sub (pv 0) pe_int set_list))
      (pss_one (ps_ret (pv 3))))))), ?_⟩
    walk_at "go"
    refine ⟨fun j σ' H' => ∃ laps : Int, 0 ≤ laps ∧ j = (64 - laps).toNat ∧ σ' = [some (.ref st), some (.int m), some (.int laps), none] ∧ Fr st H H' ∧ Dr H' ⟨st, c⟩, ⟨64, 0, Int.le_refl _, rfl, rfl, Fr.refl, D0⟩, ?_⟩
    rintro j σ' H1 ⟨laps, hl0, rfl, rfl, F1, D1⟩
    obtain ⟨n, r, b, cells, h1, h2, hn, hr0, hcl⟩ := id D1
    replace h1 : H1 st = some (.lst [.ref c, .int n, .int r, .bl b]) := h1
    replace h2 : H1 c = some (.lst (cells.map V.int)) := h2
    have nc := cell_ne h1 h2
    refine ⟨decide (laps < 64) && (decide (r = 0) || (b && decide (r < m * 4096))), fun Q' q => ?_, ?_⟩
    · walk_at "go"
      refine k_dec (fun hl => ?_) (fun hl => ?_)
      · rw [decide_eq_true hl, Bool.true_and] at q
        walk_at "go"
        refine k_dec (fun h => ?_) (fun h => ?_)
        · rw [decide_eq_true h, Bool.true_or] at q; exact q
        · rw [decide_eq_false h, Bool.false_or] at q
          walk_at "go"
          refine k_bool (fun h => ?_) (fun h => ?_)
          · rw [h, Bool.true_and] at q
            walk_at "go"
            exact q
          · rw [h, Bool.false_and] at q; exact q
      · rw [decide_eq_false hl, Bool.false_and] at q; exact q
    · refine k_bool (fun hb => ?_) (fun hb => ?_)
      · have hl : laps < 64 := by
          rw [Bool.and_eq_true] at hb
          exact of_decide_eq_true hb.1
        refine ⟨_, fun σ' H' h => h, ?_⟩
        walk_at "go"
        refine ⟨⟨st, c⟩, rfl, D1, fun H2 F2 D2 => ?_⟩
        replace F2 : Fr st H1 H2 := F2
        obtain ⟨n2, r2, b2, cells2, g1, g2, gn, gr0, gcl⟩ := id D2
        replace g1 : H2 st = some (.lst [.ref c, .int n2, .int r2, .bl b2]) := g1
        replace g2 : H2 c = some (.lst (cells2.map V.int)) := g2
        walk_at "go"
        refine ⟨b2 && decide (r2 < m * 4096), fun Q' q => ?_, ?_⟩
        · walk_at "go"
          refine k_bool (fun h => ?_) (fun h => ?_)
          · rw [h, Bool.true_and] at q
            walk_at "go"
            exact q
          · rw [h, Bool.false_and] at q; exact q
        · refine k_bool (fun hc => ?_) (fun hc => ?_)
          · walk_at "go"
            refine ⟨(64 - (laps + 1)).toNat, by omega, laps + 1, by omega, rfl, rfl, Fr.at (F1.trans F2), ⟨n2, _, b2, cells2, upd_same, upd_old g2 (cell_ne g1 g2), gn, ?_, gcl⟩⟩
            exact Int.add_nonneg gr0 (Int.mul_nonneg (by omega) (by omega))
          · walk_at "go"
            exact ⟨(64 - (laps + 1)).toNat, by omega, laps + 1, by omega, rfl, rfl, F1.trans F2, D2⟩
      · walk_at "go"
        have q1 := Int.emod_nonneg r (show m ≠ 0 by omega)
        have q2 := Int.emod_lt_of_pos r (show 0 < m by omega)
        have e : (((r % m).toNat : Nat) : Int) = r % m := Int.toNat_of_nonneg q1
        have q := k (r % m).toNat _ (by rw [e]; exact q2) (Fr.at F1) ⟨n, r / m, b, cells, upd_same, upd_old h2 nc, hn, Int.ediv_nonneg hr0 (by omega), hcl⟩
        rw [e] at q
        exact q

/-! ### one -/
end
end
/-! Properties by one fact each; max and min of two. -/
section
set_option maxRecDepth 100000
set_option maxHeartbeats 2000000
open PySem PySem.Spec PyProof.Rows L2
def DefP (K : PySem.W.Frag) (C : Addr) (m q : Str) (st : Stmt) : Prop :=
  ∃ (p g : Addr) (fd : FuncData), PropOf K C m p g ∧ FunD K m q (defArgs st) (defBody st) (defScope st) [] [] g fd
/-- the property m of the class at C keeps sp -/
def CalP (P : Program) (w : World) (K : PySem.W.Frag) (mg : Str → Option Value) (base : Heap) (k : Nat) (C : Addr) (m : Str) (ps : List Str) (sp : Sp) : Prop :=
  ∃ (p g : Addr) (fd : FuncData), PropOf K C m p g ∧ Binds K fd ps [] ∧ FnOk P w K mg base CX0 k g fd ps sp
section
variable {P : Program} {w : World} {K : PySem.W.Frag} {mg : Str → Option Value} {base : Heap}
theorem CalP.of {C : Addr} {m q : Str} {st : Stmt} {N ps : List Str} {k : Nat} {sp : Sp} (D : DefP K C m q st) (S : FnScope N ps (defScope st))
    (hb : ∀ (kV doc pm : Value) (an : Option Addr) (cdv ct : Value) (us : List Value), us.length = ps.length → bindArgs (PySem.W.fnOf m q (defArgs st) (defBody st) (defScope st) .none kV doc pm an cdv ct) ⟨us, []⟩ = pure (ps.zip us))
    (len : ∀ vs H Q E, sp vs H Q E → vs.length = ps.length)
    (hbody : ∀ (f : Addr) (cdv : Value) (A : Around) (outer : List Env) (s : Shared) (H : Hp) (vs : List V) (Q : VK) (E : XK), Room k (A.deeper (envOfC q (defScope st) s.heap.objs.size f cdv)) → sp vs H Q E →
      ∃ t, PSs (cxR P w K mg base N q (defScope st) f cdv A outer s H) (defBody st) t ∧ t { nx := fun _ H' => Q .non H', rt := Q } (start N vs) H) : CalP P w K mg base (k + 1) C m ps sp := by
  obtain ⟨p, f, fd, hm, F⟩ := D
  refine ⟨p, f, fd, hm, F.bindsN hb, F.ok S len fun cdv A outer s H vs Q E hr h => ?_⟩
  obtain ⟨t, h1, h2⟩ := hbody f cdv A outer s H vs Q E hr h
  exact ⟨t, PSs.nox h1, h2⟩
end
section
variable {X : Cx} {k j : Nat} {ps : List Str} {sp : Sp} {m : Str} {C : Addr} {e : Expr} {ta : TE} {pos : Pos}
end
def rProp (C : Addr) (sp : Sp) (x : V) (H1 : Hp) (Q : VK) : Prop := ∃ a dx fs, x = .ref a ∧ H1 a = some (.ins C dx fs) ∧ sp (.ref a :: []) H1 Q E0
section
variable {C : Addr} {sp : Sp} {σ : L2.St} {H : Hp} {Q : VK} {ta : TE}
theorem k_prop (h : ta σ H fun x H1 => rProp C sp x H1 Q) : tProp C sp [] E0 ta σ H Q := h
theorem k_pr {a : Addr} (ha : Is H a C) (h : sp [.ref a] H Q E0) : rProp C sp (.ref a) H Q := by
  obtain ⟨dx, fs, h1⟩ := ha
  exact ⟨a, dx, fs, rfl, h1, h⟩
def rMx : List V → Hp → VK → Prop := fun xs H Q => ∃ i j, xs = [.int i, .int j] ∧ Q (.int (if j > i then j else i)) H
def rMn : List V → Hp → VK → Prop := fun xs H Q => ∃ i j, xs = [.int i, .int j] ∧ Q (.int (if j < i then j else i)) H
theorem k_mx {i j : Int} (h : Q (.int (max i j)) H) : rMx [.int i, .int j] H Q := by
  refine ⟨i, j, rfl, ?_⟩
  have e : (if j > i then j else i) = max i j := by
    rw [Int.max_def]; split <;> split <;> omega
  rw [e]; exact h
theorem k_mn {i j : Int} (h : Q (.int (min i j)) H) : rMn [.int i, .int j] H Q := by
  refine ⟨i, j, rfl, ?_⟩
  have e : (if j < i then j else i) = min i j := by
    rw [Int.min_def]; split <;> split <;> omega
  rw [e]; exact h
end
end
/-! For the head: defs at given addresses (the getters of properties), facts in a row. -/
section
set_option maxRecDepth 100000
set_option maxHeartbeats 0
open PySem PySem.Spec PyProof.Rows L2
def pgA (K : PySem.W.Frag) (x m : Str) : Addr := match PySem.W.recIn K (He.ma K (He.ga K x) m) "property" with
  | some (.ref g :: _) => g
  | _ => 0
def fnA (K : PySem.W.Frag) (a : Addr) : He.FnW := match K.lookup a with
  | some ⟨_, _, .func fd, _⟩ => some (fd.name, fd.qualname, fd.params, fd.body, fd.scope, fd.globals, fd.closure, fd.builtins)
  | _ => none
def okA (K : PySem.W.Frag) (a : Addr) (q : Str) : Bool := PySem.W.keepIn K (.ref a) && (match K.lookup a with
  | some ⟨_, _, .func fd, _⟩ => PySem.W.codeIn K fd.code q && (He.dflB K fd.defaults [] && He.kwdB K fd.kwdefaults [])
  | _ => false)
theorem funA {K : PySem.W.Frag} {a : Addr} {x q : Str} {ps : Arguments} {b : List Stmt} {sc : Scope} (e : fnA K a = some (x, q, ps, .stmts b, sc, mainGlobals, [], builtinsNs)) (c : okA K a q = true) : ∃ fd, FunD K x q ps b sc [] [] a fd := by
  obtain ⟨kp, c2⟩ := He.ba c
  unfold fnA at e
  cases l : K.lookup a with
  | none =>
    rw [l] at c2
    cases c2
  | some o =>
    obtain ⟨oc, od, dt, osl⟩ := o
    rw [l] at c2 e
    cases dt with
    | func fd =>
      obtain ⟨n1, n2, n3, n4, n5, n6, n7, n8, n9, n10, n11, n12, n13, n14, n15⟩ := fd
      have e2 : (some (n1, n2, n3, n4, n5, n6, n7, n15) : He.FnW) = some (x, q, ps, .stmts b, sc, mainGlobals, [], builtinsNs) := e
      simp only [Option.some.injEq, Prod.mk.injEq] at e2
      obtain ⟨h1, h2, h3, h4, h5, h6, h7, h8⟩ := e2
      subst h1 h2 h3 h4 h5 h6 h7 h8
      have c3 : (PySem.W.codeIn K n13 n2 && (He.dflB K n8 [] && He.kwdB K n9 [])) = true := c2
      obtain ⟨k1, k2⟩ := He.ba c3
      obtain ⟨k3, k4⟩ := He.ba k2
      exact ⟨_, ⟨oc, od, n8, n9, n10, n11, n12, n13, n14, osl, rfl, l, k1, He.dflB_ok k3, He.kwdB_ok k4⟩, kp⟩
    | _ => cases c2
def prB (K : PySem.W.Frag) (x m : Str) : Bool := decide (PySem.W.findIn K (.ref (He.ga K x)) m = some (some (.ref (He.ma K (He.ga K x) m)))) && (decide (PySem.W.specialIn K (.ref (He.ma K (He.ga K x) m)) "__get__" = some (some (.builtin "property.__get__"))) &&
  (decide (PySem.W.takesIn K (.ref (He.ma K (He.ga K x) m)) = some true) && (match PySem.W.recIn K (He.ma K (He.ga K x) m) "property" with
    | some (.ref _ :: _) => true
    | _ => false)))
theorem prB_ok {K : PySem.W.Frag} {x m : Str} (c : prB K x m = true) : PropOf K (He.ga K x) m (He.ma K (He.ga K x) m) (pgA K x m) := by
  obtain ⟨c1, c⟩ := He.ba c
  obtain ⟨c2, c⟩ := He.ba c
  obtain ⟨c3, c4⟩ := He.ba c
  refine ⟨of_decide_eq_true c1, of_decide_eq_true c2, of_decide_eq_true c3, ?_⟩
  unfold pgA
  cases q : PySem.W.recIn K (He.ma K (He.ga K x) m) "property" with
  | none => rw [q] at c4; cases c4
  | some l =>
    rw [q] at c4
    cases l with
    | nil => cases c4
    | cons v rest =>
      cases v with
      | ref g => exact ⟨rest, rfl⟩
      | _ => cases c4
/-- an own error class over ValueError -/
def oexB (K : PySem.W.Frag) (C : Addr) : Bool := match K.lookup C with
  | some ⟨.type "type", _, .cls cd, sl⟩ => (match cd.mro, sl.toList with
    | .ref C' :: bm, [_, _, _, _, some (.builtin n), _] => C' == C && n == "ValueError.__new__" && !cd.hasDel && cd.hasDict && PySem.HandSPX.refsVE bm
    | _, _ => false)
  | _ => false
/-- a def as its object tells it, but for what it closes over -/
def fnC (K : PySem.W.Frag) (a : Addr) : He.FnW := match K.lookup a with
  | some ⟨_, _, .func fd, _⟩ => some (fd.name, fd.qualname, fd.params, fd.body, fd.scope, fd.globals, [], fd.builtins)
  | _ => none
def okD' (K : PySem.W.Frag) (C : Addr) (q file : Str) (cl : List (Str × Addr)) (dV cdv : Value) : Bool := PySem.W.codeIn K cdv q && decide (dV = .none) && (match cl with
  | [(n, c)] => n == "__class__" && (match K.lookup c with
    | some ⟨_, _, .cell (some (.ref C')), _⟩ => C' == C
    | _ => false)
  | _ => false) && (match cdv with
  | .ref cd => (match K.lookup cd with
    | some ⟨_, _, .fields vs, _⟩ => (match (vs[2]? : Option Value) with
      | some (Value.str f' _) => file == f'
      | _ => false)
    | _ => false)
  | _ => false)
def okC (K : PySem.W.Frag) (C a : Addr) (q file : Str) : Bool := match K.lookup a with
  | some ⟨_, _, .func fd, _⟩ => okD' K C q file fd.closure fd.defaults fd.code
  | _ => false
/-- all that is asked of the error class at C with the field f -/
def xiB (K : PySem.W.Frag) (C : Addr) (f q file : Str) : Bool := oexB K C && decide (PySem.W.findIn K (.ref C) "__setattr__" = some (some (.builtin "object.__setattr__"))) && decide (PySem.W.subIn K (.ref C) (.type "BaseException") = some true) && decide (PySem.W.typeIn K (.ref C) = some (.type "type")) && PySem.W.keepIn K (.ref C) &&
  xfB K C && decide (PySem.W.exmOne K (.ref C) (.ref C) = some true) && decide (PySem.W.findIn K (.ref C) f = some none) && decide (PySem.W.findIn K (.ref C) "__init__" = some (some (.ref (He.ma K C "__init__")))) && decide (PySem.W.typeIn K (.ref (He.ma K C "__init__")) = some (.type "function")) &&
  decide (PySem.W.ks_superIn K C C "__init__" = some (some (.builtin "ValueError.__init__"))) && decide (PySem.W.nsIn K cStatics "thirdparty.any" = some none) && decide (PySem.W.subIn K (.ref C) (.type "ValueError") = some true) && decide (PySem.W.mroIn K C (.ref C) = some true) && okC K C (He.ma K C "__init__") q file
/-- one fact of a row -/
theorem row_at {l : List Bool} (h : l.all id = true) (i : Nat) {b : Bool} (e : l[i]? = some b) : b = true := List.all_eq_true.mp h b (List.mem_of_getElem? e)
/-- the tables of the defs tf, as they lie behind the top -/
def TabsAt (tf : List He.Defn) (h : Heap) (K : PySem.W.Frag) : Prop := ∀ p ∈ tf, PySem.W.codeHdIn K (He.cT K p).1 (He.cT K p).2 = true ∧ K.lookup (He.cT K p).2 = none ∧ h.get? (He.cT K p).2 = some { cls := .none, data := .fields #[] }
theorem tabsAt_of {tf : List He.Defn} {h : Heap} {as : List Addr} (e : He.tabsB h.get? tf (He.frT h.get? as) = true) : TabsAt tf h (He.frT h.get? as) := fun p hp => by
  obtain ⟨h3, h4⟩ := He.ba (List.all_eq_true.mp e p hp)
  cases q : h.get? (He.cT (He.frT h.get? as) p).2 with
  | none => rw [q] at h4; cases h4
  | some o =>
    rw [q] at h4
    exact ⟨h3, He.frT_none q h4, by rw [He.emptyTab_eq h4]⟩
theorem TabsAt.keeps {tf : List He.Defn} {h h' : Heap} {K : PySem.W.Frag} (t : TabsAt tf h K) (k : ∀ b o, h.get? b = some o → h'.get? b = some o) : TabsAt tf h' K := fun p hp => ⟨(t p hp).1, (t p hp).2.1, k _ _ (t p hp).2.2⟩
/-- the tables with the names of their lambdas -/
def tabL (K : PySem.W.Frag) (tf : List He.Defn) : List (Addr × Str) := tf.map fun p => ((He.cT K p).2, (p.1 ++ ".<locals>.") ++ "<lambda>")
def tabUni (K : PySem.W.Frag) (tf : List He.Defn) : Bool := tf.all fun p => tf.all fun p' => !decide ((He.cT K p).2 = (He.cT K p').2) || decide (p.1 = p'.1)
theorem tabUni_ok {K : PySem.W.Frag} {tf : List He.Defn} (u : tabUni K tf = true) {p : He.Defn} (hp : p ∈ tf) : ∀ z ∈ tabL K tf, z.1 = (He.cT K p).2 → z.2 = (p.1 ++ ".<locals>.") ++ "<lambda>" := fun z hz e => by
  obtain ⟨p', hp', rfl⟩ := List.mem_map.mp hz
  have h1 := List.all_eq_true.mp (List.all_eq_true.mp u p' hp') p hp
  have h2 : decide ((He.cT K p').2 = (He.cT K p).2) = true := decide_eq_true e
  rw [h2] at h1
  have h3 : p'.1 = p.1 := of_decide_eq_true (by simpa using h1)
  show (p'.1 ++ ".<locals>.") ++ "<lambda>" = _
  rw [h3]
theorem code_of {K : PySem.W.Frag} {x q : Str} {ps : Arguments} {b : List Stmt} {sc : Scope} {fd : FuncData} (F : FunD K x q ps b sc [] [] (He.fAd K (x, none)) fd) : fd.code = .ref (He.cT K (x, none)).1 := by
  obtain ⟨oc, od, dV, kV, doc, pm, an, cdv, ct, osl, rfl, lk, hcd, _, _⟩ := F.ex
  obtain ⟨c, rfl⟩ := He.codeIn_ref hcd
  exact congrArg Value.ref (He.codeOf_eq lk rfl).symm
theorem tabs_nil {K : PySem.W.Frag} {tf : List He.Defn} {H : Hp} (h : ∀ p ∈ tf.map (He.cT K), H p.2 = some (.tbl #[])) : LamX.Tabs (tabL K tf) H := fun z hz => by
  obtain ⟨p, hp, rfl⟩ := List.mem_map.mp hz
  exact LamX.TabS.nil (h _ (List.mem_map.mpr ⟨p, hp, rfl⟩))
end
/-! For the head: written tuples and tables. -/
section
set_option maxRecDepth 100000
set_option maxHeartbeats 0
open PySem PySem.Spec PyProof.Rows L2
/-- the texts of a written tuple at a -/
def txB (K : PySem.W.Frag) (a : Addr) (us : List Str) : Bool := match K.lookup a with
  | some ⟨.type c, _, .seq its _, _⟩ => decide (c = "tuple") && (decide (its.size ≤ sizeLine) && He.relAll (us.map V.str) its.toList)
  | _ => false
theorem txB_ok {K : PySem.W.Frag} {a : Addr} {us : List Str} (h : txB K a us = true) : ∃ (o : Obj) (its : Array Value) (n : Nat), K.lookup a = some o ∧ o.cls = .type "tuple" ∧ o.data = .seq its n ∧ its.size ≤ sizeLine ∧ Vals (us.map V.str) its.toList := by
  unfold txB at h
  cases q : K.lookup a with
  | none =>
    rw [q] at h
    cases h
  | some o =>
    obtain ⟨oc, od, dt, osl⟩ := o
    rw [q] at h
    cases oc with
    | type c =>
      cases dt with
      | seq its n =>
        obtain ⟨h1, h2⟩ := He.ba (show (decide (c = "tuple") && (decide (its.size ≤ sizeLine) && He.relAll (us.map V.str) its.toList)) = true from h)
        obtain ⟨h3, h4⟩ := He.ba h2
        exact ⟨_, its, n, rfl, congrArg Value.type (of_decide_eq_true h1), rfl, of_decide_eq_true h3, He.relAll_ok h4⟩
      | _ => cases h
    | _ => cases dt <;> cases h
/-- the address that the written table at d has at a key -/
def atB (K : PySem.W.Frag) (d : Addr) (z : Str) : Addr := match PySem.W.nsIn K d z with
  | some (some (.ref t)) => t
  | _ => 0
/-- rows of texts by keys -/
def rowsB (K : PySem.W.Frag) (d : Addr) (kvs : List (Str × List Str)) : Bool := kvs.all fun p => decide (PySem.W.nsIn K d p.1 = some (some (.ref (atB K d p.1)))) && txB K (atB K d p.1) p.2
theorem rowsB_ok {K : PySem.W.Frag} {d : Addr} {kvs : List (Str × List Str)} (h : rowsB K d kvs = true) {p : Str × List Str} (hp : p ∈ kvs) : ∃ t, PySem.W.nsIn K d p.1 = some (some (.ref t)) ∧ txB K t p.2 = true := by
  obtain ⟨h1, h2⟩ := He.ba (List.all_eq_true.mp h p hp)
  exact ⟨_, of_decide_eq_true h1, h2⟩
/-! ### the addresses, level by level, by bits -/
def hasB (s a : Nat) : Bool := Nat.beq (Nat.land (Nat.shiftRight s a) 1) 1
def addB : Nat → List Addr → List Addr × Nat
  | s, [] => ([], s)
  | s, a :: r => match hasB s a with
    | true => addB s r
    | false => HandSHeadRun.frNat (Nat.lor s (Nat.shiftLeft 1 a)) fun s' => (a :: (addB s' r).1, (addB s' r).2)
/-- the written tables' keys -/
abbrev KyT : Type := List (Option (List (Option (Str × Int))))
theorem kyT_at {K : PySem.W.Frag} {w : World} {ts : List (Addr × List Str)} (e : (ts.map fun t => He.dicW K t.1) = ts.map fun t => some (He.keysIn w.params t.2)) (i : Nat) {t : Addr × List Str} (h : ts[i]? = some t) : ∃ es n, KDict K w t.1 es n := by
  have e2 : (ts.map fun t => He.dicW K t.1)[i]? = (ts.map fun t => some (He.keysIn w.params t.2))[i]? := by rw [e]
  rw [List.getElem?_map, List.getElem?_map, h] at e2
  exact He.dicW_ok (Option.some.inj e2)
end
/-! For the head: static methods. -/
section
set_option maxRecDepth 100000
set_option maxHeartbeats 0
open PySem PySem.Spec PyProof.Rows L2
theorem reads_c {K : PySem.W.Frag} {C : Addr} (h0 : PySem.W.readsIn K C (.type "type") = true) : ClX.CRead K C (.type "type") := by
  refine ⟨h0, ?_⟩
  have h := h0
  unfold PySem.W.readsIn at h
  obtain ⟨h, _⟩ := He.ba h
  obtain ⟨h, _⟩ := He.ba h
  obtain ⟨h, h3⟩ := He.ba h
  obtain ⟨_, h2⟩ := He.ba h
  unfold PySem.W.specialIn
  rw [beq_iff_eq.mp h2, Option.bind_some]
  exact beq_iff_eq.mp h3
/-- the code of the static methods, a level deeper than others -/
def exB (g : Addr → Option Obj) (ns : List Str) (l : List Addr) : List Addr := l.flatMap fun a => match g a with
  | some ⟨_, _, .func fd, _⟩ => (match decide (fd.name ∈ ns), fd.code with
    | true, .ref c => [c]
    | _, _ => [])
  | _ => []
def levC (g : Addr → Option Obj) (ns : List Str) : Nat → List Addr → Nat → List Addr
  | 0, fr, _ => exB g ns fr
  | n + 1, fr, s => match addB s (fr.flatMap fun a => match g a with
      | some o => He.refsD o
      | none => []) with
    | (new, s') => new ++ levC g ns n new s'
def asC (g : Addr → Option Obj) (ns : List Str) (n : Nat) : List Addr := mainGlobals :: levC g ns n [mainGlobals] (Nat.shiftLeft 1 mainGlobals)
end
/-! For the head: class methods. -/
section
set_option maxRecDepth 100000
set_option maxHeartbeats 0
open PySem PySem.Spec PyProof.Rows L2
/-- the def of a class method -/
def cmA (K : PySem.W.Frag) (x m : Str) : Addr := He5.wf K (He.ga K x) "classmethod" m
def cmB (K : PySem.W.Frag) (x m : Str) : Bool := (PySem.W.readsIn K (He.ga K x) (.type "type") && He5.wrapB K (He.ga K x) "classmethod" "classmethod.__get__" m) && PySem.W.fnIn K (He5.wf K (He.ga K x) "classmethod" m)
end
/-! The head: what the top of the program leaves. -/
section
set_option maxRecDepth 100000
set_option maxHeartbeats 0
open PySem PySem.Spec PyProof.Rows L2
section
open PySem.W PySem.Calls
theorem ends0 (h : (OpenLaw.row PySem.Challenge.rw_leafmarks_k24_rule_texts_refused).wellSaid = true → (OpenLaw.row PySem.Challenge.rw_leafmarks_k24_rule_texts_refused).Holds) : PySem.Challenge.rw_leafmarks_k24_rule_texts_refused.Holds := by
  w_on; o_law
  exact h (by first | assumption | decide +kernel)
theorem witness0 : (OpenLaw.row PySem.Challenge.rw_leafmarks_k24_rule_texts_refused).toRowW.promised := by w_witness2
end
def d_is_word : He.DefD := ⟨("is_word", none), "is_word", "is_word", defArgs (top 8), defBody (top 8), defScope (top 8), [], []⟩
def d_is_row : He.DefD := ⟨("is_row", none), "is_row", "is_row", defArgs (top 9), defBody (top 9), defScope (top 9), [], []⟩
def d_is_one_of : He.DefD := ⟨("is_one_of", none), "is_one_of", "is_one_of", defArgs (top 15), defBody (top 15), defScope (top 15), [], []⟩
def d_field_reason : He.DefD := ⟨("field_reason", none), "field_reason", "field_reason", defArgs (top 16), defBody (top 16), defScope (top 16), [], []⟩
def d_checked_fields : He.DefD := ⟨("checked_fields", none), "checked_fields", "checked_fields", defArgs (top 17), defBody (top 17), defScope (top 17), [], []⟩
def d_checked_show : He.DefD := ⟨("checked_show", none), "checked_show", "checked_show", defArgs (top 18), defBody (top 18), defScope (top 18), [], []⟩
def d_field_of : He.DefD := ⟨("field_of", none), "field_of", "field_of", defArgs (top 21), defBody (top 21), defScope (top 21), [], []⟩
def d_show_of : He.DefD := ⟨("show_of", none), "show_of", "show_of", defArgs (top 22), defBody (top 22), defScope (top 22), [], []⟩
def d_read_lines : He.DefD := ⟨("read_lines", none), "read_lines", "read_lines", defArgs (top 23), defBody (top 23), defScope (top 23), [], []⟩
def d__law_fresh : He.DefD := ⟨("_law_fresh", none), "_law_fresh", "_law_fresh", defArgs (top 25), defBody (top 25), defScope (top 25), [], []⟩
def d__law_fill : He.DefD := ⟨("_law_fill", none), "_law_fill", "_law_fill", defArgs (top 26), defBody (top 26), defScope (top 26), [], []⟩
def d__law_take : He.DefD := ⟨("_law_take", none), "_law_take", "_law_take", defArgs (top 27), defBody (top 27), defScope (top 27), [], []⟩
def d__law_one : He.DefD := ⟨("_law_one", none), "_law_one", "_law_one", defArgs (top 28), defBody (top 28), defScope (top 28), [], []⟩
def d__law_same : He.DefD := ⟨("_law_same", none), "_law_same", "_law_same", defArgs (top 29), defBody (top 29), defScope (top 29), [], []⟩
def d__law_all_words : He.DefD := ⟨("_law_all_words", none), "_law_all_words", "_law_all_words", defArgs (top 30), defBody (top 30), defScope (top 30), [], []⟩
def d__law_some_words : He.DefD := ⟨("_law_some_words", none), "_law_some_words", "_law_some_words", defArgs (top 31), defBody (top 31), defScope (top 31), [], []⟩
def d__law_parts : He.DefD := ⟨("_law_parts", none), "_law_parts", "_law_parts", defArgs (top 32), defBody (top 32), defScope (top 32), [], []⟩
def d__law_field : He.DefD := ⟨("_law_field", none), "_law_field", "_law_field", defArgs (top 33), defBody (top 33), defScope (top 33), [], []⟩
def d__law_rule : He.DefD := ⟨("_law_rule", none), "_law_rule", "_law_rule", defArgs (top 34), defBody (top 34), defScope (top 34), [], []⟩
def d__law_line : He.DefD := ⟨("_law_line", none), "_law_line", "_law_line", defArgs (top 35), defBody (top 35), defScope (top 35), [], []⟩
def d__law_text : He.DefD := ⟨("_law_text", none), "_law_text", "_law_text", defArgs (top 36), defBody (top 36), defScope (top 36), [], []⟩
def d__law_tried : He.DefD := ⟨("_law_tried", none), "_law_tried", "_law_tried", defArgs (top 37), defBody (top 37), defScope (top 37), [], []⟩
def d__law_is_word : He.DefD := ⟨("_law_is_word", none), "_law_is_word", "_law_is_word", defArgs (top 38), defBody (top 38), defScope (top 38), [], []⟩
def d__law_field_of : He.DefD := ⟨("_law_field_of", none), "_law_field_of", "_law_field_of", defArgs (top 39), defBody (top 39), defScope (top 39), [], []⟩
def d__law_is_show : He.DefD := ⟨("_law_is_show", none), "_law_is_show", "_law_is_show", defArgs (top 40), defBody (top 40), defScope (top 40), [], []⟩
def d__law_due : He.DefD := ⟨("_law_due", none), "_law_due", "_law_due", defArgs (top 41), defBody (top 41), defScope (top 41), [], []⟩
def d__law_rule_due : He.DefD := ⟨("_law_rule_due", none), "_law_rule_due", "_law_rule_due", defArgs (top 42), defBody (top 42), defScope (top 42), [], []⟩
def d__law_spoilt_text : He.DefD := ⟨("_law_spoilt_text", none), "_law_spoilt_text", "_law_spoilt_text", defArgs (top 43), defBody (top 43), defScope (top 43), [], []⟩
def d_law : He.DefD := ⟨("law", none), "law", "law", defArgs (top 44), defBody (top 44), defScope (top 44), [], []⟩
def d_Rule___init__ : He.DefD := ⟨("Rule", some "__init__"), "__init__", "Rule.__init__", defArgs (inClass (top 19) 0), defBody (inClass (top 19) 0), defScope (inClass (top 19) 0), [], []⟩
def d_Rule_fields : He.DefD := ⟨("Rule", some "fields"), "fields", "Rule.fields", defArgs (inClass (top 19) 2), defBody (inClass (top 19) 2), defScope (inClass (top 19) 2), [], []⟩
def d_Rule_show : He.DefD := ⟨("Rule", some "show"), "show", "Rule.show", defArgs (inClass (top 19) 3), defBody (inClass (top 19) 3), defScope (inClass (top 19) 3), [], []⟩
def fn : List He.DefD := [d_is_word, d_is_row, d_is_one_of, d_field_reason, d_checked_fields, d_checked_show, d_field_of, d_show_of, d_read_lines, d__law_fresh, d__law_fill, d__law_take, d__law_one, d__law_same, d__law_all_words, d__law_some_words, d__law_parts, d__law_field, d__law_rule, d__law_line, d__law_text, d__law_tried, d__law_is_word, d__law_field_of, d__law_is_show, d__law_due, d__law_rule_due, d__law_spoilt_text, d_law, d_Rule___init__, d_Rule_fields, d_Rule_show]
def fa : List He.Fa := [.glo "is_word", .glo "is_row", .glo "is_one_of", .glo "field_reason", .glo "checked_fields", .glo "checked_show", .glo "field_of", .glo "show_of", .glo "read_lines", .glo "_law_fresh", .glo "_law_fill", .glo "_law_take", .glo "_law_one", .glo "_law_same", .glo "_law_all_words", .glo "_law_some_words", .glo "_law_parts", .glo "_law_field", .glo "_law_rule", .glo "_law_line", .glo "_law_text", .glo "_law_tried", .glo "_law_is_word", .glo "_law_field_of", .glo "_law_is_show", .glo "_law_due", .glo "_law_rule_due", .glo "_law_spoilt_text", .glo "law", .glo "Rule", .glo "BadRule", .glo "BadText", .glo "PARTS", .glo "WAYS", .glo "WORDS", .cls "Rule", .mkr "Rule", .noat "Rule" "parts", .noat "Rule" "way", .meth "Rule" "__init__", .meth "Rule" "fields", .meth "Rule" "show", .free "len", .free "range", .free "enumerate", .free "zip", .free "isinstance", .free "int", .free "str", .free "bool", .free "list", .free "tuple", .free "all", .free "any", .free "max", .free "min", .free "sum", .free "super", .str "LETTERS" "abcdefghijklmnopqrstuvwxyz", .int "LONGEST" 8, .int "MOST_FIELDS" 3]
def mainFile : Str := PySem.Challenge.rw_leafmarks_k24_rule_texts_refused.prog.main.file
def exs (K : PySem.W.Frag) : List Bool := [decide (PySem.W.specialIn K (.builtin "object.__class__") "__get__" = some (some (.builtin "getset_descriptor.__get__"))),
  decide (PySem.W.takesIn K (.builtin "object.__class__") = some true),
  decide (PySem.W.findIn K (.ref (He.ga K "Rule")) "__class__" = some (some (.builtin "object.__class__"))),
  decide (PySem.W.mroIn K (He.ga K "Rule") (.type "object") = some true),
  txB K (He.ga K "PARTS") ["read", "jump", "anew", "give", "take", "kept"],
  txB K (He.ga K "WAYS") ["stay", "field", "greater"],
  rowsB K (He.ga K "WORDS") [("read", ["no", "last", "raise", "row"]), ("jump", ["no", "last", "raise", "lower"]), ("anew", ["no", "least"]), ("give", ["no", "last", "raise", "later"]), ("take", ["no", "last", "raise", "later"]), ("kept", ["exact", "floored"])],
  decide (PySem.W.findIn K (.ref (He.ga K "BadRule")) "reason" = some none),
  decide (PySem.W.exmOne K (.ref (He.ga K "BadRule")) (.ref (He.ga K "BadText")) = some false),
  tabUni K [("law", none)],
  cmB K "Rule" "of_text",
  okA K (cmA K "Rule" "of_text") "Rule.of_text",
  xiB K (He.ga K "BadRule") "index" "BadRule.__init__" mainFile,
  xiB K (He.ga K "BadText") "line" "BadText.__init__" mainFile]
def exY (K : PySem.W.Frag) : Bool := (exs K).all id
def gtY (K : PySem.W.Frag) : List He.FnW := [fnC K (He.ma K (He.ga K "BadRule") "__init__"), fnC K (He.ma K (He.ga K "BadText") "__init__"), fnA K (cmA K "Rule" "of_text")]
def vlY : List He.FnW := [some ("__init__", "BadRule.__init__", defArgs (inClass (top 3) 0), .stmts (defBody (inClass (top 3) 0)), defScope (inClass (top 3) 0), mainGlobals, [], builtinsNs), some ("__init__", "BadText.__init__", defArgs (inClass (top 4) 0), .stmts (defBody (inClass (top 4) 0)), defScope (inClass (top 4) 0), mainGlobals, [], builtinsNs), some ("of_text", "Rule.of_text", defArgs (inClass (top 19) 5), .stmts (defBody (inClass (top 19) 5)), defScope (inClass (top 19) 5), mainGlobals, [], builtinsNs)]
abbrev AlY : Type := He.AlD × (Bool × (List He.FnW × KyT))
def tfL : List He.Defn := [("law", none)]
def tsY (K : PySem.W.Frag) : List (Addr × List Str) := [(He.ga K "WORDS", ["read", "jump", "anew", "give", "take", "kept"])]
def kyY (w : World) : KyT := (tsY []).map fun t => some (He.keysIn w.params t.2)
def obsK (g : Addr → Option Obj) (K : PySem.W.Frag) : AlY := (He.obsD fa fn K, (exY K && He.tabsB g tfL K, (gtY K, (tsY K).map fun t => He.dicW K t.1)))
def obsY (n : Nat) (g : Addr → Option Obj) : AlY := obsK g (He.frT g (asC g ["of_text"] n ++ [cStatics]))
def hookY (n : Nat) : PySem.W.Hook where
  α := AlY
  obs := fun s => obsY n s.heap.get?
  val := fun w => (He.valD fn, (true, (vlY, kyY w)))
  says := fun w h => ∃ K : PySem.W.Frag, K.In h ∧ He.SaysD fa fn K ∧ exY K = true ∧ gtY K = vlY ∧ ((tsY K).map fun t => He.dicW K t.1) = kyY w ∧ TabsAt tfL h K
  of := fun _ _ e => ⟨_, He.frT_in, congrArg (fun z : AlY => z.1) e, (He.ba (congrArg (fun z : AlY => z.2.1) e)).1, congrArg (fun z : AlY => z.2.2.1) e, congrArg (fun z : AlY => z.2.2.2) e, tabsAt_of (He.ba (congrArg (fun z : AlY => z.2.1) e)).2⟩
  keeps := fun _ _ _ ⟨K, hK, c1, c2, c3, c5, c4⟩ k => ⟨K, PySem.W.Frag.In.keeps hK k, c1, c2, c3, c5, c4.keeps k⟩
theorem obsY_eq {n : Nat} {g : Addr → Option Obj} {s : Shared} (h : ∀ a, g a = s.heap.get? a) : obsY n g = (hookY n).obs s := by
  have e : g = s.heap.get? := funext h
  rw [e] <;> rfl
abbrev RR : PySem.W.OpenRow := PySem.W.OpenLaw.row PySem.Challenge.rw_leafmarks_k24_rule_texts_refused
def ob (s : PySem.W.SharedT) : AlY := obsY 4 (HandSHeadRun.getT s)
theorem ob_eq (s : PySem.W.SharedT) : ob s = (hookY 4).obs s.abs := obsY_eq (HandSHeadRun.getT_eq s)
theorem runY_false (w : World) : HandSHeadRun.RunEq RR (PySem.W.view RR.prog [44]) (hookY 4) ob 8000 ((["_wall", "__name__", "LeafError", "BadRule", "BadText", "LETTERS", "LONGEST", "is_word", "is_row", "PARTS", "WORDS", "WAYS", "MOST_FIELDS", "is_one_of", "field_reason", "checked_fields", "checked_show", "Rule", "words_of", "field_of", "show_of", "read_lines", "_law_fresh", "_law_fill", "_law_take", "_law_one", "_law_same", "_law_all_words", "_law_some_words", "_law_parts"] : List PySem.Str) ++ (["_law_field", "_law_rule", "_law_line", "_law_text", "_law_tried", "_law_is_word", "_law_field_of", "_law_is_show", "_law_due", "_law_rule_due", "_law_spoilt_text"] : List PySem.Str)) (w.withFollow "special-get-raises" false) := by
  intro os
  kernel_rfl
theorem runY_true (w : World) : HandSHeadRun.RunEq RR (PySem.W.view RR.prog [44]) (hookY 4) ob 8000 ((["_wall", "__name__", "LeafError", "BadRule", "BadText", "LETTERS", "LONGEST", "is_word", "is_row", "PARTS", "WORDS", "WAYS", "MOST_FIELDS", "is_one_of", "field_reason", "checked_fields", "checked_show", "Rule", "words_of", "field_of", "show_of", "read_lines", "_law_fresh", "_law_fill", "_law_take", "_law_one", "_law_same", "_law_all_words", "_law_some_words", "_law_parts"] : List PySem.Str) ++ (["_law_field", "_law_rule", "_law_line", "_law_text", "_law_tried", "_law_is_word", "_law_field_of", "_law_is_show", "_law_due", "_law_rule_due", "_law_spoilt_text"] : List PySem.Str)) (w.withFollow "special-get-raises" true) := by
  intro os
  kernel_rfl
theorem runY (w : World) : HandSHeadRun.RunEq RR (PySem.W.view RR.prog [44]) (hookY 4) ob 8000 ((["_wall", "__name__", "LeafError", "BadRule", "BadText", "LETTERS", "LONGEST", "is_word", "is_row", "PARTS", "WORDS", "WAYS", "MOST_FIELDS", "is_one_of", "field_reason", "checked_fields", "checked_show", "Rule", "words_of", "field_of", "show_of", "read_lines", "_law_fresh", "_law_fill", "_law_take", "_law_one", "_law_same", "_law_all_words", "_law_some_words", "_law_parts"] : List PySem.Str) ++ (["_law_field", "_law_rule", "_law_line", "_law_text", "_law_tried", "_law_is_word", "_law_field_of", "_law_is_show", "_law_due", "_law_rule_due", "_law_spoilt_text"] : List PySem.Str)) w := PySem.W.byRow2 "special-get-raises" (P := fun w => HandSHeadRun.RunEq RR (PySem.W.view RR.prog [44]) (hookY 4) ob 8000 ((["_wall", "__name__", "LeafError", "BadRule", "BadText", "LETTERS", "LONGEST", "is_word", "is_row", "PARTS", "WORDS", "WAYS", "MOST_FIELDS", "is_one_of", "field_reason", "checked_fields", "checked_show", "Rule", "words_of", "field_of", "show_of", "read_lines", "_law_fresh", "_law_fill", "_law_take", "_law_one", "_law_same", "_law_all_words", "_law_some_words", "_law_parts"] : List PySem.Str) ++ (["_law_field", "_law_rule", "_law_line", "_law_text", "_law_tried", "_law_is_word", "_law_field_of", "_law_is_show", "_law_due", "_law_rule_due", "_law_spoilt_text"] : List PySem.Str)) w) runY_false runY_true w
open PySem.W in
theorem head0 (call : WalkO (view RR.prog [44]) ((["_wall", "__name__", "LeafError", "BadRule", "BadText", "LETTERS", "LONGEST", "is_word", "is_row", "PARTS", "WORDS", "WAYS", "MOST_FIELDS", "is_one_of", "field_reason", "checked_fields", "checked_show", "Rule", "words_of", "field_of", "show_of", "read_lines", "_law_fresh", "_law_fill", "_law_take", "_law_one", "_law_same", "_law_all_words", "_law_some_words", "_law_parts"] : List PySem.Str) ++ (["_law_field", "_law_rule", "_law_line", "_law_text", "_law_tried", "_law_is_word", "_law_field_of", "_law_is_show", "_law_due", "_law_rule_due", "_law_spoilt_text"] : List PySem.Str)) (XL (view RR.prog [44]) []) (hookY 4).says RR.toRowW (HandSHeadRun.topDef RR.prog 44) [] fun f vs => PySem.call f vs) : PySem.Challenge.rw_leafmarks_k24_rule_texts_refused.Holds :=
  ends0 fun said => HandSHeadRun.head_any (r := RR) (q := view RR.prog [44]) (H := hookY 4) (ob := ob) (M := 8000) (loose := ((["_wall", "__name__", "LeafError", "BadRule", "BadText", "LETTERS", "LONGEST", "is_word", "is_row", "PARTS", "WORDS", "WAYS", "MOST_FIELDS", "is_one_of", "field_reason", "checked_fields", "checked_show", "Rule", "words_of", "field_of", "show_of", "read_lines", "_law_fresh", "_law_fill", "_law_take", "_law_one", "_law_same", "_law_all_words", "_law_some_words", "_law_parts"] : List PySem.Str) ++ (["_law_field", "_law_rule", "_law_line", "_law_text", "_law_tried", "_law_is_word", "_law_field_of", "_law_is_show", "_law_due", "_law_rule_due", "_law_spoilt_text"] : List PySem.Str))) (d := HandSHeadRun.topDef RR.prog 44) (kwd := []) ob_eq
    (by kernel_rfl) (fun s => by kernel_rfl) runY (by kernel_rfl) (by kernel_rfl) (by kernel_rfl) (by rfl) said (by decide +kernel) ⟨rfl, rfl, rfl, rfl, rfl, by decide +kernel⟩ witness0 call
end
/-! Data without a heap: what a value tells, read through frozen cells; envs of data; evaluation at the level of data. -/
section
set_option maxRecDepth 100000
set_option maxHeartbeats 2000000

inductive D where
  | non | bl (b : Bool) | int (i : Int) | str (s : Str) | raw (v : V) | drw | any
  | tup (ds : List D) | lst (ds : List D) | ins (C : Addr) (ns : List Str) (ds : List D) | dk (ks : List Key) (ds : List D)
  | ol (ds : List D) | oi (C : Addr) (ns : List Str) (ds : List D) | od (ks : List Key) (ds : List D)
  /-- d, at the address a -/
  | pin (a : Addr) (d : D)

/-- what stands around: the state of draws, the tables of code objects, what is kept for an error -/
structure Sx where
  ds : Option Ds
  tb : List (Addr × Str)
  W : Hp → Hp → Prop
section
variable (K : PySem.W.Frag) (S : Sx) (F : Hp)
mutual
def Dat : D → V → Prop
  | .non, v => v = .non
  | .bl b, v => v = .bl b
  | .int i, v => v = .int i
  | .str s, v => v = .str s
  | .raw u, v => v = u
  | .any, _ => True
  | .drw, v => ∃ s, S.ds = some s ∧ v = .ref s.st
  | .tup ds, v => ∃ a vs, v = .ref a ∧ SqT K F a vs ∧ Dats ds vs
  | .lst ds, v => ∃ a vs, v = .ref a ∧ F a = some (.lst vs) ∧ Dats ds vs
  | .ins C ns ds, v => ∃ a dx gs, v = .ref a ∧ F a = some (.ins C dx gs) ∧ gs.map Prod.fst = ns ∧ Dats ds (gs.map Prod.snd)
  | .dk ks ds, v => ∃ a kvs, v = .ref a ∧ F a = some (.dK kvs) ∧ kvs.map Prod.fst = ks ∧ Dats ds (kvs.map Prod.snd)
  | .ol _, _ => False
  | .oi _ _ _, _ => False
  | .od _ _, _ => False
  | .pin a d, v => v = .ref a ∧ Dat d v
def Dats : List D → List V → Prop
  | [], vs => vs = []
  | d :: ds, vs => ∃ v us, vs = v :: us ∧ Dat d v ∧ Dats ds us
end
end
section
variable {K : PySem.W.Frag} {S : Sx} {F F' : Hp}
mutual
theorem Dat.mono (s : Same F F') : ∀ (d : D) {v : V}, Dat K S F d v → Dat K S F' d v
  | .non, _, h => h
  | .bl _, _, h => h
  | .int _, _, h => h
  | .str _, _, h => h
  | .raw _, _, h => h
  | .any, _, h => h
  | .drw, _, h => h
  | .tup ds, _, ⟨a, vs, e, h1, h2⟩ => ⟨a, vs, e, st_sm s h1, Dats.mono s ds h2⟩
  | .lst ds, _, ⟨a, vs, e, h1, h2⟩ => ⟨a, vs, e, s _ _ h1, Dats.mono s ds h2⟩
  | .ins _ _ ds, _, ⟨a, dx, gs, e, h1, h2, h3⟩ => ⟨a, dx, gs, e, s _ _ h1, h2, Dats.mono s ds h3⟩
  | .dk _ ds, _, ⟨a, kvs, e, h1, h2, h3⟩ => ⟨a, kvs, e, s _ _ h1, h2, Dats.mono s ds h3⟩
  | .pin _ d, _, ⟨e, h⟩ => ⟨e, Dat.mono s d h⟩
theorem Dats.mono (s : Same F F') : ∀ (ds : List D) {vs : List V}, Dats K S F ds vs → Dats K S F' ds vs
  | [], _, h => h
  | d :: ds, _, ⟨v, us, e, h1, h2⟩ => ⟨v, us, e, Dat.mono s d h1, Dats.mono s ds h2⟩
end
theorem Dats.length : ∀ {ds : List D} {vs : List V}, Dats K S F ds vs → vs.length = ds.length
  | [], _, h => by rw [show _ = [] from h]; rfl
  | d :: ds, _, ⟨v, us, e, _, h⟩ => by rw [e, List.length_cons, List.length_cons, Dats.length h]
theorem Dats.get : ∀ {ds : List D} {vs : List V} {i : Nat} {d : D}, Dats K S F ds vs → ds[i]? = some d → ∃ v, vs[i]? = some v ∧ Dat K S F d v
  | [], _, _, _, _, e => by simp at e
  | d :: ds, _, 0, _, ⟨v, us, e, h, _⟩, q => by
    subst e
    rw [List.getElem?_cons_zero] at q
    cases q
    exact ⟨v, rfl, h⟩
  | d :: ds, _, i + 1, x, ⟨v, us, e, _, h⟩, q => by
    subst e
    rw [List.getElem?_cons_succ] at q
    obtain ⟨u, h1, h2⟩ := Dats.get h q
    exact ⟨u, by rw [List.getElem?_cons_succ]; exact h1, h2⟩
theorem Dats.get' {ds : List D} {vs : List V} {i : Nat} {v : V} (h : Dats K S F ds vs) (e : vs[i]? = some v) : ∃ d, ds[i]? = some d ∧ Dat K S F d v := by
  have hl := h.length
  have hi : i < ds.length := by have := (List.getElem?_eq_some_iff.mp e).1; omega
  obtain ⟨u, h1, h2⟩ := h.get (List.getElem?_eq_getElem hi)
  rw [e] at h1
  cases h1
  exact ⟨_, List.getElem?_eq_getElem hi, h2⟩
theorem Dats.app : ∀ {ds es : List D} {vs us : List V}, Dats K S F ds vs → Dats K S F es us → Dats K S F (ds ++ es) (vs ++ us)
  | [], _, _, _, h, q => by rw [show _ = [] from h]; exact q
  | d :: ds, _, _, _, ⟨v, ws, e, h1, h2⟩, q => by subst e; exact ⟨v, _, rfl, h1, Dats.app h2 q⟩
theorem Dats.one {d : D} {v : V} (h : Dat K S F d v) : Dats K S F [d] [v] := ⟨v, [], rfl, h, rfl⟩
theorem Dats.set : ∀ {ds : List D} {vs : List V} {d : D} {v : V} (i : Nat), Dats K S F ds vs → Dat K S F d v → Dats K S F (ds.set i d) (vs.set i v)
  | [], _, _, _, _, h, _ => by rw [show _ = [] from h]; rfl
  | x :: ds, _, d, v, 0, ⟨u, us, e, h1, h2⟩, q => by subst e; exact ⟨v, us, rfl, q, h2⟩
  | x :: ds, _, d, v, i + 1, ⟨u, us, e, h1, h2⟩, q => by subst e; exact ⟨u, _, rfl, h1, Dats.set i h2 q⟩
theorem Dats.take : ∀ {ds : List D} {vs : List V} (i : Nat), Dats K S F ds vs → Dats K S F (ds.take i) (vs.take i)
  | _, _, 0, _ => rfl
  | [], _, i + 1, h => by rw [show _ = [] from h]; rfl
  | x :: ds, _, i + 1, ⟨u, us, e, h1, h2⟩ => by subst e; exact ⟨u, _, rfl, h1, Dats.take i h2⟩
theorem Dats.drop : ∀ {ds : List D} {vs : List V} (i : Nat), Dats K S F ds vs → Dats K S F (ds.drop i) (vs.drop i)
  | _, _, 0, h => h
  | [], _, i + 1, h => by rw [show _ = [] from h]; rfl
  | x :: ds, _, i + 1, ⟨u, us, e, h1, h2⟩ => by subst e; exact Dats.drop i h2
theorem Dats.rep {ds : List D} {vs : List V} (h : Dats K S F ds vs) : ∀ n, Dats K S F (List.replicate n ds).flatten (List.replicate n vs).flatten
  | 0 => rfl
  | n + 1 => by
    rw [List.replicate_succ, List.replicate_succ, List.flatten_cons, List.flatten_cons]
    exact h.app (Dats.rep h n)
theorem Dats.rev : ∀ {ds : List D} {vs : List V}, Dats K S F ds vs → Dats K S F ds.reverse vs.reverse
  | [], _, h => by rw [show _ = [] from h]; rfl
  | x :: ds, _, ⟨u, us, e, h1, h2⟩ => by
    subst e
    rw [List.reverse_cons, List.reverse_cons]
    exact (Dats.rev h2).app (Dats.one h1)
/-- data that stand by themselves -/
def D.flat : D → Bool
  | .non => true | .bl _ => true | .int _ => true | .str _ => true | .raw _ => true | .drw => true
  | _ => false
theorem Dat.flat {d : D} {v : V} (hf : d.flat = true) (h : Dat K S F d v) : Dat K S F' d v := by
  cases d <;> first | exact h | cases hf
theorem Dats.flat : ∀ {ds : List D} {vs : List V}, ds.all D.flat = true → Dats K S F ds vs → Dats K S F' ds vs
  | [], _, _, h => h
  | d :: ds, _, hf, ⟨v, us, e, h1, h2⟩ => by
    rw [List.all_cons, Bool.and_eq_true] at hf
    exact ⟨v, us, e, h1.flat hf.1, Dats.flat hf.2 h2⟩
theorem dats_map {α : Type} {f : α → D} {g : α → V} (hfg : ∀ x v, Dat K S F (f x) v ↔ v = g x) : ∀ {l : List α} {vs : List V}, Dats K S F (l.map f) vs ↔ vs = l.map g
  | [], _ => Iff.rfl
  | x :: l, vs => by
    constructor
    · rintro ⟨v, us, e, h1, h2⟩
      rw [e, (hfg x v).mp h1, (dats_map hfg).mp h2]; rfl
    · intro e
      exact ⟨g x, l.map g, e, (hfg x _).mpr rfl, (dats_map hfg).mpr rfl⟩
theorem dats_int {l : List Int} {vs : List V} : Dats K S F (l.map D.int) vs ↔ vs = l.map V.int := dats_map fun _ _ => Iff.rfl
theorem dats_str {l : List Str} {vs : List V} : Dats K S F (l.map D.str) vs ↔ vs = l.map V.str := dats_map fun _ _ => Iff.rfl
theorem dats_bl {l : List Bool} {vs : List V} : Dats K S F (l.map D.bl) vs ↔ vs = l.map V.bl := dats_map fun _ _ => Iff.rfl

/-! ### heaps: what an evaluation leaves -/
/-- no table of code objects -/
def NoT (o : HO) : Prop := ∀ ps, o ≠ .tbl ps
theorem noT_l {vs : List V} : NoT (.lst vs) := fun _ z => by cases z
theorem noT_i {C dx : Addr} {gs : List (Str × V)} : NoT (.ins C dx gs) := fun _ z => by cases z
/-- free, or a table -/
def Nt (H : Hp) (a : Addr) : Prop := ∀ o, H a = some o → ¬ NoT o
theorem Nt.of {H : Hp} {a : Addr} (h : H a = none) : Nt H a := fun o e => by rw [h] at e; cases e
theorem Nt.ne {H : Hp} {a b : Addr} {o : HO} (h : Nt H a) (e : H b = some o) (n : NoT o) : b ≠ a := fun z => by subst z; exact h o e n
/-- a thing that may be changed -/
def Chg : Option HO → Prop
  | some (.lst _) => True
  | some (.dK _) => True
  | some (.ins _ _ _) => True
  | _ => False
theorem tabS_mut {H : Hp} {P a : Addr} {q : Str} {o : HO} (t : LamX.TabS H P q) (c : Chg (H a)) : LamX.TabS (upd H a o) P q := by
  obtain ⟨ps, h1, h2, h3⟩ := t
  have n1 : P ≠ a := fun z => by subst z; rw [h1] at c; exact c
  refine ⟨ps, by rw [upd_ne n1]; exact h1, h2, fun pos cv hc => ?_⟩
  obtain ⟨c', e1, e2⟩ := h3 pos cv hc
  have n2 : c' ≠ a := fun z => by subst z; rw [e2] at c; exact c
  exact ⟨c', e1, by rw [upd_ne n2]; exact e2⟩
def DrS (S : Sx) (F H : Hp) : Prop := (∀ s, S.ds = some s → Dr H s ∧ F s.st = none) ∧ LamX.Tabs S.tb H ∧ ∀ b o, F b = some o → NoT o
structure Ag0 (S : Sx) (F H F' H' : Hp) : Prop where
  fs : Same F F'
  ok : Same F' H'
  ch : ∀ b o, (∀ s, S.ds = some s → b ≠ s.st) → H b = some o → NoT o → H' b = some o
  nw : ∀ b, F' b ≠ none → F b ≠ none ∨ Nt H b
  st : DrS S F' H'
def DrI (S : Sx) (F H : Hp) : Prop := DrS S F H ∧ ∀ F' H', Ag0 S F H F' H' → S.W F' H'
structure Ag (S : Sx) (F H F' H' : Hp) : Prop extends Ag0 S F H F' H' where
  dr : DrI S F' H'
section
variable {H H' H'' F'' : Hp}
theorem DrS.dr {s : Ds} (d : DrS S F H) (e : S.ds = some s) : Dr H s ∧ F s.st = none := d.1 s e
theorem DrS.ne {a : Addr} (d : DrS S F H) (n : Nt H a) : ∀ s, S.ds = some s → a ≠ s.st ∧ a ≠ s.c := fun s e => by
  obtain ⟨⟨n1, r, b, cells, h1, h2, _⟩, _⟩ := d.1 s e
  exact ⟨(n.ne h1 noT_l).symm, (n.ne h2 noT_l).symm⟩
theorem DrI.ne {a : Addr} (d : DrI S F H) (n : H a = none) : ∀ s, S.ds = some s → a ≠ s.st ∧ a ≠ s.c := d.1.ne (.of n)
theorem Ag0.back (g : Ag0 S F H F' H') {a : Addr} (n : Nt H' a) : Nt H a := fun o e no => by
  by_cases hs : ∀ s, S.ds = some s → a ≠ s.st
  · exact n o (g.ch a o hs e no) no
  · have : ∃ s, S.ds = some s ∧ a = s.st := Classical.byContradiction fun z => hs fun s e1 e2 => z ⟨s, e1, e2⟩
    obtain ⟨s, e1, e2⟩ := this
    exact (g.st.ne n s e1).1 e2
theorem Ag0.refl (h : Same F H) (d : DrS S F H) : Ag0 S F H F H := ⟨Same.refl F, h, fun _ _ _ e _ => e, fun _ e => .inl e, d⟩
theorem Ag0.trans (a : Ag0 S F H F' H') (b : Ag0 S F' H' F'' H'') : Ag0 S F H F'' H'' := by
  refine ⟨a.fs.trans b.fs, b.ok, fun c o n e t => b.ch c o n (a.ch c o n e t) t, fun c e => ?_, b.st⟩
  rcases b.nw c e with h | h
  · exact a.nw c h
  · exact .inr (a.back h)
theorem DrI.step (d : DrI S F H) (a : Ag0 S F H F' H') : DrI S F' H' := ⟨a.st, fun F2 H2 b => d.2 F2 H2 (a.trans b)⟩
theorem Ag0.up (a : Ag0 S F H F' H') (d : DrI S F H) : Ag S F H F' H' := ⟨a, d.step a⟩
theorem Ag.refl (h : Same F H) (d : DrI S F H) : Ag S F H F H := ⟨.refl h d.1, d⟩
theorem Ag.trans (a : Ag S F H F' H') (b : Ag S F' H' F'' H'') (d0 : DrI S F H) : Ag S F H F'' H'' := ⟨a.toAg0.trans b.toAg0, b.dr⟩
theorem DrS.new {a : Addr} {o : HO} (d : DrS S F H) (n : H a = none) : DrS S F (upd H a o) :=
  ⟨fun s e => ⟨(d.1 s e).1.new n, (d.1 s e).2⟩, d.2.1.ext fun b u e => upd_new e n, d.2.2⟩
theorem DrS.mut {a : Addr} {o : HO} (d : DrS S F H) (c : Chg (H a)) (n : ∀ s, S.ds = some s → a ≠ s.st ∧ a ≠ s.c) : DrS S F (upd H a o) := by
  refine ⟨fun s e => ?_, fun p hp => tabS_mut (d.2.1 p hp) c, d.2.2⟩
  obtain ⟨⟨n1, r, b, cells, h1, h2, h3⟩, h4⟩ := d.1 s e
  exact ⟨⟨n1, r, b, cells, upd_old h1 (n s e).1.symm, upd_old h2 (n s e).2.symm, h3⟩, h4⟩
theorem DrS.frz {a : Addr} {o : HO} (d : DrS S F H) (n : ∀ s, S.ds = some s → a ≠ s.st) (no : NoT o) : DrS S (upd F a o) H := by
  refine ⟨fun s e => ⟨(d.1 s e).1, by rw [upd_ne (n s e).symm]; exact (d.1 s e).2⟩, d.2.1, fun b u e => ?_⟩
  by_cases q : b = a
  · subst q; rw [upd_same] at e; cases e; exact no
  · rw [upd_ne q] at e; exact d.2.2 b u e
/-- a new cell that stays as it is -/
theorem Ag.newF {a : Addr} {o : HO} (g : Ag S F H F' H') (d0 : DrI S F H) (n : H' a = none) (no : NoT o := by intro ps z; cases z) : Ag S F H (upd F' a o) (upd H' a o) := by
  have nF : F' a = none := g.ok.free n
  have s : Ag0 S F' H' (upd F' a o) (upd H' a o) := by
    refine ⟨fun b u e => upd_new e nF, fun b u e => ?_, fun b u _ e _ => upd_new e n, fun b e => ?_, ?_⟩
    · by_cases q : b = a
      · subst q; rw [upd_same] at e ⊢; exact e
      · rw [upd_ne q] at e ⊢; exact g.ok _ _ e
    · by_cases q : b = a
      · subst q; exact .inr (.of n)
      · rw [upd_ne q] at e; exact .inl e
    · exact (g.st.frz (fun s e => (g.dr.ne n s e).1) no).new n
  exact (g.toAg0.trans s).up d0
/-- a new cell of one's own -/
theorem Ag.newH {a : Addr} {o : HO} (g : Ag S F H F' H') (d0 : DrI S F H) (n : H' a = none) : Ag S F H F' (upd H' a o) :=
  Ag0.up ⟨g.fs, fun b u e => upd_new (g.ok _ _ e) n, fun b u q e t => upd_new (g.ch b u q e t) n, g.nw, g.st.new n⟩ d0
/-- one's own cell changes -/
theorem Ag.mut {a : Addr} {o : HO} (g : Ag S F H F' H') (d0 : DrI S F H) (c : Chg (H' a)) (n : Nt H a) (nF : F' a = none) (ns : ∀ s, S.ds = some s → a ≠ s.st ∧ a ≠ s.c) : Ag S F H F' (upd H' a o) :=
  Ag0.up ⟨g.fs, fun b u e => upd_old (g.ok _ _ e) (ne_of_none e nF), fun b u q e t => upd_old (g.ch b u q e t) (n.ne e t), g.nw, g.st.mut c ns⟩ d0
/-- one's own cell becomes frozen -/
theorem Ag.frz {a : Addr} {o : HO} (g : Ag S F H F' H') (d0 : DrI S F H) (n : Nt H a) (nF : F' a = none) (h : H' a = some o) (ns : ∀ s, S.ds = some s → a ≠ s.st) (no : NoT o := by intro ps z; cases z) : Ag S F H (upd F' a o) H' := by
  refine Ag0.up ⟨fun b u e => upd_new (g.fs _ _ e) nF, fun b u e => ?_, g.ch, fun b e => ?_, g.st.frz ns no⟩ d0
  · by_cases q : b = a
    · subst q; rw [upd_same] at e; rw [h]; exact e
    · rw [upd_ne q] at e; exact g.ok _ _ e
  · by_cases q : b = a
    · subst q; exact .inr n
    · rw [upd_ne q] at e; exact g.nw b e
/-- a cell of another one stays -/
theorem Ag.keep {a : Addr} {o : HO} (g : Ag S F H F' H') (ns : ∀ s, S.ds = some s → a ≠ s.st) (h : H a = some o) (no : NoT o := by intro ps z; cases z) : H' a = some o := g.ch a o ns h no
theorem Ag.keepF {a : Addr} {o : HO} (g : Ag S F H F' H') (h : H a = some o) (nF : F a = none) (no : NoT o := by intro ps z; cases z) : F' a = none := by
  cases q : F' a with
  | none => rfl
  | some u =>
    rcases g.nw a (by rw [q]; exact fun z => nomatch z) with z | z
    · exact absurd nF z
    · exact absurd no (z o h)
theorem Ag.back {a : Addr} (g : Ag S F H F' H') (n : H' a = none) : Nt H a := g.toAg0.back (.of n)
theorem Ag.backN {a : Addr} (g : Ag S F H F' H') (n : Nt H' a) : Nt H a := g.toAg0.back n
end

/-! ### envs of data -/
/-- a cell of one's own: a list, an instance, a dict -/
inductive Cl where
  | l (ds : List D) | i (C : Addr) (ns : List Str) (ds : List D) | k (ks : List Key) (ds : List D)
/-- cells of one's own, by their addresses -/
abbrev Gh := List (Addr × Cl)
inductive Sl where
  | un | val (d : D) | own (ds : List D) | slf (p dx C : Addr) (ns : List Str) (ds : List D) | bor (ds : List D) | obj (m : Bool) (d : D) (γ : Gh)
def Sl.mine : Sl → Bool
  | .own _ => true
  | .slf _ _ _ _ _ => true
  | .obj m _ _ => m
  | _ => false
/-- the slot's cell is no frozen one: one's own, or lent by the caller -/
def Sl.held : Sl → Bool
  | .own _ => true
  | .slf _ _ _ _ _ => true
  | .bor _ => true
  | .obj _ _ _ => true
  | _ => false
/-- the cells of a slot that is held -/
def Sl.loc (x : Option V) : Sl → Addr → Prop
  | .own _, a => x = some (.ref a)
  | .slf _ _ _ _ _, a => x = some (.ref a)
  | .bor _, a => x = some (.ref a)
  | .obj _ _ γ, a => a ∈ γ.map Prod.fst
  | _, _ => False
theorem Sl.mh {s : Sl} (h : s.mine = true) : s.held = true := by cases s <;> first | rfl | cases h
theorem Sl.lh {s : Sl} {x : Option V} {a : Addr} (h : s.loc x a) : s.held = true := by cases s <;> first | rfl | exact h.elim
def Prv (S : Sx) (F : Hp) (a : Addr) : Prop := F a = none ∧ ∀ s, S.ds = some s → a ≠ s.st ∧ a ≠ s.c
def ClOk (K : PySem.W.Frag) (S : Sx) (F : Hp) : Cl → HO → Prop
  | .l ds, o => ∃ vs, o = .lst vs ∧ Dats K S F ds vs
  | .i C ns ds, o => ∃ dx gs, o = .ins C dx gs ∧ gs.map Prod.fst = ns ∧ Dats K S F ds (gs.map Prod.snd)
  | .k ks ds, o => ∃ kvs, o = .dK kvs ∧ kvs.map Prod.fst = ks ∧ Dats K S F ds (kvs.map Prod.snd)
theorem ClOk.no {F : Hp} {c : Cl} {o : HO} (h : ClOk K S F c o) : NoT o := by
  cases c with
  | l ds => obtain ⟨vs, rfl, _⟩ := h; exact noT_l
  | i C ns ds => obtain ⟨dx, gs, rfl, _⟩ := h; exact noT_i
  | k ks ds => obtain ⟨kvs, rfl, _⟩ := h; exact fun _ z => by cases z
theorem ClOk.chg {F : Hp} {c : Cl} {o : HO} (h : ClOk K S F c o) : Chg (some o) := by
  cases c with
  | l ds => obtain ⟨vs, rfl, _⟩ := h; trivial
  | i C ns ds => obtain ⟨dx, gs, rfl, _⟩ := h; trivial
  | k ks ds => obtain ⟨kvs, rfl, _⟩ := h; trivial
theorem ClOk.mono {c : Cl} {o : HO} (s : Same F F') (h : ClOk K S F c o) : ClOk K S F' c o := by
  cases c with
  | l ds => obtain ⟨vs, e, h⟩ := h; exact ⟨vs, e, Dats.mono s ds h⟩
  | i C ns ds => obtain ⟨dx, gs, e, h1, h⟩ := h; exact ⟨dx, gs, e, h1, Dats.mono s ds h⟩
  | k ks ds => obtain ⟨kvs, e, h1, h⟩ := h; exact ⟨kvs, e, h1, Dats.mono s ds h⟩
structure GhOk (K : PySem.W.Frag) (S : Sx) (F H : Hp) (γ : Gh) : Prop where
  nd : (γ.map Prod.fst).Nodup
  ok : ∀ a c, (a, c) ∈ γ → Prv S F a ∧ ∃ o, H a = some o ∧ ClOk K S F c o
def SlOk (K : PySem.W.Frag) (S : Sx) (F H : Hp) (x : Option V) : Sl → Prop
  | .un => True
  | .val d => ∃ v, x = some v ∧ Dat K S F d v
  | .own ds => ∃ a vs, x = some (.ref a) ∧ Prv S F a ∧ H a = some (.lst vs) ∧ Dats K S F ds vs
  | .slf p dx C ns ds => ∃ gs, x = some (.ref p) ∧ Prv S F p ∧ H p = some (.ins C dx gs) ∧ gs.map Prod.fst = ns ∧ Dats K S F ds (gs.map Prod.snd)
  | .bor ds => ∃ a vs, x = some (.ref a) ∧ Prv S F a ∧ H a = some (.lst vs) ∧ Dats K S F ds vs
  | .obj _ d γ => ∃ v, x = some v ∧ Dat K S F d v ∧ GhOk K S F H γ
structure EnvOk (K : PySem.W.Frag) (S : Sx) (F H : Hp) (σ : L2.St) (ρ : List Sl) : Prop where
  len : σ.length = ρ.length
  ok : ∀ (i : Nat) (x : Option V) (s : Sl), σ[i]? = some x → ρ[i]? = some s → SlOk K S F H x s
  sep : ∀ (i j : Nat) (s s' : Sl) (x x' : Option V) (a : Addr), i ≠ j → ρ[i]? = some s → ρ[j]? = some s' → s.mine = true → σ[i]? = some x → σ[j]? = some x' → s.loc x a → s'.loc x' a → False
def OwnNew (H0 : Hp) (σ : L2.St) (ρ : List Sl) : Prop := ∀ (i : Nat) (s : Sl) (x : Option V) (a : Addr), ρ[i]? = some s → s.mine = true → σ[i]? = some x → s.loc x a → Nt H0 a
section
variable {H H' F0 H0 : Hp} {σ : L2.St} {ρ : List Sl}
theorem GhOk.ag {γ : Gh} (h : GhOk K S F H γ) (g : Ag S F H F' H') : GhOk K S F' H' γ := ⟨h.nd, fun a c hm => by
  obtain ⟨⟨p1, p2⟩, o, e, q⟩ := h.ok a c hm
  exact ⟨⟨g.keepF e p1 q.no, p2⟩, o, g.keep (fun s e => (p2 s e).1) e q.no, q.mono g.fs⟩⟩
theorem GhOk.mut {γ : Gh} {a : Addr} {o : HO} (h : GhOk K S F H γ) (n : a ∉ γ.map Prod.fst) : GhOk K S F (upd H a o) γ := ⟨h.nd, fun b c hm => by
  obtain ⟨p, u, e, q⟩ := h.ok b c hm
  exact ⟨p, u, upd_old e (fun z => n (z ▸ List.mem_map.mpr ⟨_, hm, rfl⟩)), q⟩⟩
theorem SlOk.ag {x : Option V} {s : Sl} (h : SlOk K S F H x s) (g : Ag S F H F' H') : SlOk K S F' H' x s := by
  cases s with
  | un => exact trivial
  | val d =>
    obtain ⟨v, e, h⟩ := h
    exact ⟨v, e, Dat.mono g.fs d h⟩
  | own ds =>
    obtain ⟨a, vs, e, ⟨p1, p2⟩, h1, h2⟩ := h
    exact ⟨a, vs, e, ⟨g.keepF h1 p1, p2⟩, g.keep (fun s e => (p2 s e).1) h1, Dats.mono g.fs ds h2⟩
  | slf a dx C ns ds =>
    obtain ⟨gs, e, ⟨p1, p2⟩, h1, h2, h3⟩ := h
    exact ⟨gs, e, ⟨g.keepF h1 p1, p2⟩, g.keep (fun s e => (p2 s e).1) h1, h2, Dats.mono g.fs ds h3⟩
  | bor ds =>
    obtain ⟨a, vs, e, ⟨p1, p2⟩, h1, h2⟩ := h
    exact ⟨a, vs, e, ⟨g.keepF h1 p1, p2⟩, g.keep (fun s e => (p2 s e).1) h1, Dats.mono g.fs ds h2⟩
  | obj m d γ =>
    obtain ⟨v, e, h1, h2⟩ := h
    exact ⟨v, e, Dat.mono g.fs d h1, h2.ag g⟩
theorem EnvOk.ag (e : EnvOk K S F H σ ρ) (g : Ag S F H F' H') : EnvOk K S F' H' σ ρ := ⟨e.len, fun i x s h1 h2 => (e.ok i x s h1 h2).ag g, e.sep⟩
theorem EnvOk.at {i : Nat} {s : Sl} (e : EnvOk K S F H σ ρ) (h : ρ[i]? = some s) : ∃ x, σ[i]? = some x ∧ SlOk K S F H x s := by
  have hi : i < σ.length := by have := (List.getElem?_eq_some_iff.mp h).1; rw [e.len]; exact this
  exact ⟨σ[i], List.getElem?_eq_getElem hi, e.ok i σ[i] _ (List.getElem?_eq_getElem hi) h⟩
theorem EnvOk.val {i : Nat} {d : D} (e : EnvOk K S F H σ ρ) (h : ρ[i]? = some (.val d)) : ∃ v, σ[i]? = some (some v) ∧ Dat K S F d v := by
  obtain ⟨x, h1, v, rfl, h2⟩ := e.at h
  exact ⟨v, h1, h2⟩
theorem EnvOk.own {i : Nat} {ds : List D} (e : EnvOk K S F H σ ρ) (h : ρ[i]? = some (.own ds)) : ∃ a vs, σ[i]? = some (some (.ref a)) ∧ Prv S F a ∧ H a = some (.lst vs) ∧ Dats K S F ds vs := by
  obtain ⟨x, h1, a, vs, rfl, h2⟩ := e.at h
  exact ⟨a, vs, h1, h2⟩
theorem EnvOk.bor {i : Nat} {ds : List D} (e : EnvOk K S F H σ ρ) (h : ρ[i]? = some (.bor ds)) : ∃ a vs, σ[i]? = some (some (.ref a)) ∧ Prv S F a ∧ H a = some (.lst vs) ∧ Dats K S F ds vs := by
  obtain ⟨x, h1, a, vs, rfl, h2⟩ := e.at h
  exact ⟨a, vs, h1, h2⟩
theorem EnvOk.slf {i : Nat} {p dx C : Addr} {ns : List Str} {ds : List D} (e : EnvOk K S F H σ ρ) (h : ρ[i]? = some (.slf p dx C ns ds)) : ∃ gs, σ[i]? = some (some (.ref p)) ∧ Prv S F p ∧ H p = some (.ins C dx gs) ∧ gs.map Prod.fst = ns ∧ Dats K S F ds (gs.map Prod.snd) := by
  obtain ⟨x, h1, gs, rfl, h2⟩ := e.at h
  exact ⟨gs, h1, h2⟩
theorem EnvOk.obj {i : Nat} {m : Bool} {d : D} {γ : Gh} (e : EnvOk K S F H σ ρ) (h : ρ[i]? = some (.obj m d γ)) : ∃ v, σ[i]? = some (some v) ∧ Dat K S F d v ∧ GhOk K S F H γ := by
  obtain ⟨x, h1, v, rfl, h2⟩ := e.at h
  exact ⟨v, h1, h2⟩
/-- the slot i becomes another one -/
theorem EnvOk.put {i : Nat} {s₀ : Sl} {x₀ : Option V} {σ' : L2.St} (len : σ'.length = ρ.length) (hσ : ∀ j : Nat, j ≠ i → ∀ (x : Option V) (s : Sl), σ'[j]? = some x → ρ[j]? = some s → SlOk K S F H x s) (hi : i < ρ.length → σ'[i]? = some x₀) (ok : SlOk K S F H x₀ s₀)
    (sep : ∀ (j : Nat) (s : Sl) (x : Option V) (a : Addr), j ≠ i → ρ[j]? = some s → σ'[j]? = some x → s.loc x a → s₀.loc x₀ a → False)
    (sep0 : ∀ (j k : Nat) (s s' : Sl) (x x' : Option V) (b : Addr), j ≠ i → k ≠ i → j ≠ k → ρ[j]? = some s → ρ[k]? = some s' → s.mine = true → σ'[j]? = some x → σ'[k]? = some x' → s.loc x b → s'.loc x' b → False) :
    EnvOk K S F H σ' (ρ.set i s₀) := by
  have at_i : ∀ {s : Sl}, (ρ.set i s₀)[i]? = some s → i < ρ.length ∧ s = s₀ := fun {s} h => by
    have hl : i < ρ.length := by have := (List.getElem?_eq_some_iff.mp h).1; rw [List.length_set] at this; exact this
    rw [List.getElem?_set_self hl] at h
    exact ⟨hl, (Option.some.inj h).symm⟩
  refine ⟨by rw [List.length_set, len], fun j x s h1 h2 => ?_, fun j k s s' x x' b n h1 h2 m1 h3 h4 l1 l2 => ?_⟩
  · by_cases q : j = i
    · subst q
      obtain ⟨hl, rfl⟩ := at_i h2
      rw [hi hl] at h1
      cases h1
      exact ok
    · rw [List.getElem?_set_ne (Ne.symm q)] at h2
      exact hσ j q x s h1 h2
  · by_cases q : j = i
    · subst q
      obtain ⟨hl, rfl⟩ := at_i h1
      rw [List.getElem?_set_ne n] at h2
      rw [hi hl] at h3
      cases h3
      exact sep k s' x' b (Ne.symm n) h2 h4 l2 l1
    · rw [List.getElem?_set_ne (Ne.symm q)] at h1
      by_cases q2 : k = i
      · subst q2
        obtain ⟨hl, rfl⟩ := at_i h2
        rw [hi hl] at h4
        cases h4
        exact sep j s x b q h1 h3 l1 l2
      · rw [List.getElem?_set_ne (Ne.symm q2)] at h2
        exact sep0 j k s s' x x' b q q2 n h1 h2 m1 h3 h4 l1 l2
/-- the slot i is set to a value, and holds what was held by nobody -/
theorem EnvOk.newG {i : Nat} {s₀ : Sl} {v : V} (e : EnvOk K S F H σ ρ) (hn : ∀ (j : Nat) (s : Sl) (x : Option V) (a : Addr), j ≠ i → ρ[j]? = some s → σ[j]? = some x → s.loc x a → s₀.loc (some v) a → False) (ok : SlOk K S F H (some v) s₀) : EnvOk K S F H (σ.set i (some v)) (ρ.set i s₀) := by
  refine EnvOk.put (x₀ := some v) (by rw [List.length_set, e.len]) (fun j n x t h1 h2 => ?_) (fun hl => List.getElem?_set_self (by rw [e.len]; exact hl)) ok (fun j t x a n h1 h2 l1 l2 => ?_) (fun j k t t' x x' b n1 n2 n3 h1 h2 m1 h3 h4 => ?_)
  · rw [List.getElem?_set_ne (Ne.symm n)] at h1
    exact e.ok j x t h1 h2
  · rw [List.getElem?_set_ne (Ne.symm n)] at h2
    exact hn j t x a n h1 h2 l1 l2
  · rw [List.getElem?_set_ne (Ne.symm n1)] at h3
    rw [List.getElem?_set_ne (Ne.symm n2)] at h4
    exact e.sep j k t t' x x' b n3 h1 h2 m1 h3 h4
/-- a slot is set to a value -/
theorem EnvOk.set {i : Nat} {d : D} {v : V} (e : EnvOk K S F H σ ρ) (h : Dat K S F d v) : EnvOk K S F H (σ.set i (some v)) (ρ.set i (.val d)) :=
  e.newG (fun _ _ _ _ _ _ _ _ z => z.elim) ⟨v, rfl, h⟩
theorem OwnNew.newG {i : Nat} {s₀ : Sl} {v : V} (o : OwnNew H0 σ ρ) (ha : s₀.mine = true → ∀ a, s₀.loc (some v) a → Nt H0 a) : OwnNew H0 (σ.set i (some v)) (ρ.set i s₀) := by
  intro j t x b h1 m h2 l
  by_cases q : i = j
  · subst q
    have hl : i < σ.length := by have := (List.getElem?_eq_some_iff.mp h2).1; rw [List.length_set] at this; exact this
    have hr : i < ρ.length := by have := (List.getElem?_eq_some_iff.mp h1).1; rw [List.length_set] at this; exact this
    rw [List.getElem?_set_self hl] at h2
    rw [List.getElem?_set_self hr] at h1
    cases h1; cases h2
    exact ha m b l
  · rw [List.getElem?_set_ne q] at h1 h2
    exact o j t x b h1 m h2 l
theorem OwnNew.set {i : Nat} {d : D} {v : V} (o : OwnNew H0 σ ρ) : OwnNew H0 (σ.set i (some v)) (ρ.set i (.val d)) := o.newG fun m => by cases m
/-- the cells of other slots stay when the cell a changes -/
theorem SlOk.mut {x : Option V} {s : Sl} {a : Addr} {o : HO} (h : SlOk K S F H x s) (n : ¬ s.loc x a) : SlOk K S F (upd H a o) x s := by
  cases s with
  | un => exact trivial
  | val d => exact h
  | own ds =>
    obtain ⟨b, vs, e, p, h1, h2⟩ := h
    exact ⟨b, vs, e, p, upd_old h1 (fun z => n (by rw [e, z]; rfl)), h2⟩
  | slf b dx C ns ds =>
    obtain ⟨gs, e, p, h1, h2, h3⟩ := h
    exact ⟨gs, e, p, upd_old h1 (fun z => n (by rw [e, z]; rfl)), h2, h3⟩
  | bor ds =>
    obtain ⟨b, vs, e, p, h1, h2⟩ := h
    exact ⟨b, vs, e, p, upd_old h1 (fun z => n (by rw [e, z]; rfl)), h2⟩
  | obj m d γ =>
    obtain ⟨v, e, h1, h2⟩ := h
    exact ⟨v, e, h1, h2.mut n⟩
/-- a cell of one's own changes, in its place -/
theorem EnvOk.mut {i : Nat} {s s₀ : Sl} {a : Addr} {o : HO} {x : Option V} (e : EnvOk K S F H σ ρ) (hi : σ[i]? = some x) (hs : ρ[i]? = some s) (hm : s.mine = true) (ok : SlOk K S F (upd H a o) x s₀) (ha : s.loc x a := by exact rfl) (hl : ∀ b, s₀.loc x b → s.loc x b := by exact fun _ z => z) : EnvOk K S F (upd H a o) σ (ρ.set i s₀) := by
  refine EnvOk.put (x₀ := x) e.len (fun j n y t h1 h2 => (e.ok j y t h1 h2).mut fun l => ?_) (fun _ => hi) ok (fun j t y b n h1 h2 l1 l2 => ?_) (fun j k t t' y y' b n1 n2 n3 h1 h2 m1 h3 h4 => e.sep j k t t' y y' b n3 h1 h2 m1 h3 h4)
  · exact e.sep i j s t x y a (Ne.symm n) hs h2 hm hi h1 ha l
  · exact e.sep i j s t x y b (Ne.symm n) hs h1 hm hi h2 (hl b l2) l1
theorem OwnNew.mut {i : Nat} {s s₀ : Sl} (o : OwnNew H0 σ ρ) (hs : ρ[i]? = some s) (hm : s.mine = true) (hl : ∀ x b, s₀.loc x b → s.loc x b := by exact fun _ _ z => z) : OwnNew H0 σ (ρ.set i s₀) := by
  intro j t x a h1 m h2 l
  by_cases q : i = j
  · subst q
    have hr : i < ρ.length := by have := (List.getElem?_eq_some_iff.mp h1).1; rw [List.length_set] at this; exact this
    rw [List.getElem?_set_self hr] at h1
    cases h1
    exact o i s x a hs hm h2 (hl x a l)
  · rw [List.getElem?_set_ne q] at h1
    exact o j t x a h1 m h2 l
/-- a new cell, owned by the slot i -/
theorem EnvOk.new {i : Nat} {s₀ : Sl} {a : Addr} (e : EnvOk K S F H σ ρ) (hi : i < σ.length) (hn : ∀ (j : Nat) (s : Sl), ρ[j]? = some s → ∀ x, σ[j]? = some x → ¬ s.loc x a) (ok : SlOk K S F H (some (.ref a)) s₀) (hl : ∀ b, s₀.loc (some (.ref a)) b → b = a := by intro b z; cases z; rfl) : EnvOk K S F H (σ.set i (some (.ref a))) (ρ.set i s₀) :=
  e.newG (fun j s x b _ h1 h2 l1 l2 => by rw [hl b l2] at l1; exact hn j s h1 x h2 l1) ok
theorem OwnNew.new {i : Nat} {s₀ : Sl} {a : Addr} (o : OwnNew H0 σ ρ) (ha : Nt H0 a) (hl : ∀ b, s₀.loc (some (.ref a)) b → b = a := by intro b z; cases z; rfl) : OwnNew H0 (σ.set i (some (.ref a))) (ρ.set i s₀) := o.newG fun _ b l => by rw [hl b l]; exact ha
theorem SlOk.fresh {a : Addr} {x : Option V} {s : Sl} (ok : SlOk K S F H x s) (n : Nt H a) : ¬ s.loc x a := by
  intro z
  cases s with
  | un => exact z
  | val d => exact z
  | own ds =>
    obtain ⟨b, vs, e1, _, h2, _⟩ := ok
    subst e1
    cases z
    exact n _ h2 noT_l
  | slf b dx C ns ds =>
    obtain ⟨gs, e1, _, h2, _⟩ := ok
    subst e1
    cases z
    exact n _ h2 noT_i
  | bor ds =>
    obtain ⟨b, vs, e1, _, h2, _⟩ := ok
    subst e1
    cases z
    exact n _ h2 noT_l
  | obj m d γ =>
    obtain ⟨v, e1, _, h2⟩ := ok
    obtain ⟨⟨b, c⟩, hm, rfl⟩ := List.mem_map.mp z
    obtain ⟨_, o, e, q⟩ := h2.ok b c hm
    exact n _ e q.no
theorem EnvOk.fresh {a : Addr} (e : EnvOk K S F H σ ρ) (n : Nt H a) : ∀ (j : Nat) (s : Sl), ρ[j]? = some s → ∀ x, σ[j]? = some x → ¬ s.loc x a := fun j s h x z => (e.ok j x s z h).fresh n
theorem GhOk.frz {γ : Gh} {a : Addr} {o : HO} (h : GhOk K S F H γ) (nF : F a = none) (n : a ∉ γ.map Prod.fst) : GhOk K S (upd F a o) H γ := ⟨h.nd, fun b c hm => by
  obtain ⟨⟨p1, p2⟩, u, e, q⟩ := h.ok b c hm
  have nb : b ≠ a := fun z => n (z ▸ List.mem_map.mpr ⟨_, hm, rfl⟩)
  exact ⟨⟨by rw [upd_ne nb]; exact p1, p2⟩, u, e, q.mono fun b u q => upd_new q nF⟩⟩
theorem SlOk.frz {x : Option V} {s : Sl} {a : Addr} {o : HO} (h : SlOk K S F H x s) (nF : F a = none) (n : ¬ s.loc x a) : SlOk K S (upd F a o) H x s := by
  have sm : Same F (upd F a o) := fun b u q => upd_new q nF
  cases s with
  | un => exact trivial
  | val d' =>
    obtain ⟨v, e1, e2⟩ := h
    exact ⟨v, e1, Dat.mono sm d' e2⟩
  | own ds =>
    obtain ⟨b, vs, e1, ⟨p1, p2⟩, h3, h4⟩ := h
    have nb : b ≠ a := fun z => n (by rw [e1, z]; rfl)
    exact ⟨b, vs, e1, ⟨by rw [upd_ne nb]; exact p1, p2⟩, h3, Dats.mono sm ds h4⟩
  | slf b dx C ns ds =>
    obtain ⟨gs, e1, ⟨p1, p2⟩, h3, h4, h5⟩ := h
    have nb : b ≠ a := fun z => n (by rw [e1, z]; rfl)
    exact ⟨gs, e1, ⟨by rw [upd_ne nb]; exact p1, p2⟩, h3, h4, Dats.mono sm ds h5⟩
  | bor ds =>
    obtain ⟨b, vs, e1, ⟨p1, p2⟩, h3, h4⟩ := h
    have nb : b ≠ a := fun z => n (by rw [e1, z]; rfl)
    exact ⟨b, vs, e1, ⟨by rw [upd_ne nb]; exact p1, p2⟩, h3, Dats.mono sm ds h4⟩
  | obj m d γ =>
    obtain ⟨v, e1, h3, h4⟩ := h
    exact ⟨v, e1, Dat.mono sm d h3, h4.frz nF n⟩
/-- a slot is frozen -/
theorem EnvOk.frz {i : Nat} {s : Sl} {d : D} {a : Addr} {o : HO} {x : Option V} (e : EnvOk K S F H σ ρ) (hi : σ[i]? = some x) (hs : ρ[i]? = some s) (hm : s.mine = true) (nF : F a = none) (hd : ∃ v, x = some v ∧ Dat K S (upd F a o) d v) (ha : s.loc x a := by exact rfl) : EnvOk K S (upd F a o) H σ (ρ.set i (.val d)) :=
  EnvOk.put (x₀ := x) e.len (fun j n y t h1 h2 => (e.ok j y t h1 h2).frz nF fun l => e.sep i j s t x y a (Ne.symm n) hs h2 hm hi h1 ha l) (fun _ => hi) hd (fun _ _ _ _ _ _ _ _ z => z.elim) (fun j k t t' y y' b n1 n2 n3 h1 h2 m1 h3 h4 => e.sep j k t t' y y' b n3 h1 h2 m1 h3 h4)
end
end
end
/-! Readings at the level of data: judgements and rules. -/
section
set_option maxRecDepth 100000
set_option maxHeartbeats 2000000
section
variable (K : PySem.W.Frag) (S : Sx)
def EvD (te : TE) (ρ : List Sl) (Φ : D → Prop) : Prop := ∀ (σ : L2.St) (F H : Hp), EnvOk K S F H σ ρ → Same F H → DrI S F H → ∀ Q : VK, (∀ v d F' H', Φ d → Dat K S F' d v → Ag S F H F' H' → Q v H') → te σ H Q
def EvA (ta : TA) (ρ : List Sl) (Φ : List D → Prop) : Prop := ∀ (σ : L2.St) (F H : Hp), EnvOk K S F H σ ρ → Same F H → DrI S F H → ∀ Q : List V → Hp → Prop, (∀ vs ds F' H', Φ ds → Dats K S F' ds vs → Ag S F H F' H' → Q vs H') → ta σ H Q
def EvT (tt : TT) (ρ : List Sl) (Φ : Bool → Prop) : Prop := ∀ (σ : L2.St) (F H : Hp), EnvOk K S F H σ ρ → Same F H → DrI S F H → ∀ Q : Bool → Hp → Prop, (∀ b F' H', Φ b → Ag S F H F' H' → Q b H') → tt σ H Q
/-- a new list -/
def EvN (te : TE) (ρ : List Sl) (Φ : List D → Prop) : Prop := ∀ (σ : L2.St) (F H : Hp), EnvOk K S F H σ ρ → Same F H → DrI S F H → ∀ Q : VK, (∀ a vs ds F' H', Φ ds → Nt H a → F' a = none → H' a = some (.lst vs) → Dats K S F' ds vs → Ag S F H F' H' → Q (.ref a) H') → te σ H Q
def OpD (r : R2) (x y : D) (Φ : D → Prop) : Prop := ∀ (u w : V) (F H : Hp), Same F H → DrI S F H → Dat K S F x u → Dat K S F y w → ∀ Q : VK, (∀ v d F' H', Φ d → Dat K S F' d v → Ag S F H F' H' → Q v H') → r u w H Q
def OpN (r : R2) (x y : D) (Φ : List D → Prop) : Prop := ∀ (u w : V) (F H : Hp), Same F H → DrI S F H → Dat K S F x u → Dat K S F y w → ∀ Q : VK, (∀ a vs ds F' H', Φ ds → Nt H a → F' a = none → H' a = some (.lst vs) → Dats K S F' ds vs → Ag S F H F' H' → Q (.ref a) H') → r u w H Q
def UnD (r : V → Hp → VK → Prop) (x : D) (Φ : D → Prop) : Prop := ∀ (u : V) (F H : Hp), Same F H → DrI S F H → Dat K S F x u → ∀ Q : VK, (∀ v d F' H', Φ d → Dat K S F' d v → Ag S F H F' H' → Q v H') → r u H Q
def CbD (r : List V → Hp → VK → Prop) (xs : List D) (Φ : D → Prop) : Prop := ∀ (us : List V) (F H : Hp), Same F H → DrI S F H → Dats K S F xs us → ∀ Q : VK, (∀ v d F' H', Φ d → Dat K S F' d v → Ag S F H F' H' → Q v H') → r us H Q
def CbN (r : List V → Hp → VK → Prop) (xs : List D) (Φ : List D → Prop) : Prop := ∀ (us : List V) (F H : Hp), Same F H → DrI S F H → Dats K S F xs us → ∀ Q : VK, (∀ a vs ds F' H', Φ ds → Nt H a → F' a = none → H' a = some (.lst vs) → Dats K S F' ds vs → Ag S F H F' H' → Q (.ref a) H') → r us H Q
/-- what a walk gives -/
def ItOk (F1 : Hp) (J : It) (its : List D) : Prop := ∃ Y, Walk J its.length (fun H2 => Same F1 H2) Y ∧ ∀ i H2 x H3 F2, i < its.length → Same F1 F2 → Same F2 H2 → DrI S F2 H2 → Y i H2 x H3 → ∃ d F3, its[i]? = some d ∧ Dat K S F3 d x ∧ Ag S F2 H2 F3 H3
def EvI (wi : TI) (ρ : List Sl) (Φ : List D → Prop) : Prop := ∀ (σ : L2.St) (F H : Hp), EnvOk K S F H σ ρ → Same F H → DrI S F H → ∀ R : It → Hp → Prop, (∀ J its F' H', Φ its → Ag S F H F' H' → ItOk K S F' J its → R J H') → wi σ H R
def TgD (g : TG) (L : Nat → Prop) (d : D) (ρ : List Sl) (Ψ : List Sl → Prop) : Prop := ∀ (v : V) (σ : L2.St) (F H : Hp), EnvOk K S F H σ ρ → Dat K S F d v → Same F H → ∀ N : L2.St → Hp → Prop,
  (∀ σ' ρ', Ψ ρ' → EnvOk K S F H σ' ρ' → (∀ H0, OwnNew H0 σ ρ → OwnNew H0 σ' ρ') → (σ'.length = σ.length ∧ (∀ k : Nat, ¬ L k → σ'[k]? = σ[k]?) ∧ ∀ (k : Nat) (s : Sl), ρ'[k]? = some s → s.held = true → ρ[k]? = some s) → N σ' H) → g v σ H N
def TgsD (g : TGs) (L : Nat → Prop) (ds : List D) (ρ : List Sl) (Ψ : List Sl → Prop) : Prop := ∀ (vs : List V) (σ : L2.St) (F H : Hp), EnvOk K S F H σ ρ → Dats K S F ds vs → Same F H → ∀ N : L2.St → Hp → Prop,
  (∀ σ' ρ', Ψ ρ' → EnvOk K S F H σ' ρ' → (∀ H0, OwnNew H0 σ ρ → OwnNew H0 σ' ρ') → (σ'.length = σ.length ∧ (∀ k : Nat, ¬ L k → σ'[k]? = σ[k]?) ∧ ∀ (k : Nat) (s : Sl), ρ'[k]? = some s → s.held = true → ρ[k]? = some s) → N σ' H) → g vs σ H N
structure Oc where
  nx : List Sl → Prop
  rt : D → Prop
  bk : List Sl → Prop := fun _ => False
  ct : List Sl → Prop := fun _ => False
  ro : List D → Prop := fun _ => False
  rx : D → Gh → Prop := fun _ _ => False
structure Fin (F0 H0 : Hp) (O : Oc) (E : Ends) : Prop where
  nx : ∀ σ ρ F H, O.nx ρ → EnvOk K S F H σ ρ → OwnNew H0 σ ρ → Ag S F0 H0 F H → E.nx σ H
  rt : ∀ v d F H, O.rt d → Dat K S F d v → Ag S F0 H0 F H → E.rt v H
  bk : ∀ σ ρ F H, O.bk ρ → EnvOk K S F H σ ρ → OwnNew H0 σ ρ → Ag S F0 H0 F H → E.bk σ H
  ct : ∀ σ ρ F H, O.ct ρ → EnvOk K S F H σ ρ → OwnNew H0 σ ρ → Ag S F0 H0 F H → E.ct σ H
  ro : ∀ a vs ds F H, O.ro ds → Nt H0 a → F a = none → H a = some (.lst vs) → Dats K S F ds vs → Ag S F0 H0 F H → E.rt (.ref a) H
  rx : ∀ v d γ F H, O.rx d γ → Dat K S F d v → GhOk K S F H γ → (∀ a, a ∈ γ.map Prod.fst → Nt H0 a) → Ag S F0 H0 F H → E.rt v H
def ExD (ts : TS) (ρ : List Sl) (O : Oc) : Prop := ∀ (F0 H0 : Hp) (σ : L2.St) (F H : Hp), EnvOk K S F H σ ρ → OwnNew H0 σ ρ → Ag S F0 H0 F H → DrI S F0 H0 → ∀ E : Ends, Fin K S F0 H0 O E → ts E σ H
end
section
variable {K : PySem.W.Frag} {S : Sx} {ρ : List Sl} {Φ : D → Prop} {Ψ : List D → Prop} {Χ : Bool → Prop} {O : Oc} {ta tb tc te : TE} {tr : TA} {tt tu : TT} {t u : TS} {g : TG} {gs : TGs} {wi : TI} {r : R2} {L : Nat → Prop} {Θ : List Sl → Prop} {i j : Nat} {d x y : D} {ds xs : List D}

/-! ### weakening -/
theorem EvD.imp {Φ' : D → Prop} (h : EvD K S te ρ Φ') (k : ∀ d, Φ' d → Φ d) : EvD K S te ρ Φ := fun σ F H e s dr Q q => h σ F H e s dr Q fun v d F' H' hd => q v d F' H' (k d hd)
theorem EvT.imp {Χ' : Bool → Prop} (h : EvT K S tt ρ Χ') (k : ∀ b, Χ' b → Χ b) : EvT K S tt ρ Χ := fun σ F H e s dr Q q => h σ F H e s dr Q fun v F' H' hd => q v F' H' (k v hd)
theorem EvN.imp {Ψ' : List D → Prop} (h : EvN K S te ρ Ψ') (k : ∀ d, Ψ' d → Ψ d) : EvN K S te ρ Ψ := fun σ F H e s dr Q q => h σ F H e s dr Q fun a vs ds F' H' hd => q a vs ds F' H' (k ds hd)
theorem ev_new (h : EvN K S te ρ fun ds => Φ (.lst ds)) : EvD K S te ρ Φ := fun σ F H e s dr Q q => h σ F H e s dr Q fun a vs ds F' H' hd n nF hl hds g => by
  have g2 := g.frz dr n nF hl (fun s e => (dr.1.ne n s e).1)
  exact q (.ref a) (.lst ds) _ H' hd ⟨a, vs, rfl, upd_same, Dats.mono (fun b u q => upd_new q nF) ds hds⟩ g2

/-! ### expressions -/
theorem ev_var (h : ρ[i]? = some (.val d)) (k : Φ d) : EvD K S (tVar i) ρ Φ := fun σ F H e s dr Q q => by
  obtain ⟨v, h1, h2⟩ := e.val h
  exact ⟨v, h1, q v d F H k h2 (Ag.refl s dr)⟩
def cD : V → D
  | .non => .non | .bl b => .bl b | .int i => .int i | .str s => .str s
  | v => .raw v
theorem cD_ok (F : Hp) (v : V) : Dat K S F (cD v) v := by cases v <;> exact rfl
theorem ev_c {v : V} (k : Φ (cD v)) : EvD K S (tC v) ρ Φ := fun σ F H e s dr Q q => q v _ F H k (cD_ok F v) (Ag.refl s dr)
theorem ev_ci {n : Int} (k : Φ (.int n)) : EvD K S (tC (.int n)) ρ Φ := ev_c k
theorem ev_cs {n : Str} (k : Φ (.str n)) : EvD K S (tC (.str n)) ρ Φ := ev_c k
theorem ev_cb {n : Bool} (k : Φ (.bl n)) : EvD K S (tC (.bl n)) ρ Φ := ev_c k
theorem ev_cn (k : Φ .non) : EvD K S (tC .non) ρ Φ := ev_c k
theorem ev_cr {a : Addr} (k : Φ (.raw (.ref a))) : EvD K S (tC (.ref a)) ρ Φ := ev_c k
theorem ev_ct {a : String} (k : Φ (.raw (.ty a))) : EvD K S (tC (.ty a)) ρ Φ := ev_c k
/-- a thing of the module -/
theorem ev_cK {v : V} (h : ∀ S F, Dat K S F d v) (k : Φ d) : EvD K S (tC v) ρ Φ := fun σ F H e s dr Q q => q v _ F H k (h S F) (Ag.refl s dr)
theorem ev_op (h : EvD K S ta ρ fun x => EvD K S tb ρ fun y => OpD K S r x y Φ) : EvD K S (tOp r ta tb) ρ Φ := fun σ F H e s dr Q q =>
  h σ F H e s dr _ fun u x F1 H1 hx dx g1 => hx σ F1 H1 (e.ag g1) g1.ok g1.dr _ fun w y F2 H2 hy dy g2 => hy u w F2 H2 g2.ok g2.dr (Dat.mono g2.fs x dx) dy Q fun v d F3 H3 hd dd g3 => q v d F3 H3 hd dd ((g1.trans g2 dr).trans g3 dr)
theorem evN_op (h : EvD K S ta ρ fun x => EvD K S tb ρ fun y => OpN K S r x y Ψ) : EvN K S (tOp r ta tb) ρ Ψ := fun σ F H e s dr Q q =>
  h σ F H e s dr _ fun u x F1 H1 hx dx g1 => hx σ F1 H1 (e.ag g1) g1.ok g1.dr _ fun w y F2 H2 hy dy g2 => hy u w F2 H2 g2.ok g2.dr (Dat.mono g2.fs x dx) dy Q fun a vs ds F3 H3 hd n nF hl dd g3 => by
    have g := g1.trans g2 dr
    exact q a vs ds F3 H3 hd (g.backN n) nF hl dd (g.trans g3 dr)
theorem ev_un {f : V → Hp → VK → Prop} (h : EvD K S ta ρ fun x => UnD K S f x Φ) : EvD K S (tUn f ta) ρ Φ := fun σ F H e s dr Q q =>
  h σ F H e s dr _ fun u x F1 H1 hx dx g1 => hx u F1 H1 g1.ok g1.dr dx Q fun v d F2 H2 hd dd g2 => q v d F2 H2 hd dd (g1.trans g2 dr)
theorem ev_nil (k : Ψ []) : EvA K S tNil ρ Ψ := fun σ F H e s dr Q q => q [] [] F H k rfl (Ag.refl s dr)
theorem ev_cons (h : EvD K S te ρ fun x => EvA K S tr ρ fun xs => Ψ (x :: xs)) : EvA K S (tCons te tr) ρ Ψ := fun σ F H e s dr Q q =>
  h σ F H e s dr _ fun u x F1 H1 hx dx g1 => hx σ F1 H1 (e.ag g1) g1.ok g1.dr _ fun ws ys F2 H2 hy dy g2 => q (u :: ws) (x :: ys) F2 H2 hy ⟨u, ws, rfl, Dat.mono g2.fs x dx, dy⟩ (g1.trans g2 dr)
theorem ev_cb1 {f : List V → Hp → VK → Prop} (h : EvA K S tr ρ fun xs => CbD K S f xs Φ) : EvD K S (tCB f tr) ρ Φ := fun σ F H e s dr Q q =>
  h σ F H e s dr _ fun u x F1 H1 hx dx g1 => hx u F1 H1 g1.ok g1.dr dx Q fun v d F2 H2 hd dd g2 => q v d F2 H2 hd dd (g1.trans g2 dr)
theorem evN_cb1 {f : List V → Hp → VK → Prop} (h : EvA K S tr ρ fun xs => CbN K S f xs Ψ) : EvN K S (tCB f tr) ρ Ψ := fun σ F H e s dr Q q =>
  h σ F H e s dr _ fun u x F1 H1 hx dx g1 => hx u F1 H1 g1.ok g1.dr dx Q fun a vs ds F2 H2 hd n nF hl dd g2 => q a vs ds F2 H2 hd (g1.backN n) nF hl dd (g1.trans g2 dr)
def fewD (xs : List D) (A : Prop) : Prop := xs.length < 10000 ∧ A
theorem few_mk {A : Prop} (h : xs.length < 10000) (k : A) : fewD xs A := ⟨h, k⟩
theorem ev_tup (h : EvA K S tr ρ fun xs => fewD xs (Φ (.tup xs))) : EvD K S (tTup tr) ρ Φ := fun σ F H e s dr Q q =>
  h σ F H e s dr _ fun u x F1 H1 hx dx g1 => ⟨by rw [dx.length]; exact Nat.le_trans (Nat.le_of_lt hx.1) (by decide), fun p np => by
    have nF : F1 p = none := g1.ok.free np
    exact q (.ref p) (.tup x) _ _ hx.2 ⟨p, u, rfl, st_of upd_same, Dats.mono (fun b w z => upd_new z nF) x dx⟩ (g1.newF dr np)⟩
theorem evN_lst (h : EvA K S tr ρ fun xs => fewD xs (Ψ xs)) : EvN K S (tLst tr) ρ Ψ := fun σ F H e s dr Q q =>
  h σ F H e s dr _ fun u x F1 H1 hx dx g1 => ⟨by rw [dx.length]; exact Nat.le_trans (Nat.le_of_lt hx.1) (by decide), fun p np =>
    q p u x F1 _ hx.2 (g1.back np) (g1.ok.free np) upd_same dx (g1.newH dr np)⟩
theorem ev_lst (h : EvA K S tr ρ fun xs => fewD xs (Φ (.lst xs))) : EvD K S (tLst tr) ρ Φ := ev_new (evN_lst h)
theorem ev_if (h : EvT K S tt ρ fun b => if b = true then EvD K S ta ρ Φ else EvD K S tb ρ Φ) : EvD K S (tIf tt ta tb) ρ Φ := fun σ F H e s dr Q q =>
  h σ F H e s dr _ fun b F1 H1 hb g1 => by
    cases b with
    | true => exact hb σ F1 H1 (e.ag g1) g1.ok g1.dr Q fun v d F2 H2 hd dd g2 => q v d F2 H2 hd dd (g1.trans g2 dr)
    | false => exact hb σ F1 H1 (e.ag g1) g1.ok g1.dr Q fun v d F2 H2 hd dd g2 => q v d F2 H2 hd dd (g1.trans g2 dr)
def isB (x : D) (Χ : Bool → Prop) : Prop := ∃ b, x = .bl b ∧ Χ b
theorem isB_mk {b : Bool} (h : Χ b) : isB (.bl b) Χ := ⟨b, rfl, h⟩
theorem ev_and (h : EvD K S ta ρ fun x => isB x fun b => if b = true then EvD K S tb ρ Φ else Φ (.bl false)) : EvD K S (tAndV ta tb) ρ Φ := fun σ F H e s dr Q q =>
  h σ F H e s dr _ fun v d F1 H1 ⟨b, eb, hb⟩ dd g1 => by
    subst eb
    refine ⟨b, dd, ?_⟩
    cases b with
    | true => exact hb σ F1 H1 (e.ag g1) g1.ok g1.dr Q fun v d F2 H2 hd dd g2 => q v d F2 H2 hd dd (g1.trans g2 dr)
    | false => exact q _ _ F1 H1 hb rfl g1
theorem ev_or (h : EvD K S ta ρ fun x => isB x fun b => if b = true then Φ (.bl true) else EvD K S tb ρ Φ) : EvD K S (tOrV ta tb) ρ Φ := fun σ F H e s dr Q q =>
  h σ F H e s dr _ fun v d F1 H1 ⟨b, eb, hb⟩ dd g1 => by
    subst eb
    refine ⟨b, dd, ?_⟩
    cases b with
    | false => exact hb σ F1 H1 (e.ag g1) g1.ok g1.dr Q fun v d F2 H2 hd dd g2 => q v d F2 H2 hd dd (g1.trans g2 dr)
    | true => exact q _ _ F1 H1 hb rfl g1
theorem ev_not (h : EvD K S ta ρ fun x => isB x fun b => Φ (.bl (!b))) : EvD K S (tNotV ta) ρ Φ := fun σ F H e s dr Q q =>
  h σ F H e s dr _ fun v d F1 H1 ⟨b, eb, hb⟩ dd g1 => by
    subst eb
    exact ⟨b, dd, q _ _ F1 H1 hb rfl g1⟩
theorem ev_chain {r' : R2} (h : EvD K S ta ρ fun x => EvD K S tb ρ fun y => OpD K S r x y fun z => isB z fun k => if k = true then EvD K S tc ρ fun w => OpD K S r' y w Φ else Φ (.bl false)) : EvD K S (tChain r r' ta tb tc) ρ Φ := fun σ F H e s dr Q q =>
  h σ F H e s dr _ fun u x F1 H1 hx dx g1 => hx σ F1 H1 (e.ag g1) g1.ok g1.dr _ fun w y F2 H2 hy dy g2 => hy u w F2 H2 g2.ok g2.dr (Dat.mono g2.fs x dx) dy _ fun v d F3 H3 ⟨b, eb, hb⟩ dd g3 => by
    subst eb
    have g13 := (g1.trans g2 dr).trans g3 dr
    refine ⟨b, dd, ?_⟩
    cases b with
    | true => exact hb σ F3 H3 (e.ag g13) g3.ok g3.dr _ fun v' z F4 H4 hz dz g4 => hz w v' F4 H4 g4.ok g4.dr (Dat.mono (g3.fs.trans g4.fs) y dy) dz Q fun v5 d5 F5 H5 hd5 dd5 g5 => q v5 d5 F5 H5 hd5 dd5 ((g13.trans g4 dr).trans g5 dr)
    | false => exact q _ _ F3 H3 hb rfl g13

/-! ### tests -/
theorem et_test (h : EvD K S te ρ fun x => isB x Χ) : EvT K S (tTest te) ρ Χ := fun σ F H e s dr Q q =>
  h σ F H e s dr _ fun v d F1 H1 ⟨b, eb, hb⟩ dd g1 => by
    subst eb
    exact ⟨b, dd, q b F1 H1 hb g1⟩
theorem et_B (h : EvD K S te ρ fun x => isB x Χ) : EvT K S (tB te) ρ Χ := et_test h
theorem et_and (h : EvT K S tt ρ fun b => if b = true then EvT K S tu ρ Χ else Χ false) : EvT K S (tAnd tt tu) ρ Χ := fun σ F H e s dr Q q =>
  h σ F H e s dr _ fun b F1 H1 hb g1 => by
    cases b with
    | true => exact hb σ F1 H1 (e.ag g1) g1.ok g1.dr Q fun v F2 H2 hd g2 => q v F2 H2 hd (g1.trans g2 dr)
    | false => exact q _ F1 H1 hb g1
theorem et_or (h : EvT K S tt ρ fun b => if b = true then Χ true else EvT K S tu ρ Χ) : EvT K S (tOr tt tu) ρ Χ := fun σ F H e s dr Q q =>
  h σ F H e s dr _ fun b F1 H1 hb g1 => by
    cases b with
    | false => exact hb σ F1 H1 (e.ag g1) g1.ok g1.dr Q fun v F2 H2 hd g2 => q v F2 H2 hd (g1.trans g2 dr)
    | true => exact q _ F1 H1 hb g1
theorem et_not (h : EvT K S tt ρ fun b => Χ (!b)) : EvT K S (tNot tt) ρ Χ := fun σ F H e s dr Q q =>
  h σ F H e s dr _ fun b F1 H1 hb g1 => q _ F1 H1 hb g1
theorem et_yes (k : Χ true) : EvT K S tYes ρ Χ := fun σ F H e s dr Q q => q true F H k (Ag.refl s dr)

/-! ### borrowing -/
def Sl.fz : Sl → Sl
  | .own ds => .val (.lst ds)
  | .slf _ _ C ns ds => .val (.ins C ns ds)
  | .bor ds => .val (.lst ds)
  | .obj _ d _ => .val d
  | s => s
def frzE (ρ : List Sl) : List Sl := ρ.map Sl.fz
theorem fz_mine {s : Sl} (h : s.fz.mine = true) : False := by cases s <;> cases h
/-- no error is waited for -/
def Sx.nw (S : Sx) : Sx := { S with W := fun _ _ => True }
mutual
theorem Dat.cast {S' : Sx} {F : Hp} (h : S.ds = S'.ds) : ∀ (d : D) {v : V}, Dat K S F d v → Dat K S' F d v
  | .non, _, q => q
  | .bl _, _, q => q
  | .int _, _, q => q
  | .str _, _, q => q
  | .raw _, _, q => q
  | .any, _, q => q
  | .drw, _, ⟨s, e, q⟩ => ⟨s, h ▸ e, q⟩
  | .tup ds, _, ⟨a, vs, e, h1, h2⟩ => ⟨a, vs, e, h1, Dats.cast h ds h2⟩
  | .lst ds, _, ⟨a, vs, e, h1, h2⟩ => ⟨a, vs, e, h1, Dats.cast h ds h2⟩
  | .ins _ _ ds, _, ⟨a, dx, gs, e, h1, h2, h3⟩ => ⟨a, dx, gs, e, h1, h2, Dats.cast h ds h3⟩
  | .dk _ ds, _, ⟨a, kvs, e, h1, h2, h3⟩ => ⟨a, kvs, e, h1, h2, Dats.cast h ds h3⟩
  | .pin _ d, _, ⟨e, q⟩ => ⟨e, Dat.cast h d q⟩
theorem Dats.cast {S' : Sx} {F : Hp} (h : S.ds = S'.ds) : ∀ (ds : List D) {vs : List V}, Dats K S F ds vs → Dats K S' F ds vs
  | [], _, q => q
  | d :: ds, _, ⟨v, us, e, h1, h2⟩ => ⟨v, us, e, Dat.cast h d h1, Dats.cast h ds h2⟩
end
theorem Prv.cast {S' : Sx} {F : Hp} {a : Addr} (h : S.ds = S'.ds) (p : Prv S F a) : Prv S' F a := ⟨p.1, fun s e => p.2 s (h ▸ e)⟩
theorem ClOk.cast {S' : Sx} {F : Hp} {c : Cl} {o : HO} (h : S.ds = S'.ds) (q : ClOk K S F c o) : ClOk K S' F c o := by
  cases c with
  | l ds => obtain ⟨vs, e, q⟩ := q; exact ⟨vs, e, Dats.cast h ds q⟩
  | i C ns ds => obtain ⟨dx, gs, e, h1, q⟩ := q; exact ⟨dx, gs, e, h1, Dats.cast h ds q⟩
  | k ks ds => obtain ⟨kvs, e, h1, q⟩ := q; exact ⟨kvs, e, h1, Dats.cast h ds q⟩
theorem GhOk.cast {S' : Sx} {F H : Hp} {γ : Gh} (h : S.ds = S'.ds) (q : GhOk K S F H γ) : GhOk K S' F H γ := ⟨q.nd, fun a c hm => by
  obtain ⟨p, o, e, r⟩ := q.ok a c hm
  exact ⟨p.cast h, o, e, r.cast h⟩⟩
theorem SlOk.cast {S' : Sx} {F H : Hp} {x : Option V} {s : Sl} (h : S.ds = S'.ds) (q : SlOk K S F H x s) : SlOk K S' F H x s := by
  cases s with
  | un => exact trivial
  | val d => obtain ⟨v, e, q⟩ := q; exact ⟨v, e, Dat.cast h d q⟩
  | own ds => obtain ⟨a, vs, e, p, h1, h2⟩ := q; exact ⟨a, vs, e, p.cast h, h1, Dats.cast h ds h2⟩
  | slf a dx C ns ds => obtain ⟨gs, e, p, h1, h2, h3⟩ := q; exact ⟨gs, e, p.cast h, h1, h2, Dats.cast h ds h3⟩
  | bor ds => obtain ⟨a, vs, e, p, h1, h2⟩ := q; exact ⟨a, vs, e, p.cast h, h1, Dats.cast h ds h2⟩
  | obj m d γ => obtain ⟨v, e, h1, h2⟩ := q; exact ⟨v, e, Dat.cast h d h1, h2.cast h⟩
theorem EnvOk.cast {S' : Sx} {F H : Hp} {σ : L2.St} (h : S.ds = S'.ds) (e : EnvOk K S F H σ ρ) : EnvOk K S' F H σ ρ := ⟨e.len, fun i x s h1 h2 => (e.ok i x s h1 h2).cast h, e.sep⟩
open Classical in
theorem borrow {F H : Hp} {σ : L2.St} (e : EnvOk K S F H σ ρ) (s : Same F H) (dr : DrI S F H) : ∃ F1, Same F F1 ∧ Same F1 H ∧ DrI S.nw F1 H ∧ EnvOk K S.nw F1 H σ (frzE ρ) ∧ ∀ b, (∃ (i : Nat) (t : Sl) (x : Option V), ρ[i]? = some t ∧ σ[i]? = some x ∧ t.loc x b) → F1 b = H b := by
  let W : Addr → Prop := fun b => ∃ (i : Nat) (t : Sl) (x : Option V), ρ[i]? = some t ∧ σ[i]? = some x ∧ t.loc x b
  have hW : ∀ b, W b → F b = none ∧ (∀ z, S.ds = some z → b ≠ z.st ∧ b ≠ z.c) ∧ ∀ o, H b = some o → NoT o := by
    rintro b ⟨i, t, x, h1, h2, l⟩
    have ok := e.ok i _ t h2 h1
    cases t with
    | un => exact l.elim
    | val d => exact l.elim
    | own ds => obtain ⟨a, vs, e1, p, h3, _⟩ := ok; subst e1; cases l; exact ⟨p.1, p.2, fun o q => by rw [h3] at q; cases q; exact noT_l⟩
    | slf a dx C ns ds => obtain ⟨gs, e1, p, h3, _⟩ := ok; subst e1; cases l; exact ⟨p.1, p.2, fun o q => by rw [h3] at q; cases q; exact noT_i⟩
    | bor ds => obtain ⟨a, vs, e1, p, h3, _⟩ := ok; subst e1; cases l; exact ⟨p.1, p.2, fun o q => by rw [h3] at q; cases q; exact noT_l⟩
    | obj m d γ =>
      obtain ⟨v, e1, _, h3⟩ := ok
      obtain ⟨⟨c, k⟩, hm, rfl⟩ := List.mem_map.mp l
      obtain ⟨p, o, h4, h5⟩ := h3.ok c k hm
      exact ⟨p.1, p.2, fun u q => by rw [h4] at q; cases q; exact h5.no⟩
  let F1 : Hp := fun b => if W b then H b else F b
  have s1 : Same F F1 := fun b o q => by
    show (if W b then H b else F b) = some o
    by_cases w : W b
    · rw [(hW b w).1] at q; cases q
    · rw [if_neg w]; exact q
  have s2 : Same F1 H := fun b o q => by
    have q' : (if W b then H b else F b) = some o := q
    by_cases w : W b
    · rw [if_pos w] at q'; exact q'
    · rw [if_neg w] at q'; exact s _ _ q'
  refine ⟨F1, s1, s2, ⟨⟨fun z ez => ⟨(dr.1.1 z ez).1, ?_⟩, dr.1.2.1, fun b o q => ?_⟩, fun _ _ _ => trivial⟩, EnvOk.cast (S := S) rfl ⟨by rw [frzE, List.length_map]; exact e.len, fun i x t h1 h2 => ?_, fun i j t t' _ _ a n h1 h2 m1 => ?_⟩, fun b w => if_pos w⟩
  · show (if W z.st then H z.st else F z.st) = none
    by_cases w : W z.st
    · exact absurd rfl ((hW _ w).2.1 z ez).1
    · rw [if_neg w]; exact (dr.1.1 z ez).2
  · have q' : (if W b then H b else F b) = some o := q
    by_cases w : W b
    · exact (hW b w).2.2 o (s2 _ _ q)
    · rw [if_neg w] at q'; exact dr.1.2.2 b o q'
  · rw [frzE, List.getElem?_map] at h2
    cases q : ρ[i]? with
    | none => rw [q] at h2; cases h2
    | some t0 =>
      rw [q] at h2
      cases h2
      have ok := e.ok i x t0 h1 q
      cases t0 with
      | un => exact trivial
      | val d =>
        obtain ⟨v, e1, e2⟩ := ok
        exact ⟨v, e1, Dat.mono s1 d e2⟩
      | own ds =>
        obtain ⟨a, vs, e1, _, h3, h4⟩ := ok
        subst e1
        exact ⟨_, rfl, a, vs, rfl, (if_pos ⟨i, _, _, q, h1, rfl⟩ : F1 a = H a).trans h3, Dats.mono s1 ds h4⟩
      | slf a dx C ns ds =>
        obtain ⟨gs, e1, _, h3, h4, h5⟩ := ok
        subst e1
        exact ⟨_, rfl, a, dx, gs, rfl, (if_pos ⟨i, _, _, q, h1, rfl⟩ : F1 a = H a).trans h3, h4, Dats.mono s1 ds h5⟩
      | bor ds =>
        obtain ⟨a, vs, e1, _, h3, h4⟩ := ok
        subst e1
        exact ⟨_, rfl, a, vs, rfl, (if_pos ⟨i, _, _, q, h1, rfl⟩ : F1 a = H a).trans h3, Dats.mono s1 ds h4⟩
      | obj m d γ =>
        obtain ⟨v, e1, h3, _⟩ := ok
        exact ⟨v, e1, Dat.mono s1 d h3⟩
  · rw [frzE, List.getElem?_map] at h1
    cases q : ρ[i]? with
    | none => rw [q] at h1; cases h1
    | some t0 => rw [q] at h1; cases h1; exact (fz_mine m1).elim
theorem Ag.unborrow {F F1 H F' H' : Hp} (s1 : Same F F1) (s : Same F H) (dr : DrI S F H) (g : Ag S.nw F1 H F' H') : Ag S F H F H' :=
  Ag0.up ⟨Same.refl F, (s1.trans g.fs).trans g.ok, g.ch, fun _ e => .inl e, ⟨fun z ez => ⟨(g.st.1 z ez).1, (dr.1.1 z ez).2⟩, g.st.2.1, dr.1.2.2⟩⟩ dr
theorem ev_bor (h : EvD K S.nw te (frzE ρ) fun d => d.flat = true ∧ Φ d) : EvD K S te ρ Φ := fun σ F H e s dr Q q => by
  obtain ⟨F1, s1, s2, d1, e1, _⟩ := borrow e s dr
  exact h σ F1 H e1 s2 d1 Q fun v d F' H' hd dd g => q v d F H' hd.2 ((Dat.cast (S := S.nw) (S' := S) rfl d dd).flat hd.1) (g.unborrow s1 s dr)
theorem et_bor (h : EvT K S.nw tt (frzE ρ) Χ) : EvT K S tt ρ Χ := fun σ F H e s dr Q q => by
  obtain ⟨F1, s1, s2, d1, e1, _⟩ := borrow e s dr
  exact h σ F1 H e1 s2 d1 Q fun b F' H' hb g => q b F H' hb (g.unborrow s1 s dr)
/-! ### targets -/
theorem tg_name (hi : L i) (k : Θ (ρ.set i (.val d))) : TgD K S (gName i) L d ρ Θ := fun v σ F H e dd s N q =>
  q _ _ k (e.set dd) (fun H0 o => o.set) ⟨List.length_set, fun j n => List.getElem?_set_ne (fun z : i = j => n (z ▸ hi)), fun k s h1 h2 => by
    by_cases q : i = k
    · subst q
      have hl : i < ρ.length := by have := (List.getElem?_eq_some_iff.mp h1).1; rw [List.length_set] at this; exact this
      rw [List.getElem?_set_self hl] at h1
      cases h1; cases h2
    · rw [List.getElem?_set_ne q] at h1; exact h1⟩
theorem tg_tup {n : Nat} (hl : ds.length = n) (h : TgsD K S gs L ds ρ Θ) : TgD K S (gTup K n gs) L (.tup ds) ρ Θ := fun v σ F H e dd s N q => by
  obtain ⟨a, vs, rfl, h1, h2⟩ := dd
  exact ⟨a, vs, rfl, st_sm s h1, h2.length.trans hl, h vs σ F H e h2 s N q⟩
theorem tg_unl {n : Nat} (hl : ds.length = n) (h : TgsD K S gs L ds ρ Θ) : TgD K S (gUnl K n gs) L (.lst ds) ρ Θ := fun v σ F H e dd s N q => by
  obtain ⟨a, vs, rfl, h1, h2⟩ := dd
  exact ⟨a, vs, rfl, sl_of (s _ _ h1), h2.length.trans hl, h vs σ F H e h2 s N q⟩
theorem tg_nil (k : Θ ρ) : TgsD K S gNil L [] ρ Θ := fun v σ F H e dd s N q => ⟨dd, q _ _ k e (fun _ o => o) ⟨rfl, fun _ _ => rfl, fun _ _ h _ => h⟩⟩
theorem tg_cons (h : TgD K S g L d ρ fun ρ' => TgsD K S gs L ds ρ' Θ) : TgsD K S (gCons g gs) L (d :: ds) ρ Θ := fun vs σ F H e dd s N q => by
  obtain ⟨v, us, rfl, h1, h2⟩ := dd
  refine ⟨v, us, rfl, h v σ F H e h1 s _ fun σ' ρ' hρ e' o' k' => hρ us σ' F H e' h2 s N fun σ2 ρ2 hρ2 e2 o2 k2 => q σ2 ρ2 hρ2 e2 (fun H0 o => o2 H0 (o' H0 o)) ⟨k2.1.trans k'.1, fun k n => (k2.2.1 k n).trans (k'.2.1 k n), fun k s h1 h2 => k'.2.2 k s (k2.2.2 k s h1 h2) h2⟩⟩

/-! ### statements -/
theorem ex_seq (h : ExD K S t ρ { O with nx := fun ρ' => ExD K S u ρ' O }) : ExD K S (tSeq t u) ρ O := fun F0 H0 σ F H e o a d0 E f =>
  h F0 H0 σ F H e o a d0 _ ⟨fun σ' ρ' F' H' hu e' o' a' => hu F0 H0 σ' F' H' e' o' a' d0 E f, f.rt, f.bk, f.ct, f.ro, f.rx⟩
theorem ex_mid (h : ∃ M : List Sl → Prop, ExD K S t ρ { O with nx := M } ∧ ∀ ρ', M ρ' → ExD K S u ρ' O) : ExD K S (tMid t u) ρ O := fun F0 H0 σ F H e o a d0 E f => by
  obtain ⟨M, h1, h2⟩ := h
  exact ⟨fun σ' H' => ∃ ρ' F', M ρ' ∧ EnvOk K S F' H' σ' ρ' ∧ OwnNew H0 σ' ρ' ∧ Ag S F0 H0 F' H', h1 F0 H0 σ F H e o a d0 _ ⟨fun σ' ρ' F' H' hm e' o' a' => ⟨ρ', F', hm, e', o', a'⟩, f.rt, f.bk, f.ct, f.ro, f.rx⟩, fun σ' H' ⟨ρ', F', hm, e', o', a'⟩ => h2 ρ' hm F0 H0 σ' F' H' e' o' a' d0 E f⟩
theorem ex_asg (h : EvD K S te ρ fun d => TgD K S g (fun _ => True) d ρ O.nx) : ExD K S (tAsg te g) ρ O := fun F0 H0 σ F H e o a d0 E f =>
  h σ F H e a.ok a.dr _ fun v d F1 H1 hd dd g1 => hd v σ F1 H1 (e.ag g1) dd g1.ok _ fun σ' ρ' hρ e' o' _ => f.nx σ' ρ' F1 H1 hρ e' (o' H0 o) (a.trans g1 d0)
theorem ex_set (h : EvD K S te ρ fun d => O.nx (ρ.set i (.val d))) : ExD K S (tAsg te (gName i)) ρ O := ex_asg (h.imp fun d k => tg_name trivial k)
theorem ex_new (hi : i < ρ.length) (h : EvN K S te ρ fun ds => O.nx (ρ.set i (.own ds))) : ExD K S (tAsg te (gName i)) ρ O := fun F0 H0 σ F H e o a d0 E f =>
  h σ F H e a.ok a.dr _ fun p vs ds F1 H1 hd n nF hl dd g1 => by
    refine f.nx _ _ F1 H1 hd (EnvOk.new (e.ag g1) (by rw [e.len]; exact hi) (fun j s q m => e.fresh n j s q m) ⟨p, vs, rfl, ⟨nF, a.dr.1.ne n⟩, hl, dd⟩) (o.new (a.backN n)) (a.trans g1 d0)
/-- x = a new list, which is changed later on -/
def tAsgO (te : TE) (g : TG) : TS := tAsg te g
theorem ps_own {X : Cx} {st : Stmt} {te : TE} {g : TG} (h : PS X st (tAsg te g)) : PS X st (tAsgO te g) := h
theorem ex_newO (hi : i < ρ.length) (h : EvN K S te ρ fun ds => O.nx (ρ.set i (.own ds))) : ExD K S (tAsgO te (gName i)) ρ O := ex_new hi h
theorem ex_drop (h : EvD K S te ρ fun _ => O.nx ρ) : ExD K S (tDrop te) ρ O := fun F0 H0 σ F H e o a d0 E f =>
  h σ F H e a.ok a.dr _ fun v d F1 H1 hd dd g1 => f.nx σ ρ F1 H1 hd (e.ag g1) o (a.trans g1 d0)
theorem ex_ret (h : EvD K S te ρ O.rt) : ExD K S (tRet te) ρ O := fun F0 H0 σ F H e o a d0 E f =>
  h σ F H e a.ok a.dr _ fun v d F1 H1 hd dd g1 => f.rt v d F1 H1 hd dd (a.trans g1 d0)
theorem ex_retN (h : O.rt .non) : ExD K S tRetN ρ O := fun F0 H0 σ F H e o a d0 E f => f.rt .non .non F H h rfl a
theorem ex_retO (h : ρ[i]? = some (.own ds)) (k : O.rt (.lst ds)) : ExD K S (tRet (tVar i)) ρ O := fun F0 H0 σ F H e o a d0 E f => by
  obtain ⟨p, vs, h1, ⟨nF, ns⟩, h2, h3⟩ := e.own h
  exact ⟨.ref p, h1, f.rt (.ref p) (.lst ds) _ H k ⟨p, vs, rfl, upd_same, Dats.mono (fun b u q => upd_new q nF) ds h3⟩ (a.frz d0 (o i _ _ p h rfl h1 rfl) nF h2 fun s e => (ns s e).1)⟩
theorem ex_frz (i : Nat) (h : ρ[i]? = some (.own ds)) (k : ExD K S t (ρ.set i (.val (.lst ds))) O) : ExD K S t ρ O := fun F0 H0 σ F H e o a d0 E f => by
  obtain ⟨p, vs, h1, ⟨nF, ns⟩, h2, h3⟩ := e.own h
  refine k F0 H0 σ _ H (e.frz h1 h rfl nF (d := .lst ds) ⟨_, rfl, p, vs, rfl, upd_same, Dats.mono (fun b u q => upd_new q nF) ds h3⟩) (o.mut h rfl fun _ _ z => z.elim) (a.frz d0 (o i _ _ p h rfl h1 rfl) nF h2 fun s e => (ns s e).1) d0 E f
theorem ex_next (h : O.nx ρ) : ExD K S tNext ρ O := fun F0 H0 σ F H e o a d0 E f => f.nx σ ρ F H h e o a
theorem ex_break (h : O.bk ρ) : ExD K S tBreak ρ O := fun F0 H0 σ F H e o a d0 E f => f.bk σ ρ F H h e o a
theorem ex_cont (h : O.ct ρ) : ExD K S tCont ρ O := fun F0 H0 σ F H e o a d0 E f => f.ct σ ρ F H h e o a
theorem ex_if (h : EvT K S tt ρ fun b => if b = true then ExD K S t ρ O else ExD K S u ρ O) : ExD K S (tIfS tt t u) ρ O := fun F0 H0 σ F H e o a d0 E f =>
  h σ F H e a.ok a.dr _ fun b F1 H1 hb g1 => by
    cases b with
    | true => exact hb F0 H0 σ F1 H1 (e.ag g1) o (a.trans g1 d0) d0 E f
    | false => exact hb F0 H0 σ F1 H1 (e.ag g1) o (a.trans g1 d0) d0 E f
theorem ex_par (hij : i ≠ j) (h : EvA K S tr ρ fun xs => ∃ x y, xs = [x, y] ∧ O.nx ((ρ.set i (.val x)).set j (.val y))) : ExD K S (tPar i j tr) ρ O := fun F0 H0 σ F H e o a d0 E f =>
  h σ F H e a.ok a.dr _ fun vs xs F1 H1 ⟨x, y, ex, hx⟩ dx g1 => by
    subst ex
    obtain ⟨v, us, rfl, h1, h2⟩ := dx
    obtain ⟨w, us', rfl, h3, h4⟩ := h2
    cases h4
    exact ⟨v, w, rfl, f.nx _ _ F1 H1 hx (((e.ag g1).set h1).set h3) (o.set.set) (a.trans g1 d0)⟩
theorem ex_aug {tip : TIp} (h0 : ρ[i]? = some (.val x)) (h : EvD K S te ρ fun y => OpD K S tip x y fun z => O.nx (ρ.set i (.val z))) : ExD K S (tAug i te tip) ρ O := fun F0 H0 σ F H e o a d0 E f => by
  obtain ⟨v, h1, h2⟩ := e.val h0
  refine ⟨v, h1, h σ F H e a.ok a.dr _ fun w y F1 H1 hy dy g1 => hy v w F1 H1 g1.ok g1.dr (Dat.mono g1.fs x h2) dy _ fun u z F2 H2 hz dz g2 => ?_⟩
  have g := g1.trans g2 a.dr
  exact f.nx _ _ F2 H2 hz ((e.ag g).set dz) o.set (a.trans g d0)
/-- x.append(e), x one's own list -/
theorem ex_app (h0 : ρ[i]? = some (.own ds)) (hl : ds.length < 100000) (h : EvD K S te ρ fun d => O.nx (ρ.set i (.own (ds ++ [d])))) : ExD K S (tDrop (tBM K "list" rAppend (tVar i) (tCons te tNil))) ρ O := fun F0 H0 σ F H e o a d0 E f => by
  obtain ⟨p, vs, h1, ⟨nF, ns⟩, h2, h3⟩ := e.own h0
  refine ⟨.ref p, h1, .inl ⟨rfl, vs, sl_of h2⟩, h σ F H e a.ok a.dr _ fun w y F1 H1 hy dy g1 => ?_⟩
  obtain ⟨p', vs', h1', ⟨nF', ns'⟩, h2', h3'⟩ := (e.ag g1).own h0
  rw [h1] at h1'
  cases h1'
  have hl' : vs'.length < sizeLine := by rw [h3'.length]; exact Nat.lt_of_lt_of_le hl (by decide)
  refine ⟨p, vs', w, rfl, rfl, h2', hl', ?_⟩
  exact f.nx σ _ F1 _ hy ((e.ag g1).mut h1 h0 rfl ⟨p, _, rfl, ⟨nF', ns'⟩, upd_same, h3'.app (Dats.one dy)⟩) (o.mut h0 rfl) ((a.trans g1 d0).mut d0 (by rw [h2']; trivial) (o i _ _ p h0 rfl h1 rfl) nF' ns')
/-- self.f = e -/
def putD (f : Str) (d : D) : List Str → List D → List Str × List D
  | n :: ns, x :: xs => if n = f then (n :: ns, d :: xs) else let q := putD f d ns xs; (n :: q.1, x :: q.2)
  | _, _ => ([f], [d])
theorem putD_ok {F : Hp} {f : Str} {d : D} {v : V} (hd : Dat K S F d v) : ∀ (gs : List (Str × V)) (ns : List Str) (ds : List D), gs.map Prod.fst = ns → Dats K S F ds (gs.map Prod.snd) → (putF f v gs).map Prod.fst = (putD f d ns ds).1 ∧ Dats K S F (putD f d ns ds).2 ((putF f v gs).map Prod.snd)
  | [], ns, ds, h1, h2 => by
    subst h1
    have e := h2.length
    cases ds with
    | nil => exact ⟨rfl, Dats.one hd⟩
    | cons _ _ => cases e
  | (n, w) :: gs, ns, ds, h1, h2 => by
    subst h1
    cases ds with
    | nil => have := h2.length; cases this
    | cons x xs =>
      obtain ⟨v', us, e, h3, h4⟩ := h2
      cases e
      show (if n = f then (n, v) :: gs else (n, w) :: putF f v gs).map Prod.fst = (if n = f then (n :: gs.map Prod.fst, d :: xs) else _).1 ∧ Dats K S F (if n = f then (n :: gs.map Prod.fst, d :: xs) else _).2 ((if n = f then (n, v) :: gs else (n, w) :: putF f v gs).map Prod.snd)
      by_cases q : n = f
      · rw [if_pos q, if_pos q]
        exact ⟨rfl, v, _, rfl, hd, h4⟩
      · rw [if_neg q, if_neg q]
        obtain ⟨k1, k2⟩ := putD_ok hd gs _ xs rfl h4
        refine ⟨by rw [List.map_cons, k1], w, _, rfl, h3, k2⟩
theorem ex_fld {f : Str} {p dx C : Addr} {ns : List Str} (h0 : ρ[i]? = some (.slf p dx C ns ds)) (hc : Cls K C) (hn : NoAttr K C f) (hl : ns.length < 1000) (h : EvD K S te ρ fun d => O.nx (ρ.set i (.slf p dx C (putD f d ns ds).1 (putD f d ns ds).2))) : ExD K S (sFld K (tVar i) te f) ρ O := fun F0 H0 σ F H e o a d0 E fi => by
  refine h σ F H e a.ok a.dr _ fun w y F1 H1 hy dy g1 => ?_
  obtain ⟨gs, h1, ⟨nF, ns'⟩, h2, h3, h4⟩ := (e.ag g1).slf h0
  refine ⟨.ref p, h1, p, C, dx, gs, rfl, h2, hc, hn, by rw [← h3, List.length_map] at hl; exact hl, ?_⟩
  obtain ⟨k1, k2⟩ := putD_ok (f := f) dy gs ns ds h3 h4
  exact fi.nx σ _ F1 _ hy ((e.ag g1).mut h1 h0 rfl ⟨_, rfl, ⟨nF, ns'⟩, upd_same, k1, k2⟩) (o.mut h0 rfl) ((a.trans g1 d0).mut d0 (by rw [h2]; trivial) (o i _ _ p h0 rfl h1 rfl) nF ns')
/-! ### loops -/
theorem Ag0.unbase {F0 H0 F1 F2 H2 : Hp} (s01 : Same F0 F1) (nw : ∀ b, F1 b ≠ none → F0 b ≠ none ∨ Nt H0 b) (a : Ag0 S F1 H0 F2 H2) : Ag0 S F0 H0 F2 H2 := by
  refine ⟨s01.trans a.fs, a.ok, a.ch, fun b hb => ?_, a.st⟩
  rcases a.nw b hb with q | q
  · exact nw b q
  · exact .inr q
theorem Ag.rebase {F0 H0 F1 F2 H2 : Hp} (a : Ag S F0 H0 F2 H2) (s0 : Same F0 F1) (s : Same F1 F2) : Ag S F1 H0 F2 H2 := by
  refine ⟨⟨s, a.ok, a.ch, fun b h => ?_, a.st⟩, a.dr⟩
  rcases a.nw b h with q | q
  · refine .inl fun z => q (s0.free z)
  · exact .inr q
theorem ex_for (h : EvI K S wi ρ fun its => ∃ I : Nat → List Sl → Prop, I 0 ρ ∧ (∀ i d ρ', its[i]? = some d → I i ρ' → TgD K S g (fun _ => True) d ρ' fun ρ2 => ExD K S t ρ2 { nx := I (i + 1), ct := I (i + 1), bk := O.nx, rt := O.rt, ro := O.ro, rx := O.rx }) ∧ ∀ ρ', I its.length ρ' → O.nx ρ') : ExD K S (tFor wi g t) ρ O := fun F0 H0 σ F H e o a d0 E f => by
  refine h σ F H e a.ok a.dr _ fun J its F1 H1 ⟨I, i0, is, ie⟩ g1 ⟨Y, w, hY⟩ => ?_
  have s01 : Same F0 F1 := a.fs.trans g1.fs
  have d1 : DrI S F1 H0 := ⟨⟨fun s e => ⟨(d0.1.1 s e).1, (g1.st.1 s e).2⟩, d0.1.2.1, g1.st.2.2⟩, fun F' H' a' => d0.2 F' H' (a'.unbase s01 (a.trans g1 d0).nw)⟩
  have back : ∀ F' H', Ag S F1 H0 F' H' → Ag S F0 H0 F' H' := fun F' H' a' => ⟨a'.toAg0.unbase s01 (a.trans g1 d0).nw, a'.dr⟩
  refine for_it w (fun i σ' H' => ∃ ρ' F', I i ρ' ∧ EnvOk K S F' H' σ' ρ' ∧ OwnNew H0 σ' ρ' ∧ Ag S F1 H0 F' H') ⟨ρ, F1, i0, e.ag g1, o, (a.trans g1 d0).rebase s01 (Same.refl _)⟩ ?_ ?_ ?_
  · rintro i σ' H' _ ⟨ρ', F', _, _, _, a'⟩
    exact a'.fs.trans a'.ok
  · rintro i x σ' H2 H3 hi ⟨ρ', F2, hI, e2, o2, a2⟩ y
    obtain ⟨d, F3, hd, dd, g3⟩ := hY i H2 x H3 F2 hi a2.fs a2.ok a2.dr y
    refine is i d ρ' hd hI x σ' F3 H3 (e2.ag g3) dd g3.ok _ fun σ4 ρ4 hx e4 o4 _ => ?_
    exact hx F1 H0 σ4 F3 H3 e4 (o4 H0 o2) (a2.trans g3 d1) d1 _ ⟨fun σ5 ρ5 F5 H5 h5 e5 o5 a5 => ⟨ρ5, F5, h5, e5, o5, a5⟩, fun v d F5 H5 h5 dd5 a5 => f.rt v d F5 H5 h5 dd5 (back _ _ a5), fun σ5 ρ5 F5 H5 h5 e5 o5 a5 => f.nx σ5 ρ5 F5 H5 h5 e5 o5 (back _ _ a5), fun σ5 ρ5 F5 H5 h5 e5 o5 a5 => ⟨ρ5, F5, h5, e5, o5, a5⟩, fun a5 vs5 ds5 F5 H5 h5 n5 nF5 l5 d5 g5 => f.ro a5 vs5 ds5 F5 H5 h5 n5 nF5 l5 d5 (back _ _ g5), fun v5 d5 γ5 F5 H5 h5 dd5 gh5 n5 g5 => f.rx v5 d5 γ5 F5 H5 h5 dd5 gh5 n5 (back _ _ g5)⟩
  · rintro σ' H' ⟨ρ', F', hI, e', o', a'⟩
    exact f.nx σ' ρ' F' H' (ie ρ' hI) e' o' (back _ _ a')
/-! ### comprehensions -/
def wipeS (ρ : List Sl) : List Nat → List Sl
  | [] => ρ
  | v :: vs => (wipeS ρ vs).set v .un
theorem EnvOk.setUn {F H : Hp} {σ : L2.St} (e : EnvOk K S F H σ ρ) : EnvOk K S F H (σ.set i none) (ρ.set i .un) := by
  refine EnvOk.put (x₀ := none) (by rw [List.length_set, e.len]) (fun j n x t h1 h2 => ?_) (fun hl => List.getElem?_set_self (by rw [e.len]; exact hl)) trivial (fun _ _ _ _ _ _ _ _ z => z.elim) (fun j k t t' x x' b n1 n2 n3 h1 h2 m1 h3 h4 => ?_)
  · rw [List.getElem?_set_ne (Ne.symm n)] at h1
    exact e.ok j x t h1 h2
  · rw [List.getElem?_set_ne (Ne.symm n1)] at h3
    rw [List.getElem?_set_ne (Ne.symm n2)] at h4
    exact e.sep j k t t' x x' b n3 h1 h2 m1 h3 h4
theorem EnvOk.wipe {F H : Hp} {σ : L2.St} (e : EnvOk K S F H σ ρ) : ∀ vs : List Nat, EnvOk K S F H (wipe σ vs) (wipeS ρ vs)
  | [] => e
  | v :: vs => (EnvOk.wipe e vs).setUn
theorem wipe_in {σ : L2.St} {k : Nat} : ∀ {vs : List Nat}, k ∈ vs → (wipe σ vs)[k]? = if k < σ.length then some none else none
  | v :: vs, h => by
    show ((wipe σ vs).set v none)[k]? = _
    rw [List.getElem?_set]
    by_cases q : v = k
    · subst q
      rw [if_pos rfl, wipe_length]
    · rw [if_neg q]
      rcases List.mem_cons.mp h with z | z
      · exact absurd z.symm q
      · exact wipe_in z
theorem wipe_out {σ : L2.St} {k : Nat} : ∀ {vs : List Nat}, k ∉ vs → (wipe σ vs)[k]? = σ[k]?
  | [], _ => rfl
  | v :: vs, h => by
    show ((wipe σ vs).set v none)[k]? = _
    rw [List.getElem?_set_ne (fun z => h (by rw [z]; exact List.mem_cons_self))]
    exact wipe_out fun z => h (List.mem_cons_of_mem _ z)
theorem wipe_same {σ σ' : L2.St} {vs : List Nat} (hl : σ'.length = σ.length) (h : ∀ k : Nat, ¬ k ∈ vs → σ'[k]? = (wipe σ vs)[k]?) : wipe σ' vs = wipe σ vs := by
  apply List.ext_getElem?
  intro k
  by_cases q : k ∈ vs
  · rw [wipe_in q, wipe_in q, hl]
  · rw [wipe_out q, h k q]
theorem evN_lc {vs : List Nat} (h : EvI K S wi ρ fun its => ∃ I : Nat → List D → Prop, I 0 [] ∧ (∀ i d acc, its[i]? = some d → I i acc → acc.length < 100000 ∧ TgD K S g (· ∈ vs) d (wipeS ρ vs) fun ρ2 => EvT K S tt ρ2 fun b => if b = true then EvD K S te ρ2 fun y => I (i + 1) (acc ++ [y]) else I (i + 1) acc) ∧ ∀ acc, I its.length acc → Ψ acc) : EvN K S (tLc wi g tt te vs) ρ Ψ := fun σ F H e s dr Q q => by
  refine h σ F H e s dr _ fun J its F1 H1 ⟨I, i0, is, ie⟩ g1 ⟨Y, w, hY⟩ => ?_
  intro D nD
  have e1 := e.ag g1
  have nF1 : F1 D = none := g1.ok.free nD
  have nS := g1.dr.ne nD
  refine lc_it w (fun i H' => ∃ acc us F', I i acc ∧ H' D = some (.lst us) ∧ F' D = none ∧ Dats K S F' acc us ∧ Ag S F1 H1 F' H') ⟨[], [], F1, i0, upd_same, nF1, rfl, (Ag.refl g1.ok g1.dr).newH g1.dr nD⟩ ?_ ?_ ?_
  · rintro i H' _ ⟨_, _, _, _, _, _, _, a⟩
    exact a.fs.trans a.ok
  · rintro i x H2 H3 hi ⟨acc, us, F2, hI, hD, nF2, hds, a2⟩ y
    obtain ⟨d, F3, hd, dd, g3⟩ := hY i H2 x H3 F2 hi a2.fs a2.ok a2.dr y
    obtain ⟨hl, hT⟩ := is i d acc hd hI
    have a3 := a2.trans g3 g1.dr
    have e3 : EnvOk K S F3 H3 (wipe σ vs) (wipeS ρ vs) := (e1.ag a3).wipe vs
    have hD3 := g3.keep (fun s e => (nS s e).1) hD
    have nF3 := g3.keepF hD nF2
    refine hT x _ F3 H3 e3 dd g3.ok _ fun σ4 ρ4 hx e4 o4 k4 => ⟨wipe_same (k4.1.trans (wipe_length σ vs)) k4.2.1, ?_⟩
    · refine hx σ4 F3 H3 e4 g3.ok g3.dr _ fun b F4 H4 hb g4 => ?_
      have hD4 := g4.keep (fun s e => (nS s e).1) hD3
      have nF4 := g4.keepF hD3 nF3
      have a4 := a3.trans g4 g1.dr
      cases b with
      | true =>
        show te σ4 H4 _
        refine hb σ4 F4 H4 (e4.ag g4) g4.ok g4.dr _ fun v5 d5 F5 H5 h5 dd5 g5 => ?_
        have hD5 := g5.keep (fun s e => (nS s e).1) hD4
        have nF5 := g5.keepF hD4 nF4
        have a5 := a4.trans g5 g1.dr
        have hds5 : Dats K S F5 acc us := Dats.mono ((g3.fs.trans g4.fs).trans g5.fs) acc hds
        exact ⟨us, hD5, by rw [hds.length]; exact Nat.lt_of_lt_of_le hl (by decide), acc ++ [d5], us ++ [v5], F5, h5, upd_same, nF5, hds5.app (Dats.one dd5), a5.mut g1.dr (by rw [hD5]; trivial) (.of nD) nF5 nS⟩
      | false => exact ⟨acc, us, F4, hb, hD4, nF4, Dats.mono (g3.fs.trans g4.fs) acc hds, a4⟩
  · rintro H2 ⟨acc, us, F2, hI, hD, nF2, hds, a2⟩
    exact q D us acc F2 H2 (ie acc hI) (g1.back nD) nF2 hD hds (g1.trans a2 dr)
end
end
/-! Operators by methods of own classes. -/
section
set_option maxRecDepth 100000
set_option maxHeartbeats 2000000
open PySem PySem.Spec PyProof.Rows L2
section
variable {X : Cx} {k j : Nat} {ps : List Str} {sp : Sp} {C : Addr}
/-- x op y, both of the class at C -/
def rOwn (C : Addr) (sp : Sp) : R2 := fun x y H Q => ∃ a b dx fs dy gs, x = .ref a ∧ y = .ref b ∧ H a = some (.ins C dx fs) ∧ H b = some (.ins C dy gs) ∧ sp [x, y] H Q E0
theorem k_own {a b : Addr} {H : Hp} {Q : VK} (ha : Is H a C) (hb : Is H b C) (h : sp [.ref a, .ref b] H Q E0) : rOwn C sp (.ref a) (.ref b) H Q := by
  obtain ⟨dx, fs, h1⟩ := ha
  obtain ⟨dy, gs, h2⟩ := hb
  exact ⟨a, b, dx, fs, dy, gs, rfl, rfl, h1, h2, h⟩
/-- v in x, x of the class at C -/
def rOwnIn (C : Addr) (sp : Sp) : R2 := fun v x H Q => ∃ a dx fs, x = .ref a ∧ H a = some (.ins C dx fs) ∧ sp [x, v] H (fun z H' => ∃ b, z = .bl b ∧ Q (.bl b) H') E0
theorem k_ownin {a : Addr} {v : V} {H : Hp} {Q : VK} (ha : Is H a C) (h : sp [.ref a, v] H (fun z H' => ∃ b, z = .bl b ∧ Q (.bl b) H') E0) : rOwnIn C sp v (.ref a) H Q := by
  obtain ⟨dx, fs, h1⟩ := ha
  exact ⟨a, dx, fs, rfl, h1, h⟩
/-- len(x), x of the class at C -/
def rLenO (C : Addr) (sp : Sp) : List V → Hp → VK → Prop := fun xs H Q => ∃ a dx fs, xs = [.ref a] ∧ H a = some (.ins C dx fs) ∧ sp [.ref a] H (fun z H' => ∃ n : Nat, z = .int (n : Nat) ∧ n < 1000000 ∧ Q z H') E0
theorem k_lenO {a : Addr} {H : Hp} {Q : VK} (ha : Is H a C) (h : sp [.ref a] H (fun z H' => ∃ n : Nat, z = .int (n : Nat) ∧ n < 1000000 ∧ Q z H') E0) : rLenO C sp [.ref a] H Q := by
  obtain ⟨dx, fs, h1⟩ := ha
  exact ⟨a, dx, fs, rfl, h1, h⟩
end
end
/-! Operators of an own class and an integer. -/
section
set_option maxRecDepth 100000
set_option maxHeartbeats 2000000
open PySem PySem.Spec PyProof.Rows L2
section
variable {X : Cx} {k j : Nat} {ps : List Str} {sp : Sp} {C : Addr}
/-- x op i, x of the class at C -/
def rOwnI (C : Addr) (sp : Sp) : R2 := fun x y H Q => ∃ a dx fs i, x = .ref a ∧ y = .int i ∧ H a = some (.ins C dx fs) ∧ sp [x, y] H Q E0
theorem k_ownI {a : Addr} {i : Int} {H : Hp} {Q : VK} (ha : Is H a C) (h : sp [.ref a, .int i] H Q E0) : rOwnI C sp (.ref a) (.int i) H Q := by
  obtain ⟨dx, fs, h1⟩ := ha
  exact ⟨a, dx, fs, i, rfl, rfl, h1, h⟩
/-! ### an integer and an own class: the reflected method -/
/-- i op y, y of the class at C: the reflected method's promise -/
def rOwnR (C : Addr) (sp : Sp) : R2 := fun x y H Q => ∃ a dx fs i, y = .ref a ∧ x = .int i ∧ H a = some (.ins C dx fs) ∧ sp [y, x] H Q E0
theorem k_ownR {a : Addr} {i : Int} {H : Hp} {Q : VK} (ha : Is H a C) (h : sp [.ref a, .int i] H Q E0) : rOwnR C sp (.int i) (.ref a) H Q := by
  obtain ⟨dx, fs, h1⟩ := ha
  exact ⟨a, dx, fs, i, rfl, rfl, h1, h⟩
end
end
/-! == of flat lists and tuples. -/
section
set_option maxRecDepth 100000
set_option maxHeartbeats 2000000
def okS (ws : List Str) : Prop := ∀ x ∈ ws, PyData.strOk x = true
theorem eqv_strs : ∀ (xs ys : List Str), PyData.eqvAll (xs.map PyData.str) (ys.map PyData.str) = decide (xs = ys)
  | [], [] => rfl
  | [], _ :: _ => rfl
  | _ :: _, [] => rfl
  | x :: xs, y :: ys => by
    show ((x == y) && PyData.eqvAll (xs.map PyData.str) (ys.map PyData.str)) = _
    rw [eqv_strs xs ys, Bool.eq_iff_iff, Bool.and_eq_true, decide_eq_true_iff, decide_eq_true_iff, beq_iff_eq, List.cons.injEq]
theorem lay_strs : ∀ {ws : List Str}, okS ws → PyData.canLayAll0 (ws.map PyData.str) = true
  | [], _ => rfl
  | x :: ws, h => by
    show (PyData.strOk x && PyData.canLayAll0 (ws.map PyData.str)) = true
    rw [h x List.mem_cons_self, lay_strs fun y hy => h y (List.mem_cons_of_mem _ hy)]
    rfl
theorem dep_strs : ∀ (ws : List Str), PyData.depthAll (ws.map PyData.str) = 0
  | [] => rfl
  | x :: ws => by
    show max 0 (PyData.depthAll (ws.map PyData.str)) = 0
    rw [dep_strs ws]
    rfl
theorem shaped_l {ds : List PyData} (h1 : PyData.canLayAll0 ds = true) (h2 : PyData.depthAll ds ≤ 60) : SeqAt.shaped (.list ds) = true := by
  unfold SeqAt.shaped
  rw [Bool.and_eq_true]
  refine ⟨h1, decide_eq_true ?_⟩
  show PyData.depthAll ds + 1 ≤ 64
  omega
section
variable {K : PySem.W.Frag} {H : Hp} {Q : VK} {p q : Addr}
end
end
/-! Rules at the level of data: walks, operators, builtins, calls. -/
section
set_option maxRecDepth 100000
set_option maxHeartbeats 2000000
def dI (ns : List Int) : List D := ns.map D.int
def dN (ns : List Nat) : List D := ns.map fun n : Nat => D.int (n : Int)
def dS (ws : List Str) : List D := ws.map D.str
def dB (bs : List Bool) : List D := bs.map D.bl
theorem dN_len (ns : List Nat) : (dN ns).length = ns.length := List.length_map _
theorem dS_len (ns : List Str) : (dS ns).length = ns.length := List.length_map _
theorem dN_dI (ns : List Nat) : dN ns = dI (ns.map fun n : Nat => (n : Int)) := by unfold dN dI; rw [List.map_map]; rfl
theorem dN_get {ns : List Nat} {i : Nat} {d : D} (h : (dN ns)[i]? = some d) : ∃ n, ns[i]? = some n ∧ d = .int (n : Nat) := by
  unfold dN at h
  rw [List.getElem?_map] at h
  cases e : ns[i]? with
  | none => rw [e] at h; cases h
  | some n => rw [e] at h; exact ⟨n, rfl, (Option.some.inj h).symm⟩
theorem dS_get {ns : List Str} {i : Nat} {d : D} (h : (dS ns)[i]? = some d) : ∃ n, ns[i]? = some n ∧ d = .str n := by
  unfold dS at h
  rw [List.getElem?_map] at h
  cases e : ns[i]? with
  | none => rw [e] at h; cases h
  | some n => rw [e] at h; exact ⟨n, rfl, (Option.some.inj h).symm⟩
section
variable {K : PySem.W.Frag} {S : Sx} {ρ : List Sl} {Φ : D → Prop} {Ψ : List D → Prop} {Χ : Bool → Prop} {O : Oc} {ta tb tc te : TE} {tr : TA} {tt tu : TT} {t u : TS} {g : TG} {gs : TGs} {wi : TI} {r : R2} {L : Nat → Prop} {Θ : List Sl → Prop} {i j : Nat} {d x y : D} {ds xs ys : List D}
theorem dats_dI {F : Hp} {l : List Int} {vs : List V} : Dats K S F (dI l) vs ↔ vs = l.map V.int := dats_int
theorem dats_dS {F : Hp} {l : List Str} {vs : List V} : Dats K S F (dS l) vs ↔ vs = l.map V.str := dats_str
theorem dats_dB {F : Hp} {l : List Bool} {vs : List V} : Dats K S F (dB l) vs ↔ vs = l.map V.bl := dats_bl

/-! ### walks -/
theorem itOk_seq {F1 : Hp} {a : Addr} {vs : List V} {J : It} (w : ∀ G : Hp → Prop, (∀ H, G H → Same F1 H) → Walk J vs.length G (YAt vs)) (hd : Dats K S F1 xs vs) : ItOk K S F1 J xs := by
  refine ⟨YAt vs, by rw [← hd.length]; exact w _ fun _ h => h, fun i H2 v H3 F2 hi s1 s2 dr y => ?_⟩
  obtain ⟨rfl, e⟩ := y
  obtain ⟨d, h1, h2⟩ := hd.get' e
  exact ⟨d, F2, h1, Dat.mono s1 d h2, Ag.refl s2 dr⟩
def seqD (x : D) (Ψ : List D → Prop) : Prop := ∃ ds, (x = .lst ds ∨ x = .tup ds) ∧ Ψ ds
theorem seq_l (h : Ψ ds) : seqD (.lst ds) Ψ := ⟨ds, .inl rfl, h⟩
theorem seq_t (h : Ψ ds) : seqD (.tup ds) Ψ := ⟨ds, .inr rfl, h⟩
theorem ei_seq (h : EvD K S te ρ fun x => seqD x Ψ) : EvI K S (iE (rItA K) te) ρ Ψ := fun σ F H e s dr R q =>
  h σ F H e s dr _ fun v x F1 H1 ⟨ds, hx, hΨ⟩ dd g1 => by
    rcases hx with rfl | rfl
    · obtain ⟨a, vs, rfl, h1, h2⟩ := dd
      refine ⟨a, vs, rfl, .inl ⟨sl_of (g1.ok _ _ h1), q _ ds F1 H1 hΨ g1 (itOk_seq (a := a) (fun G hG => walk_list.mono (fun H hH => sl_of (hG H hH _ _ h1)) fun _ _ _ _ _ _ y => y) h2)⟩⟩
    · obtain ⟨a, vs, rfl, h1, h2⟩ := dd
      refine ⟨a, vs, rfl, .inr ⟨st_sm g1.ok h1, q _ ds F1 H1 hΨ g1 (itOk_seq (a := a) (fun G hG => walk_tup.mono (fun H hH => st_sm (hG H hH) h1) fun _ _ _ _ _ _ y => y) h2)⟩⟩
def signs (s : Str) : List D := s.cps.toList.map fun c => D.str ⟨#[c]⟩
theorem ei_str (h : EvD K S te ρ fun x => ∃ s, x = .str s ∧ Ψ (signs s)) : EvI K S (iE rItS te) ρ Ψ := fun σ F H e s dr R q =>
  h σ F H e s dr _ fun v x F1 H1 ⟨z, hx, hΨ⟩ dd g1 => by
    subst hx
    have dd' : v = .str z := dd
    subst dd'
    refine ⟨z, rfl, q _ _ F1 H1 hΨ g1 ⟨fun i H v H' => H' = H ∧ ∃ c, z.cps[i]? = some c ∧ v = .str ⟨#[c]⟩, ?_, ?_⟩⟩
    · have hl : (signs z).length = z.cps.size := by unfold signs; rw [List.length_map, Array.length_toList]
      rw [hl]
      exact walk_str.mono (fun _ _ => trivial) fun _ _ _ _ _ _ y => y
    · intro i H2 v H3 F2 hi s1 s2 dr y
      obtain ⟨rfl, c, hc, rfl⟩ := y
      refine ⟨.str ⟨#[c]⟩, F2, ?_, rfl, Ag.refl s2 dr⟩
      unfold signs
      rw [List.getElem?_map, Array.getElem?_toList, hc]; rfl
theorem itOk_range {F1 : Hp} {lo : Int} {n : Nat} : ItOk K S F1 (Itr lo n) ((List.range n).map fun k : Nat => D.int (lo + k)) := by
  refine ⟨_, by rw [List.length_map, List.length_range]; exact walk_range.mono (fun _ _ => trivial) fun _ _ _ _ _ _ y => y, fun i H2 v H3 F2 hi s1 s2 dr y => ?_⟩
  obtain ⟨rfl, rfl⟩ := y
  rw [List.length_map, List.length_range] at hi
  exact ⟨.int (lo + i), F2, by rw [List.getElem?_map, List.getElem?_range hi]; rfl, rfl, Ag.refl s2 dr⟩
def rgN (n : Nat) : List D := dN (List.range n)
theorem ei_rg1 (h : EvA K S tr ρ fun xs => ∃ n : Nat, xs = [.int (n : Int)] ∧ n < 1000000 ∧ Ψ (rgN n)) : EvI K S (iA rRg1 tr) ρ Ψ := fun σ F H e s dr R q =>
  h σ F H e s dr _ fun vs xs F1 H1 ⟨n, hx, hn, hΨ⟩ dd g1 => by
    subst hx
    obtain ⟨v, us, rfl, h1, h2⟩ := dd
    cases h1; cases h2
    refine ⟨n, rfl, by omega, by omega, q _ _ F1 H1 hΨ g1 ?_⟩
    have := itOk_range (K := K) (S := S) (F1 := F1) (lo := 0) (n := (n : Int).toNat)
    rw [Int.toNat_natCast] at this
    have e : ((List.range n).map fun k : Nat => D.int (0 + (k : Int))) = rgN n := by
      unfold rgN dN
      exact List.map_congr_left fun k _ => by rw [Int.zero_add]
    rw [e] at this
    rw [Int.toNat_natCast]
    exact this
theorem ei_rg2 (h : EvA K S tr ρ fun xs => ∃ a b : Int, xs = [.int a, .int b] ∧ (-1000000 < a ∧ a < 1000000) ∧ (-1000000 < b ∧ b < 1000000) ∧ Ψ ((List.range (b - a).toNat).map fun k : Nat => D.int (a + k))) : EvI K S (iA rRg2 tr) ρ Ψ := fun σ F H e s dr R q =>
  h σ F H e s dr _ fun vs xs F1 H1 ⟨a, b, hx, ha, hb, hΨ⟩ dd g1 => by
    subst hx
    obtain ⟨v, us, rfl, h1, v2, us2, rfl, h2, h3⟩ := dd
    cases h1; cases h2; cases h3
    exact ⟨a, b, rfl, ⟨by omega, by omega, by omega, by omega⟩, q _ _ F1 H1 hΨ g1 itOk_range⟩
def enumD (xs : List D) : List D := xs.zipIdx.map fun p => D.tup [.int (p.2 : Nat), p.1]
theorem enumD_len (xs : List D) : (enumD xs).length = xs.length := by unfold enumD; rw [List.length_map, List.length_zipIdx]
theorem enumD_get {xs : List D} {i : Nat} {d : D} (h : (enumD xs)[i]? = some d) : ∃ x, xs[i]? = some x ∧ d = .tup [.int (i : Nat), x] := by
  unfold enumD at h
  rw [List.getElem?_map, List.getElem?_zipIdx] at h
  cases e : xs[i]? with
  | none => rw [e] at h; cases h
  | some x => rw [e] at h; exact ⟨x, rfl, by rw [← Option.some.inj h]; simp⟩
theorem enumD_at {xs : List D} {i : Nat} {x : D} (h : xs[i]? = some x) : (enumD xs)[i]? = some (.tup [.int (i : Nat), x]) := by
  unfold enumD
  rw [List.getElem?_map, List.getElem?_zipIdx, h]
  simp
theorem itOk_pair {F1 : Hp} {J : It} {its : List D} {f1 f2 : Nat → Option V} (w : Walk J its.length (fun H2 => Same F1 H2) (YPair f1 f2)) (h : ∀ i v1 v2, i < its.length → f1 i = some v1 → f2 i = some v2 → ∃ d1 d2, its[i]? = some (.tup [d1, d2]) ∧ Dat K S F1 d1 v1 ∧ Dat K S F1 d2 v2) : ItOk K S F1 J its := by
  refine ⟨_, w, fun i H2 v H3 F2 hi s1 s2 dr y => ?_⟩
  obtain ⟨T, v1, v2, rfl, nT, rfl, e1, e2⟩ := y
  obtain ⟨d1, d2, h1, h2, h3⟩ := h i v1 v2 hi e1 e2
  have nF : F2 T = none := s2.free nT
  have sm : Same F1 (upd F2 T (.tup [v1, v2])) := fun b o q => upd_new (s1 _ _ q) nF
  exact ⟨_, upd F2 T (.tup [v1, v2]), h1, ⟨T, _, rfl, st_of upd_same, v1, _, rfl, Dat.mono sm d1 h2, v2, _, rfl, Dat.mono sm d2 h3, rfl⟩, (Ag.refl s2 dr).newF dr nT⟩
theorem ei_enum (h : EvA K S tr ρ fun xs => ∃ x, xs = [x] ∧ seqD x fun ds => Ψ (enumD ds)) : EvI K S (iA (rEnumA K) tr) ρ Ψ := fun σ F H e s dr R q =>
  h σ F H e s dr _ fun vs xs F1 H1 ⟨x, hx, ds, hds, hΨ⟩ dd g1 => by
    subst hx
    obtain ⟨v, us, rfl, h1, h2⟩ := dd
    cases h2
    rcases hds with rfl | rfl
    · obtain ⟨a, ws, rfl, h3, h4⟩ := h1
      refine ⟨a, ws, rfl, .inl ⟨sl_of (g1.ok _ _ h3), q _ _ F1 H1 hΨ g1 (itOk_pair (by rw [enumD_len, ← h4.length]; exact walk_enum.mono (fun H hH => sl_of (hH _ _ h3)) fun _ _ _ _ _ _ y => y) fun i v1 v2 hi e1 e2 => ?_)⟩⟩
      obtain ⟨d2, h5, h6⟩ := h4.get' e2
      cases e1
      exact ⟨.int (i : Nat), d2, enumD_at h5, rfl, h6⟩
    · obtain ⟨a, ws, rfl, h3, h4⟩ := h1
      refine ⟨a, ws, rfl, .inr ⟨st_sm g1.ok h3, q _ _ F1 H1 hΨ g1 (itOk_pair (by rw [enumD_len, ← h4.length]; exact walk_enumT.mono (fun H hH => st_sm hH h3) fun _ _ _ _ _ _ y => y) fun i v1 v2 hi e1 e2 => ?_)⟩⟩
      obtain ⟨d2, h5, h6⟩ := h4.get' e2
      cases e1
      exact ⟨.int (i : Nat), d2, enumD_at h5, rfl, h6⟩
def zipD (xs ys : List D) : List D := (xs.zip ys).map fun p => D.tup [p.1, p.2]
theorem zipD_len (xs ys : List D) : (zipD xs ys).length = min xs.length ys.length := by unfold zipD; rw [List.length_map, List.length_zip]
theorem zipD_at {xs ys : List D} {i : Nat} {x y : D} (h : xs[i]? = some x) (h' : ys[i]? = some y) : (zipD xs ys)[i]? = some (.tup [x, y]) := by
  unfold zipD
  rw [List.getElem?_map, (List.getElem?_zip_eq_some (z := (x, y))).mpr ⟨h, h'⟩]
  rfl
theorem zipD_get {xs ys : List D} {i : Nat} {d : D} (h : (zipD xs ys)[i]? = some d) : ∃ x y, xs[i]? = some x ∧ ys[i]? = some y ∧ d = .tup [x, y] := by
  unfold zipD at h
  rw [List.getElem?_map] at h
  cases e : (xs.zip ys)[i]? with
  | none => rw [e] at h; cases h
  | some p =>
    rw [e] at h
    obtain ⟨p1, p2⟩ := p
    obtain ⟨h1, h2⟩ := List.getElem?_zip_eq_some.mp e
    exact ⟨p1, p2, h1, h2, (Option.some.inj h).symm⟩
theorem ei_zip (h : EvA K S tr ρ fun zs => ∃ xs ys, zs = [.lst xs, .lst ys] ∧ Ψ (zipD xs ys)) : EvI K S (iA (rZipL K) tr) ρ Ψ := fun σ F H e s dr R q =>
  h σ F H e s dr _ fun vs zs F1 H1 ⟨xs, ys, hx, hΨ⟩ dd g1 => by
    subst hx
    obtain ⟨v, us, rfl, ⟨a, ws, rfl, h3, h4⟩, v', us', rfl, ⟨b, ws', rfl, h3', h4'⟩, h2⟩ := dd
    cases h2
    refine ⟨a, b, ws, ws', rfl, sl_of (g1.ok _ _ h3), sl_of (g1.ok _ _ h3'), q _ _ F1 H1 hΨ g1 (itOk_pair (f1 := fun i => ws[i]?) (f2 := fun i => ws'[i]?) ((walk_zip (by rw [zipD_len, h4.length, h4'.length])).mono (fun H hH => ⟨sl_of (hH _ _ h3), sl_of (hH _ _ h3')⟩) fun _ _ _ _ _ _ y => y) fun i v1 v2 hi e1 e2 => ?_)⟩
    obtain ⟨d1, h5, h6⟩ := h4.get' e1
    obtain ⟨d2, h7, h8⟩ := h4'.get' e2
    exact ⟨d1, d2, zipD_at h5 h7, h6, h8⟩

/-! ### operators -/
theorem od_int {f : Int → Int → Int} {a b : Int} (k : Φ (.int (f a b))) : OpD K S (rI0 fun i j => .int (f i j)) (.int a) (.int b) Φ := fun u w F H s dr h1 h2 Q q => by
  cases h1; cases h2
  exact ⟨a, b, rfl, rfl, q _ _ F H k rfl (Ag.refl s dr)⟩
theorem od_bl {f : Int → Int → Bool} {a b : Int} (k : Φ (.bl (f a b))) : OpD K S (rI0 fun i j => .bl (f i j)) (.int a) (.int b) Φ := fun u w F H s dr h1 h2 Q q => by
  cases h1; cases h2
  exact ⟨a, b, rfl, rfl, q _ _ F H k rfl (Ag.refl s dr)⟩
theorem od_I {C : Int → Int → Prop} {f : Int → Int → Int} {a b : Int} (c : C a b) (k : Φ (.int (f a b))) : OpD K S (rI C fun i j => .int (f i j)) (.int a) (.int b) Φ := fun u w F H s dr h1 h2 Q q => by
  cases h1; cases h2
  exact ⟨a, b, rfl, rfl, c, q _ _ F H k rfl (Ag.refl s dr)⟩
theorem od_ip {f : Int → Int → Int} {a b : Int} (k : Φ (.int (f a b))) : OpD K S (ipI f) (.int a) (.int b) Φ := fun u w F H s dr h1 h2 Q q => by
  cases h1; cases h2
  exact ⟨a, b, rfl, rfl, q _ _ F H k rfl (Ag.refl s dr)⟩
theorem ud_U {f : Int → Int} {a : Int} (k : Φ (.int (f a))) : UnD K S (rU fun i => .int (f i)) (.int a) Φ := fun u F H s dr h1 Q q => by
  cases h1
  exact ⟨a, rfl, q _ _ F H k rfl (Ag.refl s dr)⟩
theorem od_eqI {a b : Int} (k : Φ (.bl (decide (a = b)))) : OpD K S rEq (.int a) (.int b) Φ := fun u w F H s dr h1 h2 Q q => by
  cases h1; cases h2
  exact k_eqI (q _ _ F H k rfl (Ag.refl s dr))
theorem od_neI {a b : Int} (k : Φ (.bl (!decide (a = b)))) : OpD K S rNe (.int a) (.int b) Φ := fun u w F H s dr h1 h2 Q q => by
  cases h1; cases h2
  exact k_neI (q _ _ F H k rfl (Ag.refl s dr))
theorem od_eqS {a b : Str} (k : Φ (.bl (decide (a = b)))) : OpD K S rEq (.str a) (.str b) Φ := fun u w F H s dr h1 h2 Q q => by
  cases h1; cases h2
  exact k_eqS (q _ _ F H k rfl (Ag.refl s dr))
theorem od_neS {a b : Str} (k : Φ (.bl (!decide (a = b)))) : OpD K S rNe (.str a) (.str b) Φ := fun u w F H s dr h1 h2 Q q => by
  cases h1; cases h2
  exact k_neS (q _ _ F H k rfl (Ag.refl s dr))
theorem od_eqB {a b : Bool} (k : Φ (.bl (a == b))) : OpD K S rEq (.bl a) (.bl b) Φ := fun u w F H s dr h1 h2 Q q => by
  cases h1; cases h2
  exact k_eqB (q _ _ F H k rfl (Ag.refl s dr))
theorem od_neB {a b : Bool} (k : Φ (.bl (!(a == b)))) : OpD K S rNe (.bl a) (.bl b) Φ := fun u w F H s dr h1 h2 Q q => by
  cases h1; cases h2
  exact k_neB (q _ _ F H k rfl (Ag.refl s dr))
theorem Dats.at {F : Hp} {vs : List V} {k : Int} (h : Dats K S F ds vs) (e : atI ds k = some d) : ∃ v, atI vs k = some v ∧ Dat K S F d v := by
  unfold atI at e ⊢
  rw [h.length]
  cases q : ixN ds.length k with
  | none => rw [q] at e; cases e
  | some n =>
    rw [q] at e
    exact h.get e
theorem od_ixl {k : Int} (e : atI ds k = some d) (h : Φ d) : OpD K S (rIxL K) (.lst ds) (.int k) Φ := fun u w F H s dr h1 h2 Q q => by
  obtain ⟨a, vs, rfl, h3, h4⟩ := h1
  cases h2
  obtain ⟨v, h5, h6⟩ := h4.at e
  exact ⟨a, vs, k, v, rfl, rfl, sl_of (s _ _ h3), h5, q v d F H h h6 (Ag.refl s dr)⟩
theorem od_ixt {k : Int} (e : atI ds k = some d) (h : Φ d) : OpD K S (rIxT K) (.tup ds) (.int k) Φ := fun u w F H s dr h1 h2 Q q => by
  obtain ⟨a, vs, rfl, h3, h4⟩ := h1
  cases h2
  obtain ⟨v, h5, h6⟩ := h4.at e
  exact ⟨a, vs, k, v, rfl, rfl, st_sm s h3, h5, q v d F H h h6 (Ag.refl s dr)⟩
theorem od_ixL {k : Int} (e : atI ds k = some d) (h : Φ d) : OpD K S (rIx K) (.lst ds) (.int k) Φ := fun u w F H s dr h1 h2 Q q => .inl (od_ixl e h u w F H s dr h1 h2 Q q)
theorem od_ixT {k : Int} (e : atI ds k = some d) (h : Φ d) : OpD K S (rIx K) (.tup ds) (.int k) Φ := fun u w F H s dr h1 h2 Q q => .inr (.inl (od_ixt e h u w F H s dr h1 h2 Q q))
theorem od_inq {ng : Bool} {b : Bool} (hx : ∀ F v, Dat K S F x v → flatV v = true) (hs : ∀ F vs, Dats K S F ds vs → vs.all flatV = true) (hb : ∀ F v vs, Dat K S F x v → Dats K S F ds vs → inV v vs = b) (hy : y = .lst ds ∨ y = .tup ds) (k : Φ (.bl (if ng then !b else b))) : OpD K S (rIn K ng) x y Φ := fun u w F H s dr h1 h2 Q q => by
  rcases hy with rfl | rfl
  · obtain ⟨a, vs, rfl, h3, h4⟩ := h2
    exact ⟨a, vs, rfl, .inl (sl_of (s _ _ h3)), hx F u h1, hs F vs h4, by rw [hb F u vs h1 h4]; exact q _ _ F H k rfl (Ag.refl s dr)⟩
  · obtain ⟨a, vs, rfl, h3, h4⟩ := h2
    exact ⟨a, vs, rfl, .inr (st_sm s h3), hx F u h1, hs F vs h4, by rw [hb F u vs h1 h4]; exact q _ _ F H k rfl (Ag.refl s dr)⟩
theorem od_inI {ng : Bool} {n : Int} {ns : List Int} (hy : y = .lst (dI ns) ∨ y = .tup (dI ns)) (k : Φ (.bl (if ng then !decide (n ∈ ns) else decide (n ∈ ns)))) : OpD K S (rIn K ng) (.int n) y Φ :=
  od_inq (fun F v h => by cases h; rfl) (fun F vs h => by rw [dats_dI.mp h]; exact all_flat_int ns) (fun F v vs h1 h2 => by cases h1; rw [dats_dI.mp h2]; exact inV_int n ns) hy k
theorem od_inN {ng : Bool} {n : Nat} {ns : List Nat} (hy : y = .lst (dN ns) ∨ y = .tup (dN ns)) (k : Φ (.bl (if ng then !decide (n ∈ ns) else decide (n ∈ ns)))) : OpD K S (rIn K ng) (.int (n : Int)) y Φ := by
  have e : decide ((n : Int) ∈ ns.map fun n : Nat => (n : Int)) = decide (n ∈ ns) := by
    rw [decide_eq_decide, List.mem_map]
    exact ⟨fun ⟨m, h1, h2⟩ => by rw [← Int.ofNat.inj h2]; exact h1, fun h => ⟨n, h, rfl⟩⟩
  rw [dN_dI] at hy
  refine od_inI hy ?_
  rw [e]
  exact k
theorem od_inS {ng : Bool} {n : Str} {ns : List Str} (hy : y = .lst (dS ns) ∨ y = .tup (dS ns)) (k : Φ (.bl (if ng then !decide (n ∈ ns) else decide (n ∈ ns)))) : OpD K S (rIn K ng) (.str n) y Φ :=
  od_inq (fun F v h => by cases h; rfl) (fun F vs h => by rw [dats_dS.mp h]; exact all_flat_str ns) (fun F v vs h1 h2 => by cases h1; rw [dats_dS.mp h2]; exact inV_str n ns) hy k
theorem od_sign {c : Nat} {z : Str} (k : Φ (.bl (decide (c ∈ z.cps.toList)))) : OpD K S rInSign (.str ⟨#[c]⟩) (.str z) Φ := fun u w F H s dr h1 h2 Q q => by
  cases h1; cases h2
  exact ⟨c, z, rfl, rfl, q _ _ F H k rfl (Ag.refl s dr)⟩
theorem od_adds {a b : Str} (hl : a.length + b.length < 1000000) (k : Φ (.str (a ++ b))) : OpD K S rAddS2 (.str a) (.str b) Φ := fun u w F H s dr h1 h2 Q q => by
  cases h1; cases h2
  exact k_adds hl (q _ _ F H k rfl (Ag.refl s dr))
theorem on_cat (hl : xs.length + ys.length < 100000) (k : Ψ (xs ++ ys)) : OpN K S rCat (.lst xs) (.lst ys) Ψ := fun u w F H s dr h1 h2 Q q => by
  obtain ⟨a, vs, rfl, h3, h4⟩ := h1
  obtain ⟨b, ws, rfl, h5, h6⟩ := h2
  refine ⟨a, b, vs, ws, rfl, rfl, s _ _ h3, s _ _ h5, by rw [h4.length, h6.length]; exact Nat.le_of_lt (Nat.lt_of_lt_of_le hl (by decide)), fun p np => ?_⟩
  exact q p _ _ F _ k (.of np) (s.free np) upd_same (h4.app h6) ((Ag.refl s dr).newH dr np)
theorem on_rep {n : Nat} (hl : xs.length * n < 100000) (hn : n < 100000) (k : Ψ (List.replicate n xs).flatten) : OpN K S rRep (.lst xs) (.int (n : Int)) Ψ := fun u w F H s dr h1 h2 Q q => by
  obtain ⟨a, vs, rfl, h3, h4⟩ := h1
  cases h2
  refine k_rep (s _ _ h3) (by rw [h4.length]; exact hl) hn fun p np => ?_
  exact q p _ _ F _ k (.of np) (s.free np) upd_same (h4.rep n) ((Ag.refl s dr).newH dr np)
/-! ### builtins -/
theorem cd_len (h : seqD x fun ds => Φ (.int (ds.length : Nat))) : CbD K S (rLen K) [x] Φ := fun us F H s dr h1 Q q => by
  obtain ⟨v, _, rfl, h2, e⟩ := h1
  cases e
  obtain ⟨ds, hx, k⟩ := h
  rcases hx with rfl | rfl
  · obtain ⟨a, vs, rfl, h3, h4⟩ := h2
    exact k_lenl (sl_of (s _ _ h3)) (by rw [h4.length]; exact q _ _ F H k rfl (Ag.refl s dr))
  · obtain ⟨a, vs, rfl, h3, h4⟩ := h2
    exact k_lent (st_sm s h3) (by rw [h4.length]; exact q _ _ F H k rfl (Ag.refl s dr))
theorem cd_lens {z : Str} (hz : z.length < 100000) (k : Φ (.int (z.length : Nat))) : CbD K S (rLen K) [.str z] Φ := fun us F H s dr h1 Q q => by
  obtain ⟨v, _, rfl, h2, e⟩ := h1
  cases e
  cases h2
  exact k_lens (szl hz) (q _ _ F H k rfl (Ag.refl s dr))
theorem cd_all {bs : List Bool} (k : Φ (.bl (bs.all id))) : CbD K S (rAll K) [.lst (dB bs)] Φ := fun us F H s dr h1 Q q => by
  obtain ⟨v, _, rfl, ⟨a, vs, rfl, h3, h4⟩, e⟩ := h1
  cases e
  rw [dats_dB.mp h4] at h3
  exact k_all (s _ _ h3) (q _ _ F H k rfl (Ag.refl s dr))
theorem cd_any {bs : List Bool} (k : Φ (.bl (bs.any id))) : CbD K S (rAny K) [.lst (dB bs)] Φ := fun us F H s dr h1 Q q => by
  obtain ⟨v, _, rfl, ⟨a, vs, rfl, h3, h4⟩, e⟩ := h1
  cases e
  rw [dats_dB.mp h4] at h3
  exact k_any (s _ _ h3) (q _ _ F H k rfl (Ag.refl s dr))
theorem cd_int {n : Int} (k : Φ (.int n)) : CbD K S rInt1 [.int n] Φ := fun us F H s dr h1 Q q => by
  obtain ⟨v, _, rfl, h2, e⟩ := h1
  cases e
  cases h2
  exact k_inti (q _ _ F H k rfl (Ag.refl s dr))
theorem cd_intb {b : Bool} (k : Φ (.int (if b then 1 else 0))) : CbD K S rInt1 [.bl b] Φ := fun us F H s dr h1 Q q => by
  obtain ⟨v, _, rfl, h2, e⟩ := h1
  cases e
  cases h2
  exact k_intb (q _ _ F H k rfl (Ag.refl s dr))
theorem cn_list (h : seqD x Ψ) : CbN K S (rListOf K) [x] Ψ := fun us F H s dr h1 Q q => by
  obtain ⟨v, _, rfl, h2, e⟩ := h1
  cases e
  obtain ⟨ds, hx, k⟩ := h
  rcases hx with rfl | rfl
  · obtain ⟨a, vs, rfl, h3, h4⟩ := h2
    exact ⟨a, vs, rfl, .inl (sl_of (s _ _ h3)), fun p np => q p _ _ F _ k (.of np) (s.free np) upd_same h4 ((Ag.refl s dr).newH dr np)⟩
  · obtain ⟨a, vs, rfl, h3, h4⟩ := h2
    exact ⟨a, vs, rfl, .inr (st_sm s h3), fun p np => q p _ _ F _ k (.of np) (s.free np) upd_same h4 ((Ag.refl s dr).newH dr np)⟩
theorem cd_tuple (h : seqD x fun ds => Φ (.tup ds)) : CbD K S (rTupOf K) [x] Φ := fun us F H s dr h1 Q q => by
  obtain ⟨v, _, rfl, h2, e⟩ := h1
  cases e
  obtain ⟨ds, hx, k⟩ := h
  rcases hx with rfl | rfl
  · obtain ⟨a, vs, rfl, h3, h4⟩ := h2
    refine ⟨a, vs, rfl, .inl ⟨sl_of (s _ _ h3), fun p np => ?_⟩⟩
    exact q _ (.tup ds) _ _ k ⟨p, vs, rfl, st_of upd_same, Dats.mono (fun b w z => upd_new z (s.free np)) ds h4⟩ ((Ag.refl s dr).newF dr np)
  · obtain ⟨a, vs, rfl, h3, h4⟩ := h2
    exact ⟨a, vs, rfl, .inr ⟨st_sm s h3, q _ (.tup ds) F H k ⟨a, vs, rfl, h3, h4⟩ (Ag.refl s dr)⟩⟩
/-! ### fields, calls, methods -/
theorem lookup_get : ∀ {gs : List (Str × V)} {ns : List Str} {F : Hp} {f : Str} {n : Nat}, gs.map Prod.fst = ns → Dats K S F ds (gs.map Prod.snd) → ns.findIdx? (· == f) = some n → ds[n]? = some d → ∃ v, gs.lookup f = some v ∧ Dat K S F d v := by
  intro gs
  induction gs generalizing ds with
  | nil => intro ns F f n h1 h2 h3; subst h1; cases h3
  | cons g gs ih =>
    intro ns F f n h1 h2 h3 h4
    subst h1
    obtain ⟨g1, g2⟩ := g
    cases ds with
    | nil => cases h4
    | cons x xs =>
      obtain ⟨v, us, e, h5, h6⟩ := h2
      cases e
      rw [List.map_cons, List.findIdx?_cons] at h3
      by_cases q : g1 = f
      · rw [if_pos (beq_iff_eq.mpr q)] at h3
        cases h3
        cases h4
        exact ⟨g2, by rw [q]; simp [List.lookup], h5⟩
      · rw [if_neg (fun z => q (beq_iff_eq.mp z))] at h3
        cases e2 : (gs.map Prod.fst).findIdx? (· == f) with
        | none => rw [e2] at h3; cases h3
        | some m =>
          rw [e2] at h3
          cases h3
          obtain ⟨v', h7, h8⟩ := ih rfl h6 e2 (by simpa using h4)
          refine ⟨v', ?_, h8⟩
          rw [List.lookup_cons, beq_eq_false_iff_ne.mpr (Ne.symm q)]
          exact h7
theorem ud_fld {f : Str} {C : Addr} {ns : List Str} {n : Nat} (hc : Cls K C) (hn : NoAttr K C f) (h1 : ns.findIdx? (· == f) = some n) (h2 : ds[n]? = some d) (k : Φ d) : UnD K S (rFld K f) (.ins C ns ds) Φ := fun u F H s dr h Q q => by
  obtain ⟨a, dx, gs, rfl, h3, h4, h5⟩ := h
  obtain ⟨v, h6, h7⟩ := lookup_get h4 h5 h1 h2
  exact ⟨a, C, dx, gs, v, rfl, s _ _ h3, hc, hn, h6, q v d F H k h7 (Ag.refl s dr)⟩
theorem ev_fld {f : Str} (h : EvD K S te ρ fun x => UnD K S (rFld K f) x Φ) : EvD K S (tFld K te f) ρ Φ := ev_un (f := rFld K f) h
/-- a field of the object that is being made -/
theorem ev_fldS {f : Str} {p dx C : Addr} {ns : List Str} {n : Nat} (h0 : ρ[i]? = some (.slf p dx C ns ds)) (hc : Cls K C) (hn : NoAttr K C f) (h1 : ns.findIdx? (· == f) = some n) (h2 : ds[n]? = some d) (k : Φ d) : EvD K S (tFld K (tVar i) f) ρ Φ := fun σ F H e s dr Q q => by
  obtain ⟨gs, h3, _, h4, h5, h6⟩ := e.slf h0
  obtain ⟨v, h7, h8⟩ := lookup_get h5 h6 h1 h2
  exact ⟨.ref p, h3, p, C, dx, gs, v, rfl, h4, hc, hn, h7, q v d F H k h8 (Ag.refl s dr)⟩
abbrev FD := List D → (D → Prop) → Prop
/-- a promise at the level of data -/
def spD (K : PySem.W.Frag) (f : FD) : Sp := fun vs H Q _ => ∃ S F ds Φ, Same F H ∧ DrI S F H ∧ Dats K S F ds vs ∧ f ds Φ ∧ ∀ v d F' H', Φ d → Dat K S F' d v → Ag S F H F' H' → Q v H'
theorem ev_call {f : FD} (h : EvA K S tr ρ fun xs => f xs Φ) : EvD K S (tCall (spD K f) [] E0 tr) ρ Φ := fun σ F H e s dr Q q =>
  h σ F H e s dr _ fun vs xs F1 H1 hf dd g1 => by
    rw [List.append_nil]
    exact ⟨S, F1, xs, Φ, g1.ok, g1.dr, dd, hf, fun v d F' H' hd dd' g2 => q v d F' H' hd dd' (g1.trans g2 dr)⟩
/-- x is an instance of C without the field m -/
def insD (C : Addr) (m : Str) (x : D) : Prop := ∃ ns ds, x = .ins C ns ds ∧ ns.contains m = false
theorem insD_mk {C : Addr} {m : Str} {ns : List Str} (h : ns.contains m = false) : insD C m (.ins C ns ds) := ⟨ns, ds, rfl, h⟩
theorem lookup_no {gs : List (Str × V)} {m : Str} (h : (gs.map Prod.fst).contains m = false) : gs.lookup m = none := by
  induction gs with
  | nil => rfl
  | cons g gs ih =>
    obtain ⟨g1, g2⟩ := g
    rw [List.map_cons, List.contains_cons, Bool.or_eq_false_iff] at h
    rw [List.lookup_cons, h.1]
    exact ih h.2
theorem ev_meth {C : Addr} {m : Str} {f : FD} (h : EvD K S te ρ fun x => insD C m x ∧ EvA K S tr ρ fun xs => f (x :: xs) Φ) : EvD K S (tMeth C m (spD K f) [] E0 te tr) ρ Φ := fun σ F H e s dr Q q =>
  h σ F H e s dr _ fun v x F1 H1 ⟨⟨ns, ds, hx, hm⟩, hA⟩ dd g1 => by
    subst hx
    obtain ⟨a, dx, gs, rfl, h3, h4, h5⟩ := id dd
    refine ⟨a, dx, gs, rfl, g1.ok _ _ h3, lookup_no (by rw [h4]; exact hm), hA σ F1 H1 (e.ag g1) g1.ok g1.dr _ fun vs xs F2 H2 hf dd2 g2 => ?_⟩
    rw [List.append_nil]
    exact ⟨S, F2, .ins C ns ds :: xs, Φ, g2.ok, g2.dr, ⟨_, _, rfl, Dat.mono g2.fs _ dd, dd2⟩, hf, fun v d F' H' hd dd' g3 => q v d F' H' hd dd' ((g1.trans g2 dr).trans g3 dr)⟩
theorem ev_prop {C : Addr} {f : FD} (h : EvD K S te ρ fun x => (∃ ns ds, x = .ins C ns ds) ∧ f [x] Φ) : EvD K S (tProp C (spD K f) [] E0 te) ρ Φ := fun σ F H e s dr Q q =>
  h σ F H e s dr _ fun v x F1 H1 ⟨⟨ns, ds, hx⟩, hf⟩ dd g1 => by
    subst hx
    obtain ⟨a, dx, gs, rfl, h3, h4, h5⟩ := id dd
    exact ⟨a, dx, gs, rfl, g1.ok _ _ h3, S, F1, [.ins C ns ds], Φ, g1.ok, g1.dr, Dats.one dd, hf, fun v d F' H' hd dd' g3 => q v d F' H' hd dd' (g1.trans g3 dr)⟩
theorem od_own {C : Addr} {f : FD} {ns ns' : List Str} (h : f [.ins C ns xs, .ins C ns' ys] Φ) : OpD K S (rOwn C (spD K f)) (.ins C ns xs) (.ins C ns' ys) Φ := fun u w F H s dr h1 h2 Q q => by
  obtain ⟨a, dx, gs, rfl, h3, _⟩ := id h1
  obtain ⟨b, dy, hs, rfl, h4, _⟩ := id h2
  exact ⟨a, b, dx, gs, dy, hs, rfl, rfl, s _ _ h3, s _ _ h4, S, F, [_, _], Φ, s, dr, ⟨_, _, rfl, h1, _, _, rfl, h2, rfl⟩, h, q⟩
theorem od_ownI {C : Addr} {f : FD} {ns : List Str} {n : Int} (h : f [.ins C ns xs, .int n] Φ) : OpD K S (rOwnI C (spD K f)) (.ins C ns xs) (.int n) Φ := fun u w F H s dr h1 h2 Q q => by
  obtain ⟨a, dx, gs, rfl, h3, _⟩ := id h1
  cases h2
  exact ⟨a, dx, gs, n, rfl, rfl, s _ _ h3, S, F, [_, .int n], Φ, s, dr, ⟨_, _, rfl, h1, _, _, rfl, rfl, rfl⟩, h, q⟩
theorem od_ownR {C : Addr} {f : FD} {ns : List Str} {n : Int} (h : f [.ins C ns xs, .int n] Φ) : OpD K S (rOwnR C (spD K f)) (.int n) (.ins C ns xs) Φ := fun u w F H s dr h1 h2 Q q => by
  obtain ⟨a, dx, gs, rfl, h3, _⟩ := id h2
  cases h1
  exact ⟨a, dx, gs, n, rfl, rfl, s _ _ h3, S, F, [_, .int n], Φ, s, dr, ⟨_, _, rfl, h2, _, _, rfl, rfl, rfl⟩, h, q⟩
theorem od_ownin {C : Addr} {f : FD} {ns : List Str} (h : f [.ins C ns ys, x] fun z => isB z fun b => Φ (.bl b)) : OpD K S (rOwnIn C (spD K f)) x (.ins C ns ys) Φ := fun u w F H s dr h1 h2 Q q => by
  obtain ⟨a, dx, gs, rfl, h3, _⟩ := id h2
  exact ⟨a, dx, gs, rfl, s _ _ h3, S, F, [_, _], _, s, dr, ⟨_, _, rfl, h2, _, _, rfl, h1, rfl⟩, h, fun v d F' H' ⟨b, eb, hb⟩ dd g => by subst eb; cases dd; exact ⟨b, rfl, q _ _ F' H' hb rfl g⟩⟩
theorem cd_lenO {C : Addr} {f : FD} {ns : List Str} (h : f [.ins C ns ys] fun z => ∃ n : Nat, z = .int (n : Int) ∧ n < 1000000 ∧ Φ (.int (n : Int))) : CbD K S (rLenO C (spD K f)) [.ins C ns ys] Φ := fun us F H s dr h1 Q q => by
  obtain ⟨v, _, rfl, h2, e⟩ := h1
  cases e
  obtain ⟨a, dx, gs, rfl, h3, _⟩ := id h2
  exact ⟨a, dx, gs, rfl, s _ _ h3, S, F, _, _, s, dr, Dats.one h2, h, fun v d F' H' ⟨n, en, hn, hk⟩ dd g => by subst en; cases dd; exact ⟨n, rfl, hn, q _ _ F' H' hk rfl g⟩⟩
/-! ### new objects -/
abbrev FI := List D → (List Str → List D → Prop) → Prop
def less (H : Hp) (p : Addr) : Hp := fun b => if b = p then none else H b
/-- an __init__'s promise -/
def spI (K : PySem.W.Frag) (C : Addr) (f : FI) : Sp := fun vs H Q _ => ∃ S F p dx ws ds Φ, vs = .ref p :: ws ∧ H p = some (.ins C dx []) ∧ Prv S F p ∧ Same F H ∧ (DrI S F (less H p) ∧ DrS S F H) ∧ Dats K S F ds ws ∧ f ds Φ ∧
  ∀ ns es gs F' H', Φ ns es → H' p = some (.ins C dx gs) → gs.map Prod.fst = ns → Dats K S F' es (gs.map Prod.snd) → F' p = none → Ag S F (less H p) F' H' → Q .non H'
theorem ev_make {C : Addr} {f : FI} (h : EvA K S tr ρ fun xs => f xs fun ns es => Φ (.ins C ns es)) : EvD K S (tMake C (spI K C f) [] E0 tr) ρ Φ := fun σ F H e s dr Q q =>
  h σ F H e s dr _ fun vs xs F1 H1 hf dd g1 => by
    intro p dx np ndx nd
    have nS := g1.dr.ne np
    have nF : F1 p = none := g1.ok.free np
    rw [List.append_nil]
    have hL : less (upd (upd H1 dx (.own p)) p (.ins C dx [])) p = upd H1 dx (.own p) := by
      funext b
      show (if b = p then none else _) = _
      by_cases w : b = p
      · rw [if_pos w, w, upd_ne nd.symm, np]
      · rw [if_neg w, upd_ne w]
    have g0 : Ag S F1 H1 F1 (upd H1 dx (.own p)) := (Ag.refl g1.ok g1.dr).newH g1.dr ndx
    refine ⟨S, F1, p, dx, vs, xs, _, rfl, upd_same, ⟨nF, nS⟩, ?_, ⟨by rw [hL]; exact g0.dr, g0.st.new (by rw [upd_ne nd.symm]; exact np)⟩, dd, hf, fun ns es gs F' H' hΦ h1 h2 h3 h4 g2 => ⟨rfl, ?_⟩⟩
    · intro b o hb
      exact upd_old (upd_new (g1.ok _ _ hb) ndx) (ne_of_none hb nF)
    · rw [hL] at g2
      refine q (.ref p) (.ins C ns es) (upd F' p (.ins C dx gs)) H' hΦ ⟨p, dx, gs, rfl, upd_same, h2, Dats.mono (fun b o z => upd_new z h4) es h3⟩ (g1.trans ?_ dr)
      exact (g0.trans g2 g1.dr).frz g1.dr (.of np) h4 h1 fun s e => (nS s e).1
/-! ### bodies -/
def ini (N : List Str) (ds : List D) : List Sl := ds.map .val ++ List.replicate (N.length - ds.length) .un
theorem env_ini {F H : Hp} {N : List Str} {vs : List V} (hd : Dats K S F ds vs) : EnvOk K S F H (L2.start N vs) (ini N ds) := by
  have hl := hd.length
  have nm : ∀ (i : Nat) (s : Sl), (ini N ds)[i]? = some s → s.mine = true → False := by
    intro i s h m
    unfold ini at h
    rw [List.getElem?_append] at h
    split at h
    · rw [List.getElem?_map] at h
      cases e : ds[i]? with
      | none => rw [e] at h; cases h
      | some d => rw [e] at h; cases h; cases m
    · have := List.mem_of_getElem? h
      rw [(List.mem_replicate.mp this).2] at m
      cases m
  refine ⟨by unfold L2.start ini; rw [List.length_append, List.length_append, List.length_map, List.length_map, List.length_replicate, List.length_replicate, hl], fun i x s h1 h2 => ?_, fun i j s s' _ _ a n h1 _ m1 => (nm i s h1 m1).elim⟩
  unfold L2.start at h1
  unfold ini at h2
  by_cases q : i < ds.length
  · rw [List.getElem?_append_left (by rw [List.length_map]; omega), List.getElem?_map] at h1
    rw [List.getElem?_append_left (by rw [List.length_map]; omega), List.getElem?_map, List.getElem?_eq_getElem q] at h2
    cases h2
    obtain ⟨v, h3, h4⟩ := hd.get (List.getElem?_eq_getElem q)
    rw [h3] at h1
    cases h1
    exact ⟨v, rfl, h4⟩
  · rw [List.getElem?_append_right (by rw [List.length_map]; omega)] at h2
    rw [(List.mem_replicate.mp (List.mem_of_getElem? h2)).2]
    exact trivial
theorem own_ini {H0 : Hp} {N : List Str} {vs : List V} : OwnNew H0 (L2.start N vs) (ini N ds) := by
  intro i s _ a h m
  exfalso
  unfold ini at h
  rw [List.getElem?_append] at h
  split at h
  · rw [List.getElem?_map] at h
    cases e : ds[i]? with
    | none => rw [e] at h; cases h
    | some d => rw [e] at h; cases h; cases m
  · have := List.mem_of_getElem? h
    rw [(List.mem_replicate.mp this).2] at m
    cases m
/-- a def's body keeps its promise -/
theorem body_of {f : FD} {N : List Str} {vs : List V} {H : Hp} {Q : VK} {E : XK} (h : spD K f vs H Q E) (hb : ∀ S ds Φ, f ds Φ → ExD K S t (ini N ds) { nx := fun _ => Φ .non, rt := Φ }) : t { nx := fun _ H' => Q .non H', rt := Q } (L2.start N vs) H := by
  obtain ⟨S, F, ds, Φ, s, dr, hd, hf, q⟩ := h
  exact hb S ds Φ hf F H _ F H (env_ini hd) own_ini (Ag.refl s dr) dr _ ⟨fun σ ρ F' H' h1 _ _ a => q .non .non F' H' h1 rfl a, fun v d F' H' h1 h2 a => q v d F' H' h1 h2 a, fun _ _ _ _ h => h.elim, fun _ _ _ _ h => h.elim, fun _ _ _ _ _ h => h.elim, fun _ _ _ _ _ h => h.elim⟩
def iniS (N : List Str) (p dx C : Addr) (ds : List D) : List Sl := .slf p dx C [] [] :: (ds.map .val ++ List.replicate (N.length - (ds.length + 1)) .un)
theorem body_initS {C p dx : Addr} {N : List Str} {ws : List V} {F H : Hp} {Q : VK} {Φ : List Str → List D → Prop} (hp : H p = some (.ins C dx [])) (pv : Prv S F p) (s : Same F H) (dr : DrI S F (less H p) ∧ DrS S F H) (hd : Dats K S F ds ws)
    (q : ∀ ns es gs F' H', Φ ns es → H' p = some (.ins C dx gs) → gs.map Prod.fst = ns → Dats K S F' es (gs.map Prod.snd) → F' p = none → Ag S F (less H p) F' H' → Q .non H')
    (hb : ExD K S t (iniS N p dx C ds) { nx := fun ρ => ∃ ns es, ρ[0]? = some (.slf p dx C ns es) ∧ Φ ns es, rt := fun _ => False }) : t { nx := fun _ H' => Q .non H', rt := Q } (L2.start N (.ref p :: ws)) H := by
  obtain ⟨pF, pS⟩ := pv
  have hl := hd.length
  have e0 := env_ini (H := H) (N := N.drop 1) hd
  have hst : L2.start N (.ref p :: ws) = some (.ref p) :: L2.start (N.drop 1) ws := by
    unfold L2.start
    rw [List.map_cons, List.cons_append, List.length_cons, List.length_drop]
    congr 3
    omega
  have hin : iniS N p dx C ds = .slf p dx C [] [] :: ini (N.drop 1) ds := by
    unfold iniS ini
    rw [List.length_drop]
    congr 3
    omega
  have nm : ∀ (i : Nat) (s : Sl), (ini (N.drop 1) ds)[i]? = some s → s.held = true → False := by
    intro i s h m
    unfold ini at h
    rw [List.getElem?_append] at h
    split at h
    · rw [List.getElem?_map] at h
      cases e : ds[i]? with
      | none => rw [e] at h; cases h
      | some d => rw [e] at h; cases h; cases m
    · have := List.mem_of_getElem? h
      rw [(List.mem_replicate.mp this).2] at m
      cases m
  have hless : less H p p = none := if_pos rfl
  refine hb F (less H p) _ F H ?_ ?_ (Ag0.up ⟨Same.refl F, s, fun b o n z t => ?_, fun b z => .inl z, dr.2⟩ dr.1) dr.1 _ ⟨?_, fun _ _ _ _ h => h.elim, fun _ _ _ _ h => h.elim, fun _ _ _ _ h => h.elim, fun _ _ _ _ _ h => h.elim, fun _ _ _ _ _ h => h.elim⟩
  · rw [hst, hin]
    refine ⟨by rw [List.length_cons, List.length_cons, e0.len], fun i x s h1 h2 => ?_, fun i j s s' x x' a n h1 h2 m1 h3 h4 l1 l2 => ?_⟩
    · cases i with
      | zero =>
        cases h1; cases h2
        exact ⟨[], rfl, ⟨pF, pS⟩, hp, rfl, rfl⟩
      | succ i => exact e0.ok i x s (by simpa using h1) (by simpa using h2)
    · cases i with
      | zero =>
        cases j with
        | zero => exact n rfl
        | succ j => exact nm j s' (by simpa using h2) (Sl.lh l2)
      | succ i => exact nm i s (by simpa using h1) (Sl.mh m1)
  · rw [hst, hin]
    intro i s x a h m h2 l
    cases i with
    | zero => cases h; cases h2; cases l; exact .of hless
    | succ i => exact (nm i s (by simpa using h) (Sl.mh m)).elim
  · have z' : (if b = p then none else H b) = some o := z
    by_cases w : b = p
    · rw [if_pos w] at z'; cases z'
    · rw [if_neg w] at z'; exact z'
  · rintro σ ρ F' H' ⟨ns, es, hρ, hΦ⟩ e' o' a'
    obtain ⟨gs, h1, ⟨nF, _⟩, h2, h3, h4⟩ := e'.slf hρ
    exact q ns es gs F' H' hΦ h2 h3 h4 nF a'
theorem body_init {C : Addr} {f : FI} {N : List Str} {vs : List V} {H : Hp} {Q : VK} {E : XK} (h : spI K C f vs H Q E) (hb : ∀ S p dx ds Φ, f ds Φ → ExD K S t (iniS N p dx C ds) { nx := fun ρ => ∃ ns es, ρ[0]? = some (.slf p dx C ns es) ∧ Φ ns es, rt := fun _ => False }) : t { nx := fun _ H' => Q .non H', rt := Q } (L2.start N vs) H := by
  obtain ⟨S, F, p, dx, ws, ds, Φ, rfl, hp, pv, s, dr, hd, hf, q⟩ := h
  exact body_initS hp pv s dr hd q (hb S p dx ds Φ hf)
/-! ### new lists as answers -/
end
end
/-! More rules at the level of data: isinstance, slices, max and min, equality; the draws. -/
section
set_option maxRecDepth 100000
set_option maxHeartbeats 2000000
/-- what isinstance asks of an own class -/
structure ClT (K : PySem.W.Frag) (C : Addr) : Prop where
  cl : Cls K C
  ca : PySem.W.findIn K (.ref C) "__class__" = some (some (.builtin "object.__class__"))
  cn : PySem.W.specialIn K (.builtin "object.__class__") "__get__" = some (some (.builtin "getset_descriptor.__get__"))
  ct : PySem.W.takesIn K (.builtin "object.__class__") = some true
  cm : PySem.W.mroIn K C (.type "object") = some true
inductive TyD (K : PySem.W.Frag) : D → Value → Prop
  | non : TyD K .non (.type "NoneType")
  | bl {b : Bool} : TyD K (.bl b) (.type "bool")
  | int {n : Int} : TyD K (.int n) (.type "int")
  | str {s : Str} : TyD K (.str s) (.type "str")
  | lst {ds : List D} : TyD K (.lst ds) (.type "list")
  | tup {ds : List D} : TyD K (.tup ds) (.type "tuple")
  | dk {ks : List Key} {ds : List D} : TyD K (.dk ks ds) (.type "dict")
  | ins {C : Addr} {ns : List Str} {ds : List D} (h : ClT K C) : TyD K (.ins C ns ds) (.ref C)
  | pin {a : Addr} {d : D} {t : Value} (h : TyD K d t) : TyD K (.pin a d) t
theorem kit_same {K : PySem.W.Frag} {t : Value} : PySem.W.kitOne K t t = some true := by
  unfold PySem.W.kitOne
  rw [if_pos (beq_self_eq_true t)]
section
variable {K : PySem.W.Frag} {S : Sx} {ρ : List Sl} {Φ : D → Prop} {Ψ : List D → Prop} {Χ : Bool → Prop} {O : Oc} {ta tb tc te : TE} {tr : TA} {tt tu : TT} {t u : TS} {g : TG} {gs : TGs} {wi : TI} {r : R2} {L : Nat → Prop} {Θ : List Sl → Prop} {i j : Nat} {d x y : D} {ds xs ys : List D}
theorem ex_ifB (h : EvT K S.nw tt (frzE ρ) fun b => if b = true then ExD K S t ρ O else ExD K S u ρ O) : ExD K S (tIfS tt t u) ρ O := ex_if (et_bor h)
theorem TyD.ty {F H : Hp} {v : V} {t : Value} (h : TyD K d t) (hd : Dat K S F d v) (s : Same F H) : TyX K H v t := by
  induction h with
  | non => cases hd; exact .base .non
  | bl => cases hd; exact .base (.bl _)
  | int => cases hd; exact .base (.int _)
  | str => cases hd; exact .base (.str _)
  | lst => obtain ⟨a, vs, rfl, h1, _⟩ := hd; exact .base (.lst (s _ _ h1))
  | tup =>
    obtain ⟨a, vs, rfl, h1, _⟩ := hd
    rcases st_sm s h1 with (h | ⟨o, h⟩) | ⟨o, its, n, h, c, _⟩
    · exact .base (.tup h)
    · exact .fTuple h
    · exact .kTuple h c
  | dk => obtain ⟨a, kvs, rfl, h1, _⟩ := hd; exact .base (.dK (s _ _ h1))
  | pin _ ih => exact ih hd.2
  | ins c => obtain ⟨a, dx, gs, rfl, h1, _⟩ := hd; exact .base (.ins (s _ _ h1) c.cl c.ca c.cn c.ct c.cm)
theorem cd_isi {n : String} {t : Value} {b : Bool} (ht : TyD K x t) (hk : PySem.W.kitOne K t (.type n) = some b) (k : Φ (.bl b)) : CbD K S (rIsi K) [x, .raw (.ty n)] Φ := fun us F H s dr h1 Q q => by
  obtain ⟨v, _, rfl, h2, w, _, rfl, h3, e⟩ := h1
  cases e; cases h3
  exact k_isi (ht.ty h2 s) hk (q _ _ F H k rfl (Ag.refl s dr))
theorem cd_isiO {C : Addr} {t : Value} {b : Bool} (ht : TyD K x t) (hk : PySem.W.kitOne K t (.ref C) = some b) (k : Φ (.bl b)) : CbD K S (rIsi K) [x, .raw (.ref C)] Φ := fun us F H s dr h1 Q q => by
  obtain ⟨v, _, rfl, h2, w, _, rfl, h3, e⟩ := h1
  cases e; cases h3
  exact k_isiO (ht.ty h2 s) hk (q _ _ F H k rfl (Ag.refl s dr))
def is2 (K : PySem.W.Frag) (n m : String) (x : D) (Χ : Bool → Prop) : Prop := ∃ t b1 b2, TyD K x t ∧ PySem.W.kitOne K t (.type n) = some b1 ∧ PySem.W.kitOne K t (.type m) = some b2 ∧ Χ (b1 || b2)
theorem ev_isi2 {n m : String} (h : EvD K S te ρ fun x => is2 K n m x fun b => Φ (.bl b)) : EvD K S (tCB (rIsiT K) (tCons te (tCons (tTup (tCons (tC (.ty n)) (tCons (tC (.ty m)) tNil))) tNil))) ρ Φ := fun σ F H e s dr Q q =>
  h σ F H e s dr _ fun v x F1 H1 ⟨t, b1, b2, h1, h2, h3, h4⟩ dd g1 => by
    refine ⟨Nat.le_of_ble_eq_true rfl, fun p np => ?_⟩
    exact k_isi2 rfl upd_same (ty_new (h1.ty dd g1.ok) np) h2 h3 (q _ _ F1 _ h4 rfl (g1.newH dr np))
theorem cd_mx {a b : Int} (k : Φ (.int (max a b))) : CbD K S rMx [.int a, .int b] Φ := fun us F H s dr h1 Q q => by
  obtain ⟨v, _, rfl, h2, w, _, rfl, h3, e⟩ := h1
  cases e; cases h2; cases h3
  exact k_mx (q _ _ F H k rfl (Ag.refl s dr))
theorem cd_mn {a b : Int} (k : Φ (.int (min a b))) : CbD K S rMn [.int a, .int b] Φ := fun us F H s dr h1 Q q => by
  obtain ⟨v, _, rfl, h2, w, _, rfl, h3, e⟩ := h1
  cases e; cases h2; cases h3
  exact k_mn (q _ _ F H k rfl (Ag.refl s dr))
/-! ### slices -/
def EvO (K : PySem.W.Frag) (S : Sx) (to : TO) (ρ : List Sl) (Ω : Option Int → Prop) : Prop := ∀ (σ : L2.St) (F H : Hp), EnvOk K S F H σ ρ → Same F H → DrI S F H → ∀ Q : Option Int → Hp → Prop, (∀ o F' H', Ω o → Ag S F H F' H' → Q o H') → to σ H Q
theorem eo_no {Ω : Option Int → Prop} (k : Ω none) : EvO K S tNoPart ρ Ω := fun σ F H e s dr Q q => q none F H k (Ag.refl s dr)
theorem eo_part {Ω : Option Int → Prop} (h : EvD K S te ρ fun x => ∃ n, x = .int n ∧ Ω (some n)) : EvO K S (tPart te) ρ Ω := fun σ F H e s dr Q q =>
  h σ F H e s dr _ fun v x F1 H1 ⟨n, hx, k⟩ dd g1 => by subst hx; cases dd; exact ⟨n, rfl, q _ F1 H1 k g1⟩
def cutD (xs : List D) (lo hi : Option Int) : List D := (xs.drop (HT.sIx xs.length 0 lo)).take (HT.sIx xs.length xs.length hi - HT.sIx xs.length 0 lo)
theorem Dats.cut {F : Hp} {vs : List V} (h : Dats K S F xs vs) (lo hi : Option Int) : Dats K S F (cutD xs lo hi) (cutV vs lo hi) := by
  unfold cutD cutV
  rw [h.length]
  exact (h.drop _).take _
theorem evN_sl {tl th : TO} (h : EvD K S te ρ fun x => ∃ xs, x = .lst xs ∧ EvO K S tl ρ fun lo => EvO K S th ρ fun hi => Ψ (cutD xs lo hi)) : EvN K S (tSl (rSlL K) te tl th) ρ Ψ := fun σ F H e s dr Q q =>
  h σ F H e s dr _ fun v x F1 H1 ⟨xs, hx, hl⟩ dd g1 => by
    subst hx
    refine hl σ F1 H1 (e.ag g1) g1.ok g1.dr _ fun lo F2 H2 h2 g2 => h2 σ F2 H2 ((e.ag g1).ag g2) g2.ok g2.dr _ fun hi F3 H3 h3 g3 => ?_
    obtain ⟨a, vs, rfl, h4, h5⟩ := Dat.mono (g2.fs.trans g3.fs) _ dd
    have g := (g1.trans g2 dr).trans g3 dr
    exact k_sll (sl_of (g.ok _ _ h4)) fun p np => q p _ _ F3 _ h3 (g.back np) (g.ok.free np) upd_same (h5.cut lo hi) (g.newH dr np)
theorem ev_slT {tl th : TO} (h : EvD K S te ρ fun x => ∃ xs, x = .tup xs ∧ EvO K S tl ρ fun lo => EvO K S th ρ fun hi => Φ (.tup (cutD xs lo hi))) : EvD K S (tSl (rSlA K) te tl th) ρ Φ := fun σ F H e s dr Q q =>
  h σ F H e s dr _ fun v x F1 H1 ⟨xs, hx, hl⟩ dd g1 => by
    subst hx
    refine hl σ F1 H1 (e.ag g1) g1.ok g1.dr _ fun lo F2 H2 h2 g2 => h2 σ F2 H2 ((e.ag g1).ag g2) g2.ok g2.dr _ fun hi F3 H3 h3 g3 => ?_
    obtain ⟨a, vs, rfl, h4, h5⟩ := Dat.mono (g2.fs.trans g3.fs) _ dd
    have g := (g1.trans g2 dr).trans g3 dr
    refine ⟨a, vs, rfl, st_sm g.ok h4, fun hw => ?_, fun hw p np => ?_⟩
    · refine q (.ref a) _ F3 H3 h3 ⟨a, vs, rfl, h4, ?_⟩ g
      have e2 : cutD xs lo hi = xs := by
        unfold cutD
        rw [h5.length] at hw
        rw [hw.1, hw.2, List.drop_zero, Nat.sub_zero, List.take_length]
      rw [e2]
      exact h5
    · have nF : F3 p = none := g.ok.free np
      exact q _ (.tup (cutD xs lo hi)) _ _ h3 ⟨p, _, rfl, st_of upd_same, Dats.mono (fun b w z => upd_new z nF) _ (h5.cut lo hi)⟩ (g.newF dr np)
/-! ### == of data -/
mutual
def D.py : D → PyData
  | .bl b => .bool b
  | .int i => .int i
  | .str s => .str s
  | .tup ds => .tuple (D.pys ds)
  | .lst ds => .list (D.pys ds)
  | _ => .none
def D.pys : List D → List PyData
  | [] => []
  | d :: ds => D.py d :: D.pys ds
end
mutual
def D.plain : D → Bool
  | .non => true
  | .bl _ => true
  | .int _ => true
  | .str _ => true
  | .tup ds => D.plains ds
  | .lst ds => D.plains ds
  | _ => false
def D.plains : List D → Bool
  | [] => true
  | d :: ds => D.plain d && D.plains ds
end
mutual
theorem Dat.dp {F H : Hp} (s : Same F H) : ∀ (d : D) {v : V}, D.plain d = true → Dat K S F d v → Dp K H v (D.py d)
  | .non, _, _, h => by cases h; exact .non
  | .bl b, _, _, h => by cases h; exact .bl b
  | .int b, _, _, h => by cases h; exact .int b
  | .str b, _, _, h => by cases h; exact .str b
  | .tup ds, _, p, ⟨a, vs, e, h1, h2⟩ => by subst e; exact .tup (st_sm s h1) (Dats.dp s ds p h2)
  | .lst ds, _, p, ⟨a, vs, e, h1, h2⟩ => by subst e; exact .lst (sl_of (s _ _ h1)) (Dats.dp s ds p h2)
  | .raw _, _, p, _ => by cases p
  | .drw, _, p, _ => by cases p
  | .ins _ _ _, _, p, _ => by cases p
theorem Dats.dp {F H : Hp} (s : Same F H) : ∀ (ds : List D) {vs : List V}, D.plains ds = true → Dats K S F ds vs → DpAll K H vs (D.pys ds)
  | [], _, _, h => by rw [show _ = [] from h]; exact .nil
  | d :: ds, _, p, ⟨v, us, e, h1, h2⟩ => by
    subst e
    have p' : (D.plain d && D.plains ds) = true := p
    rw [Bool.and_eq_true] at p'
    exact .cons (Dat.dp s d p'.1 h1) (Dats.dp s ds p'.2 h2)
end
theorem od_eqD (h1 : x.plain = true) (h2 : y.plain = true) (h3 : SeqAt.shaped x.py = true) (h4 : SeqAt.shaped y.py = true) (k : Φ (.bl (PyData.eqv x.py y.py))) : OpD K S (rEqD K) x y Φ := fun u w F H s dr hx hy Q q =>
  ⟨_, _, Dat.dp s x h1 hx, Dat.dp s y h2 hy, h3, h4, q _ _ F H k rfl (Ag.refl s dr)⟩
theorem od_neD (h1 : x.plain = true) (h2 : y.plain = true) (h3 : SeqAt.shaped x.py = true) (h4 : SeqAt.shaped y.py = true) (k : Φ (.bl (!PyData.eqv x.py y.py))) : OpD K S (rNeD K) x y Φ := fun u w F H s dr hx hy Q q =>
  ⟨_, _, Dat.dp s x h1 hx, Dat.dp s y h2 hy, h3, h4, q _ _ F H k rfl (Ag.refl s dr)⟩
end
/-! ### the draws -/
def fTake : FD := fun ds Φ => ∃ m : Int, ds = [.drw, .int m] ∧ 1 ≤ m ∧ m < 1073741824 ∧ ∀ d : Nat, (d : Int) < m → Φ (.int (d : Int))
def fOne : FD := fun ds Φ => ∃ (x : D) (xs : List D), ds = [.drw, x] ∧ (x = .lst xs ∨ x = .tup xs) ∧ 0 < xs.length ∧ xs.length < 1000000 ∧ ∀ d, d ∈ xs → Φ d
section
variable {K : PySem.W.Frag} {P : Program} {w : World} {mg : Str → Option Value} {base : Heap}
theorem ag_draw {F H H' : Hp} {S : Sx} {s : Ds} (e : S.ds = some s) (h : Same F H) (d : DrI S F H) (f : Fr s.st H H') (d' : Dr H' s) (hb : LamX.Tabs S.tb H') : Ag S F H F H' :=
  Ag0.up ⟨Same.refl F, fun b o q => f b o (ne_of_none q (d.1.1 s e).2) (h b o q), fun b o n q _ => f b o (n s e) q, fun _ q => .inl q, ⟨fun z ez => by rw [e] at ez; cases ez; exact ⟨d', (d.1.1 s e).2⟩, hb, d.1.2.2⟩⟩ d
theorem tabs_fr {T : List (Addr × Str)} {H H' : Hp} {s : Ds} (t : LamX.Tabs T H) (d : Dr H s) (f : Fr s.st H H') : LamX.Tabs T H' := fun p hp => by
  obtain ⟨ps, h1, h2, h3⟩ := t p hp
  obtain ⟨n, r, b, cells, e1, _⟩ := d
  have n1 : p.1 ≠ s.st := fun z => by rw [z, e1] at h1; cases h1
  refine ⟨ps, f _ _ n1 h1, h2, fun pos cv hc => ?_⟩
  obtain ⟨c, e2, e3⟩ := h3 pos cv hc
  have n2 : c ≠ s.st := fun z => by rw [z, e1] at e3; cases e3
  exact ⟨c, e2, f _ _ n2 e3⟩
theorem sp_take {vs : List V} {H : Hp} {Q : VK} {E : XK} (h : spD K fTake vs H Q E) : spTake vs H Q E := by
  obtain ⟨S, F, ds, Φ, s, dr, hd, ⟨m, rfl, h1, h2, h3⟩, q⟩ := h
  obtain ⟨v, _, rfl, ⟨z, ez, rfl⟩, v2, _, rfl, h5, e⟩ := hd
  cases e; cases h5
  have dz := (dr.1.1 z ez).1
  exact ⟨z, m, rfl, dz, h1, h2, fun d H' hd f d' => q _ _ F H' (h3 d hd) rfl (ag_draw ez s dr f d' (tabs_fr dr.1.2.1 dz f))⟩
theorem Cal.take (C : Cal P w K mg base 2 "_law_take" ["_law_state", "_law_many"] spTake) : Cal P w K mg base 2 "_law_take" ["_law_state", "_law_many"] (spD K fTake) := C.imp (Nat.le_refl _) fun vs H Q E h => sp_take h
end
end
/-! Defs by their promises at the level of data. -/
section
set_option maxRecDepth 100000
set_option maxHeartbeats 2000000
open PySem PySem.Spec PyProof.Rows L2
section
variable {P : Program} {w : World} {K : PySem.W.Frag} {mg : Str → Option Value} {base : Heap}
section
variable {S : Sx} {ρ : List Sl} {Ψ : List D → Prop} {te : TE} {tt : TT} {g : TG} {vs : List Nat}
/-- a comprehension over things of a list, each answered by F -/
theorem lc_f {α : Type} {its : List D} (l : List α) (emb : α → D) (F : α → Option D) (hi : its = l.map emb) (hl : l.length < 100000)
    (h : ∀ x, x ∈ l → TgD K S g (· ∈ vs) (emb x) (wipeS ρ vs) fun ρ2 => EvT K S tt ρ2 fun b => if b = true then EvD K S te ρ2 fun y => F x = some y else F x = none) (k : Ψ (l.filterMap F)) :
    ∃ I : Nat → List D → Prop, I 0 [] ∧ (∀ i d acc, its[i]? = some d → I i acc → acc.length < 100000 ∧ TgD K S g (· ∈ vs) d (wipeS ρ vs) fun ρ2 => EvT K S tt ρ2 fun b => if b = true then EvD K S te ρ2 fun y => I (i + 1) (acc ++ [y]) else I (i + 1) acc) ∧ ∀ acc, I its.length acc → Ψ acc := by
  subst hi
  refine ⟨fun i acc => acc = (l.take i).filterMap F, rfl, ?_, ?_⟩
  · rintro i d acc hd rfl
    rw [List.getElem?_map] at hd
    cases e : l[i]? with
    | none => rw [e] at hd; cases hd
    | some x =>
      rw [e] at hd
      cases hd
      refine ⟨?_, ?_⟩
      · have h1 := List.length_filterMap_le F (l.take i)
        have h2 := List.length_take_le' i l
        omega
      · have e2 : (l.take (i + 1)).filterMap F = (l.take i).filterMap F ++ (F x).toList := by
          rw [List.take_add_one, e, List.filterMap_append]
          cases q : F x <;> simp [q]
        intro v σ F' H' en dd s N q
        refine h x (List.mem_of_getElem? e) v σ F' H' en dd s N fun σ' ρ' ht => q σ' ρ' (ht.imp fun b hb => ?_)
        cases b with
        | true => exact EvD.imp hb fun y hy => by rw [hy] at e2; exact e2.symm
        | false =>
          have hb' : F x = none := hb
          rw [hb'] at e2
          show (l.take i).filterMap F = (l.take (i + 1)).filterMap F
          rw [e2]
          exact (List.append_nil _).symm
  · rintro acc rfl
    rw [List.length_map, List.take_length]
    exact k
theorem lc_m {α : Type} {its : List D} (l : List α) (emb : α → D) (F : α → D) (hi : its = l.map emb) (hl : l.length < 100000)
    (h : ∀ x, x ∈ l → TgD K S g (· ∈ vs) (emb x) (wipeS ρ vs) fun ρ2 => EvD K S te ρ2 fun y => y = F x) (k : Ψ (l.map F)) :
    ∃ I : Nat → List D → Prop, I 0 [] ∧ (∀ i d acc, its[i]? = some d → I i acc → acc.length < 100000 ∧ TgD K S g (· ∈ vs) d (wipeS ρ vs) fun ρ2 => EvT K S tYes ρ2 fun b => if b = true then EvD K S te ρ2 fun y => I (i + 1) (acc ++ [y]) else I (i + 1) acc) ∧ ∀ acc, I its.length acc → Ψ acc := by
  refine lc_f l emb (fun x => some (F x)) hi hl (fun x hx => ?_) (by rw [List.filterMap_eq_map']; exact k)
  intro v σ F' H' en dd s N q
  exact h x hx v σ F' H' en dd s N fun σ' ρ' ht => q σ' ρ' (et_yes (iteT (ht.imp fun y hy => by rw [hy])))
/-- a comprehension whose things are drawn, one by one -/
theorem lc_dr {α : Type} {its : List D} (emb : α → D) (Pd : Nat → α → Prop) (hl : its.length < 100000)
    (h : ∀ i d, its[i]? = some d → TgD K S g (· ∈ vs) d (wipeS ρ vs) fun ρ2 => EvD K S te ρ2 fun y => ∃ x, Pd i x ∧ y = emb x) (k : ∀ l : List α, l.length = its.length → (∀ (i : Nat) (x : α), l[i]? = some x → Pd i x) → Ψ (l.map emb)) :
    ∃ I : Nat → List D → Prop, I 0 [] ∧ (∀ i d acc, its[i]? = some d → I i acc → acc.length < 100000 ∧ TgD K S g (· ∈ vs) d (wipeS ρ vs) fun ρ2 => EvT K S tYes ρ2 fun b => if b = true then EvD K S te ρ2 fun y => I (i + 1) (acc ++ [y]) else I (i + 1) acc) ∧ ∀ acc, I its.length acc → Ψ acc := by
  refine ⟨fun i acc => ∃ l : List α, l.length = i ∧ (∀ (i : Nat) (x : α), l[i]? = some x → Pd i x) ∧ acc = l.map emb, ⟨[], rfl, fun i x e => by simp at e, rfl⟩, ?_, ?_⟩
  · rintro i d acc hd ⟨l, hli, hP, rfl⟩
    have hi : i < its.length := (List.getElem?_eq_some_iff.mp hd).1
    refine ⟨by rw [List.length_map]; omega, ?_⟩
    intro v σ F' H' en dd s N q
    refine h i d hd v σ F' H' en dd s N fun σ' ρ' ht => q σ' ρ' (et_yes (iteT (ht.imp fun y hy => ?_)))
    obtain ⟨x, hx, rfl⟩ := hy
    refine ⟨l ++ [x], by rw [List.length_append, hli]; rfl, fun j z e => ?_, by rw [List.map_append]; rfl⟩
    by_cases q : j < l.length
    · rw [List.getElem?_append_left q] at e
      exact hP j z e
    · have hj := (List.getElem?_eq_some_iff.mp e).1
      rw [List.length_append, List.length_singleton] at hj
      have ej : j = l.length := by omega
      subst ej
      rw [List.getElem?_append_right (Nat.le_refl _), Nat.sub_self] at e
      cases e
      rw [hli]
      exact hx
  · rintro acc ⟨l, hli, hP, rfl⟩
    exact k l hli hP
end
/-- xs[n:] -/
theorem cutD_from (xs : List D) (n : Nat) : cutD xs (some (n : Int)) none = xs.drop n := by
  unfold cutD
  rw [HT.sIx_none, HT.sIx_nat]
  by_cases h : n ≤ xs.length
  · rw [Nat.min_eq_left h, List.take_of_length_le]
    rw [List.length_drop]
    exact Nat.le_refl _
  · rw [Nat.min_eq_right (by omega), List.drop_length, List.drop_eq_nil_of_le (by omega), List.take_nil]
/-- xs[:n] -/
theorem cutD_to (xs : List D) (n : Nat) : cutD xs none (some (n : Int)) = xs.take n := by
  unfold cutD
  rw [HT.sIx_none, HT.sIx_nat, List.drop_zero, Nat.sub_zero]
  by_cases h : n ≤ xs.length
  · rw [Nat.min_eq_left h]
  · rw [Nat.min_eq_right (by omega), List.take_length, List.take_of_length_le (by omega)]
/-- behind the first statement of a law: a new state of draws, nothing frozen -/
def Sx.of (s : Ds) (T : List (Addr × Str)) : Sx := ⟨some s, T, fun _ _ => True⟩
theorem ex_start {t : TS} {S : Ds} {T : List (Addr × Str)} {x : V} {n : Nat} {H : Hp} {Q : VK} (d : Dr H S) (hT : LamX.Tabs T H) (h : ExD K (Sx.of S T) t (.un :: .val .drw :: List.replicate n .un) { nx := fun _ => False, rt := fun d => d = .bl true }) (k : ∀ H', Q (.bl true) H') : t { nx := fun _ H' => Q .non H', rt := Q } (some x :: some (.ref S.st) :: List.replicate n none) H := by
  have dr : DrI (Sx.of S T) (fun _ => none) H := ⟨⟨fun s e => by cases e; exact ⟨d, rfl⟩, hT, fun b o e => by cases e⟩, fun _ _ _ => trivial⟩
  have sm : Same (fun _ => none) H := fun b o e => by cases e
  have nm : ∀ (i : Nat) (s : Sl), (Sl.un :: Sl.val .drw :: List.replicate n Sl.un)[i]? = some s → s.held = true → False := by
    intro i s h m
    match i with
    | 0 => cases h; cases m
    | 1 => cases h; cases m
    | i + 2 =>
      have h' : (List.replicate n Sl.un)[i]? = some s := by simpa using h
      rw [(List.mem_replicate.mp (List.mem_of_getElem? h')).2] at m
      cases m
  refine h (fun _ => none) H _ (fun _ => none) H ⟨by simp, fun i y s h1 h2 => ?_, fun i j s s' _ _ a n h1 h2 m1 _ _ _ _ => nm i s h1 (Sl.mh m1)⟩ (fun i s _ a h1 m => (nm i s h1 (Sl.mh m)).elim) (Ag.refl sm dr) dr _ ⟨fun _ _ _ _ h => h.elim, fun v d F' H' h1 h2 a => ?_, fun _ _ _ _ h => h.elim, fun _ _ _ _ h => h.elim, fun _ _ _ _ _ h => h.elim, fun _ _ _ _ _ h => h.elim⟩
  · match i with
    | 0 => cases h2; exact trivial
    | 1 => cases h1; cases h2; exact ⟨_, rfl, S, rfl, rfl⟩
    | i + 2 =>
      have h' : (List.replicate n Sl.un)[i]? = some s := by simpa using h2
      rw [(List.mem_replicate.mp (List.mem_of_getElem? h')).2]
      exact trivial
  · have h1' : d = .bl true := h1
    subst h1'
    cases h2
    exact k H'
/-- the law's promise, with tables of code objects -/
def spLawT (K : PySem.W.Frag) (T : List (Addr × Str)) : Sp := fun vs H Q _ => ∃ (a : Addr) (ns : List Int), vs = [.ref a] ∧ SqL K H a (ns.map V.int) ∧ ns.length ≤ 63 ∧ LamX.Tabs T H ∧ ∀ H', Q (.bl true) H'
theorem Cal.ofD {x : Str} {st : Stmt} {N ps : List Str} {k : Nat} {f : FD} (D : Def K mg x st) (S : FnScope N ps (defScope st))
    (hb : ∀ (kV doc pm : Value) (an : Option Addr) (cdv ct : Value) (us : List Value), us.length = ps.length → bindArgs (PySem.W.fnOf x x (defArgs st) (defBody st) (defScope st) .none kV doc pm an cdv ct) ⟨us, []⟩ = pure (ps.zip us))
    (len : ∀ ds Φ, f ds Φ → ds.length = ps.length)
    (hbody : ∀ (fa : Addr) (cdv : Value) (A : Around) (outer : List Env) (s : Shared) (H : Hp), Room k (A.deeper (envOfC x (defScope st) s.heap.objs.size fa cdv)) →
      ∃ t, PSs (cxR P w K mg base N x (defScope st) fa cdv A outer s H) (defBody st) t ∧ ∀ S ds Φ, f ds Φ → ExD K S t (ini N ds) { nx := fun _ => Φ .non, rt := Φ }) : Cal P w K mg base (k + 1) x ps (spD K f) := by
  refine Cal.of D S hb (fun vs H Q E h => ?_) (fun fa cdv A outer s H vs Q E hr h => ?_)
  · obtain ⟨_, _, ds, Φ, _, _, hd, hf, _⟩ := h
    rw [hd.length]
    exact len ds Φ hf
  · obtain ⟨t, h1, h2⟩ := hbody fa cdv A outer s H hr
    exact ⟨t, h1, body_of h h2⟩
theorem CalM.ofD {C : Addr} {m q : Str} {st : Stmt} {N ps : List Str} {k : Nat} {f : FD} (D : DefM K C m q st) (S : FnScope N ps (defScope st))
    (hb : ∀ (kV doc pm : Value) (an : Option Addr) (cdv ct : Value) (us : List Value), us.length = ps.length → bindArgs (PySem.W.fnOf m q (defArgs st) (defBody st) (defScope st) .none kV doc pm an cdv ct) ⟨us, []⟩ = pure (ps.zip us))
    (len : ∀ ds Φ, f ds Φ → ds.length = ps.length)
    (hbody : ∀ (fa : Addr) (cdv : Value) (A : Around) (outer : List Env) (s : Shared) (H : Hp), Room k (A.deeper (envOfC q (defScope st) s.heap.objs.size fa cdv)) →
      ∃ t, PSs (cxR P w K mg base N q (defScope st) fa cdv A outer s H) (defBody st) t ∧ ∀ S ds Φ, f ds Φ → ExD K S t (ini N ds) { nx := fun _ => Φ .non, rt := Φ }) : CalM P w K mg base (k + 1) C m ps (spD K f) := by
  refine CalM.of D S hb (fun vs H Q E h => ?_) (fun fa cdv A outer s H vs Q E hr h => ?_)
  · obtain ⟨_, _, ds, Φ, _, _, hd, hf, _⟩ := h
    rw [hd.length]
    exact len ds Φ hf
  · obtain ⟨t, h1, h2⟩ := hbody fa cdv A outer s H hr
    exact ⟨t, h1, body_of h h2⟩
theorem CalP.ofD {C : Addr} {m q : Str} {st : Stmt} {N ps : List Str} {k : Nat} {f : FD} (D : DefP K C m q st) (S : FnScope N ps (defScope st))
    (hb : ∀ (kV doc pm : Value) (an : Option Addr) (cdv ct : Value) (us : List Value), us.length = ps.length → bindArgs (PySem.W.fnOf m q (defArgs st) (defBody st) (defScope st) .none kV doc pm an cdv ct) ⟨us, []⟩ = pure (ps.zip us))
    (len : ∀ ds Φ, f ds Φ → ds.length = ps.length)
    (hbody : ∀ (fa : Addr) (cdv : Value) (A : Around) (outer : List Env) (s : Shared) (H : Hp), Room k (A.deeper (envOfC q (defScope st) s.heap.objs.size fa cdv)) →
      ∃ t, PSs (cxR P w K mg base N q (defScope st) fa cdv A outer s H) (defBody st) t ∧ ∀ S ds Φ, f ds Φ → ExD K S t (ini N ds) { nx := fun _ => Φ .non, rt := Φ }) : CalP P w K mg base (k + 1) C m ps (spD K f) := by
  refine CalP.of D S hb (fun vs H Q E h => ?_) (fun fa cdv A outer s H vs Q E hr h => ?_)
  · obtain ⟨_, _, ds, Φ, _, _, hd, hf, _⟩ := h
    rw [hd.length]
    exact len ds Φ hf
  · obtain ⟨t, h1, h2⟩ := hbody fa cdv A outer s H hr
    exact ⟨t, h1, body_of h h2⟩
/-- an __init__ -/
theorem CalM.ofI {C : Addr} {m q : Str} {st : Stmt} {N ps : List Str} {k : Nat} {f : FI} (D : DefM K C m q st) (S : FnScope N ps (defScope st))
    (hb : ∀ (kV doc pm : Value) (an : Option Addr) (cdv ct : Value) (us : List Value), us.length = ps.length → bindArgs (PySem.W.fnOf m q (defArgs st) (defBody st) (defScope st) .none kV doc pm an cdv ct) ⟨us, []⟩ = pure (ps.zip us))
    (len : ∀ ds Φ, f ds Φ → ds.length + 1 = ps.length)
    (hbody : ∀ (fa : Addr) (cdv : Value) (A : Around) (outer : List Env) (s : Shared) (H : Hp), Room k (A.deeper (envOfC q (defScope st) s.heap.objs.size fa cdv)) →
      ∃ t, PSs (cxR P w K mg base N q (defScope st) fa cdv A outer s H) (defBody st) t ∧ ∀ S p dx ds Φ, f ds Φ → ExD K S t (iniS N p dx C ds) { nx := fun ρ => ∃ ns es, ρ[0]? = some (.slf p dx C ns es) ∧ Φ ns es, rt := fun _ => False }) : CalM P w K mg base (k + 1) C m ps (spI K C f) := by
  refine CalM.of D S hb (fun vs H Q E h => ?_) (fun fa cdv A outer s H vs Q E hr h => ?_)
  · obtain ⟨_, _, p, dx, ws, ds, Φ, rfl, _, _, _, _, hd, hf, _⟩ := h
    rw [List.length_cons, hd.length]
    exact len ds Φ hf
  · obtain ⟨t, h1, h2⟩ := hbody fa cdv A outer s H hr
    exact ⟨t, h1, body_init h h2⟩
end
end
/-! Ascending numbers, cuts and counts, plainly. -/
section
set_option maxHeartbeats 2000000
/-- ascending numbers below m -/
structure Asc (ns : List Nat) (m : Nat) : Prop where
  up : ns.Pairwise (· < ·)
  lt : ∀ x ∈ ns, x < m
theorem asc_len : ∀ (ns : List Nat) (lo m : Nat), ns.Pairwise (· < ·) → (∀ x ∈ ns, lo ≤ x ∧ x < m) → ns.length ≤ m - lo
  | [], _, _, _, _ => Nat.zero_le _
  | a :: ns, lo, m, hp, h => by
    have h1 := h a List.mem_cons_self
    have hp' := List.pairwise_cons.mp hp
    have := asc_len ns (a + 1) m hp'.2 fun x hx => ⟨hp'.1 x hx, (h x (List.mem_cons_of_mem _ hx)).2⟩
    rw [List.length_cons]
    omega
theorem Asc.len {ns : List Nat} {m : Nat} (A : Asc ns m) : ns.length ≤ m := asc_len ns 0 m A.up fun x hx => ⟨Nat.zero_le _, A.lt x hx⟩
end
/-! The plain law of kernels. -/
section
set_option maxHeartbeats 2000000
/-! ### the numbers of an edition -/
end
/-! Items of one's own lists. -/
section
set_option maxRecDepth 100000
set_option maxHeartbeats 2000000
section
variable {K : PySem.W.Frag} {S : Sx} {ρ : List Sl} {Φ : D → Prop} {ti : TE} {ds : List D} {i : Nat}
/-- x[e], x one's own list, its items whatever they are -/
theorem ev_ixO (h0 : ρ[i]? = some (.own ds)) (h : EvD K S ti ρ fun x => ∃ z d, x = .int z ∧ atI ds z = some d ∧ Φ d) : EvD K S (tOp (rIxL K) (tVar i) ti) ρ Φ := fun σ F H e s dr Q q => by
  obtain ⟨p, vs, a1, _, a2, a3⟩ := e.own h0
  refine ⟨_, a1, h σ F H e s dr _ fun w x F1 H1 ⟨z, d, hx, hd, hΦ⟩ dx g1 => ?_⟩
  subst hx
  cases dx
  obtain ⟨p', vs', a1', _, a2', a3'⟩ := (e.ag g1).own h0
  rw [a1] at a1'
  cases a1'
  obtain ⟨v, hv, dv⟩ := a3'.at hd
  exact k_ixl (sl_of a2') hv (q _ _ F1 H1 hΦ dv g1)
theorem frzE_own (h0 : ρ[i]? = some (.own ds)) : (frzE ρ)[i]? = some (.val (.lst ds)) := by
  unfold frzE
  rw [List.getElem?_map, h0]
  rfl
/-- len(x), x one's own list -/
theorem ev_lenO (h0 : ρ[i]? = some (.own ds)) (k : Φ (.int (ds.length : Nat))) : EvD K S (tCB (rLen K) (tCons (tVar i) tNil)) ρ Φ := ev_bor (ev_cb1 (ev_cons (ev_var (frzE_own h0) (ev_nil (cd_len ⟨_, .inl rfl, rfl, k⟩)))))
/-- a comprehension over one's own list -/
theorem evN_lcO {its : List D} {g : TG} {tt : TT} {te : TE} {Ψ : List D → Prop} {vs : List Nat} (h0 : ρ[i]? = some (.own its)) (h : ∃ I : Nat → List D → Prop, I 0 [] ∧ (∀ i d acc, its[i]? = some d → I i acc → acc.length < 100000 ∧ TgD K S g (· ∈ vs) d (wipeS ρ vs) fun ρ2 => EvT K S tt ρ2 fun b => if b = true then EvD K S te ρ2 fun y => I (i + 1) (acc ++ [y]) else I (i + 1) acc) ∧ ∀ acc, I its.length acc → Ψ acc) :
    EvN K S (tLc (iE (rItA K) (tVar i)) g tt te vs) ρ Ψ := fun σ F H e s dr Q q => by
  obtain ⟨a, ws, e0, ⟨nFa, nSa⟩, hH, hw⟩ := e.own h0
  obtain ⟨I, i0, is, ie⟩ := h
  refine ⟨_, e0, a, ws, rfl, .inl ⟨sl_of hH, ?_⟩⟩
  intro D nD
  have nF1 : F D = none := s.free nD
  have nS := dr.ne nD
  refine lc_it (walk_list (K := K) (a := a) (xs := ws)) (fun i H' => ∃ acc us F', I i acc ∧ H' D = some (.lst us) ∧ F' D = none ∧ Dats K S F' acc us ∧ Ag S F H F' H') ⟨[], [], F, i0, upd_same, nF1, rfl, (Ag.refl s dr).newH dr nD⟩ ?_ ?_ ?_
  · rintro i H' _ ⟨_, _, _, _, _, _, _, a2⟩
    exact sl_of (a2.keep (fun s e => (nSa s e).1) hH)
  · rintro i x H2 H3 hi ⟨acc, us, F2, hI, hD, nF2, hds, a2⟩ ⟨eH, ex⟩
    subst eH
    obtain ⟨d, hd, dd0⟩ := hw.get' ex
    have dd : Dat K S F2 d x := Dat.mono a2.fs d dd0
    obtain ⟨hl, hT⟩ := is i d acc hd hI
    have e3 : EnvOk K S F2 H3 (wipe σ vs) (wipeS ρ vs) := (e.ag a2).wipe vs
    refine hT x _ F2 H3 e3 dd a2.ok _ fun σ4 ρ4 hx e4 o4 k4 => ⟨wipe_same (k4.1.trans (wipe_length σ vs)) k4.2.1, ?_⟩
    · refine hx σ4 F2 H3 e4 a2.ok a2.dr _ fun b F4 H4 hb g4 => ?_
      have hD4 := g4.keep (fun s e => (nS s e).1) hD
      have nF4 := g4.keepF hD nF2
      have a4 := a2.trans g4 dr
      cases b with
      | true =>
        show te σ4 H4 _
        refine hb σ4 F4 H4 (e4.ag g4) g4.ok g4.dr _ fun v5 d5 F5 H5 h5 dd5 g5 => ?_
        have hD5 := g5.keep (fun s e => (nS s e).1) hD4
        have nF5 := g5.keepF hD4 nF4
        have a5 := a4.trans g5 dr
        have hds5 : Dats K S F5 acc us := Dats.mono (g4.fs.trans g5.fs) acc hds
        exact ⟨us, hD5, by rw [hds.length]; exact Nat.lt_of_lt_of_le hl (by decide), acc ++ [d5], us ++ [v5], F5, h5, upd_same, nF5, hds5.app (Dats.one dd5), a5.mut dr (by rw [hD5]; trivial) (.of nD) nF5 nS⟩
      | false => exact ⟨acc, us, F4, hb, hD4, nF4, Dats.mono g4.fs acc hds, a4⟩
  · rintro H2 ⟨acc, us, F2, hI, hD, nF2, hds, a2⟩
    exact q D us acc F2 H2 (ie acc (by rw [hw.length] at hI; exact hI)) (.of nD) nF2 hD hds a2
theorem ex_par3 {O : Oc} {i j l : Nat} {tr : TA} (h : EvA K S tr ρ fun xs => ∃ x y z, xs = [x, y, z] ∧ O.nx (((ρ.set i (.val x)).set j (.val y)).set l (.val z))) : ExD K S (tPar3 i j l tr) ρ O := fun F0 H0 σ F H e o a d0 E f =>
  h σ F H e a.ok a.dr _ fun vs xs F1 H1 ⟨x, y, z, ex, hx⟩ dx g1 => by
    subst ex
    obtain ⟨v, us, rfl, h1, h2⟩ := dx
    obtain ⟨w, us', rfl, h3, h4⟩ := h2
    obtain ⟨u, us'', rfl, h5, h6⟩ := h4
    cases h6
    exact ⟨v, w, u, rfl, f.nx _ _ F1 H1 hx ((((e.ag g1).set h1).set h3).set h5) (o.set.set.set) (a.trans g1 d0)⟩
end
end
/-! Cells of one's own, reached by pointers: reading, changing, calls that change them. -/
section
set_option maxRecDepth 100000
set_option maxHeartbeats 2000000
/-- the pointer to a cell -/
abbrev pD (a : Addr) : D := .raw (.ref a)
/-- ρ holds the cell c at a -/
def HasC (ρ : List Sl) (a : Addr) (c : Cl) : Prop := ∃ (w : Nat) (m : Bool) (d : D) (γ : Gh), ρ[w]? = some (.obj m d γ) ∧ (a, c) ∈ γ
theorem HasC.mk {ρ : List Sl} (w k : Nat) {m : Bool} {d : D} {γ : Gh} {a : Addr} {c : Cl} (h : ρ[w]? = some (.obj m d γ)) (h2 : γ[k]? = some (a, c)) : HasC ρ a c := ⟨w, m, d, γ, h, List.mem_of_getElem? h2⟩
theorem HasC.of {ρ : List Sl} (w : Nat) {m : Bool} {d : D} {γ : Gh} {a : Addr} {c : Cl} (h : ρ[w]? = some (.obj m d γ)) (h2 : (a, c) ∈ γ) : HasC ρ a c := ⟨w, m, d, γ, h, h2⟩
theorem nd_inj {α β : Type} : ∀ {l : List (α × β)} {j k : Nat} {a : α} {b c : β}, (l.map Prod.fst).Nodup → l[j]? = some (a, b) → l[k]? = some (a, c) → j = k
  | [], _, _, _, _, _, _, h, _ => by simp at h
  | x :: l, 0, 0, _, _, _, _, _, _ => rfl
  | x :: l, 0, k + 1, a, b, c, nd, h1, h2 => by
    rw [List.getElem?_cons_zero] at h1
    rw [List.getElem?_cons_succ] at h2
    cases h1
    rw [List.map_cons, List.nodup_cons] at nd
    exact absurd (List.mem_map.mpr ⟨_, List.mem_of_getElem? h2, rfl⟩) nd.1
  | x :: l, j + 1, 0, a, b, c, nd, h1, h2 => by
    rw [List.getElem?_cons_zero] at h2
    rw [List.getElem?_cons_succ] at h1
    cases h2
    rw [List.map_cons, List.nodup_cons] at nd
    exact absurd (List.mem_map.mpr ⟨_, List.mem_of_getElem? h1, rfl⟩) nd.1
  | x :: l, j + 1, k + 1, a, b, c, nd, h1, h2 => by
    rw [List.getElem?_cons_succ] at h1 h2
    rw [List.map_cons, List.nodup_cons] at nd
    rw [nd_inj nd.2 h1 h2]
theorem setL_same {α : Type} : ∀ {l : List α} {n : Nat} {x : α}, l[n]? = some x → l.set n x = l
  | [], _, _, e => by simp at e
  | y :: l, 0, x, e => by rw [List.getElem?_cons_zero] at e; cases e; rfl
  | y :: l, n + 1, x, e => by
    rw [List.getElem?_cons_succ] at e
    show y :: l.set n x = _
    rw [setL_same e]
theorem gh_addrs {γ : Gh} {k : Nat} {a : Addr} {c c' : Cl} (h : γ[k]? = some (a, c)) : (γ.set k (a, c')).map Prod.fst = γ.map Prod.fst := by
  rw [List.map_set]
  exact setL_same (by rw [List.getElem?_map, h]; rfl)
section
variable {K : PySem.W.Frag} {S : Sx} {ρ : List Sl} {Φ : D → Prop} {Ψ : List D → Prop} {Χ : Bool → Prop} {O : Oc} {ta tb tc te to ti : TE} {tr : TA} {tt tu : TT} {t u : TS} {g : TG} {wi : TI} {i j w k n : Nat} {d x y dw : D} {ds xs : List D} {γ γ1 γ2 : Gh} {a : Addr} {c c' : Cl} {m : Bool}
theorem GhOk.get {F H : Hp} (g : GhOk K S F H γ) (h : γ[k]? = some (a, c)) : Prv S F a ∧ ∃ o, H a = some o ∧ ClOk K S F c o := g.ok a c (List.mem_of_getElem? h)
theorem GhOk.set {F H : Hp} {o : HO} (g : GhOk K S F H γ) (h : γ[k]? = some (a, c)) (q : ClOk K S F c' o) : GhOk K S F (upd H a o) (γ.set k (a, c')) := by
  refine ⟨by rw [gh_addrs h]; exact g.nd, fun b cb hm => ?_⟩
  obtain ⟨j, hj⟩ := List.mem_iff_getElem?.mp hm
  by_cases e : k = j
  · subst e
    have hk : k < γ.length := (List.getElem?_eq_some_iff.mp h).1
    rw [List.getElem?_set_self hk] at hj
    cases hj
    exact ⟨(g.get h).1, o, upd_same, q⟩
  · rw [List.getElem?_set_ne e] at hj
    have nb : b ≠ a := fun z => by subst z; exact e (nd_inj g.nd h hj)
    obtain ⟨p, u, e1, e2⟩ := g.get hj
    exact ⟨p, u, (upd_ne nb).trans e1, e2⟩
theorem GhOk.app {F H : Hp} (g1 : GhOk K S F H γ1) (g2 : GhOk K S F H γ2) (h : ∀ a, a ∈ γ1.map Prod.fst → a ∈ γ2.map Prod.fst → False) : GhOk K S F H (γ1 ++ γ2) := by
  refine ⟨?_, fun b cb hm => ?_⟩
  · rw [List.map_append, List.nodup_append]
    exact ⟨g1.nd, g2.nd, fun a h1 b h2 e => h a h1 (e ▸ h2)⟩
  · rcases List.mem_append.mp hm with z | z
    · exact g1.ok b cb z
    · exact g2.ok b cb z
theorem GhOk.right {F H : Hp} (g : GhOk K S F H (γ1 ++ γ2)) : GhOk K S F H γ2 := by
  have nd := g.nd
  rw [List.map_append, List.nodup_append] at nd
  exact ⟨nd.2.1, fun b cb hm => g.ok b cb (List.mem_append_right _ hm)⟩
theorem GhOk.nil {F H : Hp} : GhOk K S F H [] := ⟨List.nodup_nil, fun _ _ h => nomatch h⟩
theorem EnvOk.cell {F H : Hp} {σ : L2.St} (e : EnvOk K S F H σ ρ) (h : HasC ρ a c) : Prv S F a ∧ ∃ o, H a = some o ∧ ClOk K S F c o := by
  obtain ⟨w, m, d, γ, h1, h2⟩ := h
  obtain ⟨v, _, _, g⟩ := e.obj h1
  exact g.ok a c h2
/-! ### reading -/
theorem ev_varO (h : ρ[i]? = some (.obj m d γ)) (k : Φ d) : EvD K S (tVar i) ρ Φ := fun σ F H e s dr Q q => by
  obtain ⟨v, h1, h2, _⟩ := e.obj h
  exact ⟨v, h1, q v d F H k h2 (Ag.refl s dr)⟩
/-! ### seeing cells as frozen things -/
def Rd (K : PySem.W.Frag) (ρ : List Sl) (d e : D) : Prop := ∀ (S : Sx) (F F1 : Hp) (v : V), Same F F1 → (∀ a c, HasC ρ a c → ∃ o, F1 a = some o ∧ ClOk K S F c o) → Dat K S F d v → Dat K S F1 e v
def Rds (K : PySem.W.Frag) (ρ : List Sl) (ds es : List D) : Prop := ∀ (S : Sx) (F F1 : Hp) (vs : List V), Same F F1 → (∀ a c, HasC ρ a c → ∃ o, F1 a = some o ∧ ClOk K S F c o) → Dats K S F ds vs → Dats K S F1 es vs
theorem Rd.rfl : Rd K ρ d d := fun _ _ _ _ s _ h => Dat.mono s d h
theorem Rds.rfl : Rds K ρ ds ds := fun _ _ _ _ s _ h => Dats.mono s ds h
theorem Rds.nil : Rds K ρ [] [] := Rds.rfl
theorem Rds.cons {e : D} {es : List D} (h : Rd K ρ d e) (k : Rds K ρ ds es) : Rds K ρ (d :: ds) (e :: es) := fun S F F1 vs s p ⟨v, us, e1, h1, h2⟩ => ⟨v, us, e1, h S F F1 v s p h1, k S F F1 us s p h2⟩
theorem Rd.cl {es : List D} (h : HasC ρ a (.l ds)) (k : Rds K ρ ds es) : Rd K ρ (pD a) (.lst es) := fun S F F1 v s p e => by
  cases e
  obtain ⟨o, e1, vs, rfl, e2⟩ := p a _ h
  exact ⟨a, vs, Eq.refl _, e1, k S F F1 vs s p e2⟩
theorem Rd.lst {es : List D} (k : Rds K ρ ds es) : Rd K ρ (.lst ds) (.lst es) := fun S F F1 v s p ⟨a, vs, e, h1, h2⟩ => ⟨a, vs, e, s _ _ h1, k S F F1 vs s p h2⟩
theorem Rd.tup {es : List D} (k : Rds K ρ ds es) : Rd K ρ (.tup ds) (.tup es) := fun S F F1 v s p ⟨a, vs, e, h1, h2⟩ => ⟨a, vs, e, st_sm s h1, k S F F1 vs s p h2⟩
theorem Rds.map {α : Type} {f g : α → D} : ∀ {l : List α}, (∀ x, x ∈ l → Rd K ρ (f x) (g x)) → Rds K ρ (l.map f) (l.map g)
  | [], _ => Rds.nil
  | x :: l, h => Rds.cons (h x List.mem_cons_self) (Rds.map fun y hy => h y (List.mem_cons_of_mem _ hy))
end
end
/-! Cells of one's own: changes, calls that change them. -/
section
set_option maxRecDepth 100000
set_option maxHeartbeats 2000000
/-- the heap without some cells -/
def lessG (H : Hp) (γ : Gh) : Hp := fun b => if b ∈ γ.map Prod.fst then none else H b
section
variable {K : PySem.W.Frag} {S : Sx} {ρ : List Sl} {Φ : D → Prop} {Ψ : List D → Prop} {Χ : Bool → Prop} {O : Oc} {ta tb tc te to ti : TE} {tr : TA} {tt tu : TT} {t u : TS} {g : TG} {wi : TI} {i j w k n : Nat} {d x y dw : D} {ds xs : List D} {γ γ1 γ2 γr : Gh} {a : Addr} {c c' : Cl} {m : Bool}
theorem lessG_out {H : Hp} {b : Addr} (h : b ∉ γ.map Prod.fst) : lessG H γ b = H b := if_neg h
theorem lessG_nt {H : Hp} {b : Addr} (h : Nt (lessG H γ) b) : b ∈ γ.map Prod.fst ∨ Nt H b := by
  by_cases z : b ∈ γ.map Prod.fst
  · exact .inl z
  · exact .inr fun o e => h o (by rw [lessG_out z]; exact e)
/-- the own cells are as if they were made here -/
theorem Ag0.less {F0 H0 F H F' H' : Hp} (a : Ag0 S F0 H0 F H) (n : ∀ b, b ∈ γ.map Prod.fst → Nt H0 b) (g : Ag0 S F (lessG H γ) F' H') : Ag0 S F0 H0 F' H' := by
  refine ⟨a.fs.trans g.fs, g.ok, fun b o hs e no => ?_, fun b e => ?_, g.st⟩
  · have nb : b ∉ γ.map Prod.fst := fun z => n b z o e no
    exact g.ch b o hs (by rw [lessG_out nb]; exact a.ch b o hs e no) no
  · rcases g.nw b e with z | z
    · exact a.nw b z
    · rcases lessG_nt z with z | z
      · exact .inr (n b z)
      · exact .inr (a.back z)
theorem Ag.less {F0 H0 F H F' H' : Hp} (a : Ag S F0 H0 F H) (n : ∀ b, b ∈ γ.map Prod.fst → Nt H0 b) (d0 : DrI S F0 H0) (g : Ag S F (lessG H γ) F' H') : Ag S F0 H0 F' H' := (a.toAg0.less n g.toAg0).up d0
theorem DrS.less {F H : Hp} (d : DrS S F H) (g : GhOk K S F H γ) : DrS S F (lessG H γ) := by
  have keep : ∀ {b : Addr} {o : HO}, H b = some o → (∀ a c, (a, c) ∈ γ → a ≠ b) → lessG H γ b = some o := fun {b o} e n => by
    rw [lessG_out fun z => ?_]
    · exact e
    · obtain ⟨⟨a, c⟩, hm, rfl⟩ := List.mem_map.mp z
      exact n a c hm rfl
  refine ⟨fun s e => ?_, fun p hp => ?_, d.2.2⟩
  · obtain ⟨⟨n1, r, b, cells, h1, h2, h3⟩, h4⟩ := d.1 s e
    exact ⟨⟨n1, r, b, cells, keep h1 fun a c hm => ((g.ok a c hm).1.2 s e).1, keep h2 fun a c hm => ((g.ok a c hm).1.2 s e).2, h3⟩, h4⟩
  · obtain ⟨ps, h1, h2, h3⟩ := d.2.1 p hp
    have nc : ∀ {b : Addr} {o : HO}, H b = some o → ¬ Chg (some o) → ∀ a c, (a, c) ∈ γ → a ≠ b := fun {b o} e nch a c hm z => by
      subst z
      obtain ⟨_, u, e2, q⟩ := g.ok a c hm
      rw [e] at e2
      cases e2
      exact nch q.chg
    refine ⟨ps, keep h1 (nc h1 fun z => z), h2, fun pos cv hc => ?_⟩
    obtain ⟨c', e1, e2⟩ := h3 pos cv hc
    exact ⟨c', e1, keep e2 (nc e2 fun z => z)⟩
theorem DrI.less {F0 H0 F H : Hp} (a : Ag S F0 H0 F H) (d0 : DrI S F0 H0) (g : GhOk K S F H γ) (n : ∀ b, b ∈ γ.map Prod.fst → Nt H0 b) : DrI S F (lessG H γ) :=
  ⟨a.st.less g, fun F' H' g' => d0.2 F' H' (a.toAg0.less n g')⟩
/-! ### changes -/
theorem OwnNew.cell {F H H0 : Hp} {σ : L2.St} (o : OwnNew H0 σ ρ) (e : EnvOk K S F H σ ρ) (hw : ρ[w]? = some (.obj true dw γ)) (hk : γ[k]? = some (a, c)) : Nt H0 a := by
  obtain ⟨v, h1, _⟩ := e.obj hw
  exact o w _ _ a hw rfl h1 (List.mem_map.mpr ⟨_, List.mem_of_getElem? hk, rfl⟩)
/-- x.clear(), x one's own list -/
theorem ex_clrO (h0 : ρ[i]? = some (.own ds)) (hO : O.nx (ρ.set i (.own []))) : ExD K S (tDrop (tBM0 K "list" rClear (tVar i))) ρ O := fun F0 H0 σ F H e o a d0 E f => by
  obtain ⟨p, vs, h1, ⟨nF, ns⟩, h2, h3⟩ := e.own h0
  refine ⟨.ref p, h1, .inl ⟨rfl, vs, sl_of h2⟩, p, vs, rfl, rfl, h2, ?_⟩
  exact f.nx σ _ F _ hO (e.mut h1 h0 rfl ⟨p, _, rfl, ⟨nF, ns⟩, upd_same, rfl⟩) (o.mut h0 rfl) (a.mut d0 (by rw [h2]; trivial) (o i _ _ p h0 rfl h1 rfl) nF ns)
/-! ### slots -/
/-! ### evaluations that change cells -/
def InHand (K : PySem.W.Frag) (S : Sx) (F H H0 : Hp) (σ : L2.St) (ρ : List Sl) (γ : Gh) : Prop := GhOk K S F H γ ∧ (∀ a, a ∈ γ.map Prod.fst → Nt H0 a) ∧ ∀ a, a ∈ γ.map Prod.fst → ∀ (j : Nat) (s : Sl), ρ[j]? = some s → ∀ x, σ[j]? = some x → ¬ s.loc x a
def EvX (K : PySem.W.Frag) (S : Sx) (te : TE) (ρ : List Sl) (Θ : D → Gh → List Sl → Prop) : Prop := ∀ (F0 H0 : Hp) (σ : L2.St) (F H : Hp), EnvOk K S F H σ ρ → OwnNew H0 σ ρ → Ag S F0 H0 F H → DrI S F0 H0 → ∀ Q : VK,
  (∀ v d γ ρ' F' H', Θ d γ ρ' → Dat K S F' d v → EnvOk K S F' H' σ ρ' → OwnNew H0 σ ρ' → InHand K S F' H' H0 σ ρ' γ → Ag S F0 H0 F' H' → Q v H') → te σ H Q
section
variable {Θ : D → Gh → List Sl → Prop}
theorem InHand.nil {F H H0 : Hp} {σ : L2.St} : InHand K S F H H0 σ ρ [] := ⟨.nil, fun _ h => (nomatch h), fun _ h => (nomatch h)⟩
/-- return e, with what is in hand -/
theorem ex_retX (h : EvX K S te ρ fun d γ _ => O.rx d γ) : ExD K S (tRet te) ρ O := fun F0 H0 σ F H e o ag d0 E f =>
  h F0 H0 σ F H e o ag d0 _ fun v d γ ρ' F1 H1 hd dd e1 o1 ⟨q1, q2, _⟩ g1 => f.rx v d γ F1 H1 hd dd q1 q2 g1
/-! ### calls -/
abbrev FC := List D → Gh → (D → Gh → Prop) → Prop
/-- a def that is handed the cells γ, and answers with a thing and cells -/
def spC (K : PySem.W.Frag) (f : FC) : Sp := fun vs H Q _ => ∃ S F ds γ Θ, Same F H ∧ DrI S F (lessG H γ) ∧ DrS S F H ∧ Dats K S F ds vs ∧ GhOk K S F H γ ∧ f ds γ Θ ∧
  ∀ v d γ' F' H', Θ d γ' → Dat K S F' d v → GhOk K S F' H' γ' → (∀ a, a ∈ γ'.map Prod.fst → Nt (lessG H γ) a) → Ag S F (lessG H γ) F' H' → Q v H'
/-- a call without cells -/
theorem evx_call0 {f : FC} (h : EvA K S tr ρ fun xs => f xs [] fun d γ' => Θ d γ' ρ) : EvX K S (tCall (spC K f) [] E0 tr) ρ Θ := fun F0 H0 σ F H e o ag d0 Q q =>
  h σ F H e ag.ok ag.dr _ fun vs xs F1 H1 hf dd g1 => by
    rw [List.append_nil]
    refine ⟨S, F1, xs, [], _, g1.ok, g1.dr, g1.st, dd, .nil, hf, fun u d γ' F' H' hΘ du qg nn g2 => ?_⟩
    have g2' : Ag S F1 H1 F' H' := g2
    have nn' : ∀ a, a ∈ γ'.map Prod.fst → Nt H1 a := nn
    exact q u d γ' ρ F' H' hΘ du ((e.ag g1).ag g2') o ⟨qg, fun b z => (ag.trans g1 d0).backN (nn' b z), fun b z j s hj x hx l => (e.ag g1).fresh (nn' b z) j s hj x hx l⟩ ((ag.trans g1 d0).trans g2' d0)
end
/-! ### bodies -/
/-- a def without cells at its begin -/
theorem body_ofC0 {f : FC} {N : List Str} {vs : List V} {H : Hp} {Q : VK} {E : XK} (h : spC K f vs H Q E) (hb : ∀ S ds γ Θ, f ds γ Θ → γ = [] ∧ ExD K S t (ini N ds) { nx := fun _ => Θ .non [], rt := fun d => Θ d [], rx := Θ, ro := fun ds => ∀ a, Θ (pD a) [(a, .l ds)] }) : t { nx := fun _ H' => Q .non H', rt := Q } (L2.start N vs) H := by
  obtain ⟨S, F, ds, γ, Θ, s, dr, ds0, hd, hg, hf, q⟩ := h
  obtain ⟨rfl, hb⟩ := hb S ds γ Θ hf
  have dr' : DrI S F H := dr
  have q' : ∀ v d γ' F' H', Θ d γ' → Dat K S F' d v → GhOk K S F' H' γ' → (∀ a, a ∈ γ'.map Prod.fst → Nt H a) → Ag S F H F' H' → Q v H' := q
  refine hb F H _ F H (env_ini hd) own_ini (Ag.refl s dr') dr' _ ⟨fun σ ρ F' H' h1 _ _ a => q' .non .non [] F' H' h1 rfl .nil (fun _ h => nomatch h) a, fun v d F' H' h1 h2 a => q' v d [] F' H' h1 h2 .nil (fun _ h => nomatch h) a, fun _ _ _ _ h => h.elim, fun _ _ _ _ h => h.elim, fun p vs ds F' H' h1 h2 h3 h4 h5 g => ?_, fun v d γ' F' H' h1 h2 h3 h4 g => q' v d γ' F' H' h1 h2 h3 h4 g⟩
  refine q' (.ref p) (pD p) [(p, .l ds)] F' H' (h1 p) rfl ⟨by simp, fun b c hm => ?_⟩ (fun b hb => ?_) g
  · cases List.mem_singleton.mp hm
    exact ⟨⟨h3, dr'.1.ne h2⟩, _, h4, vs, rfl, h5⟩
  · rw [show b = p from List.mem_singleton.mp hb]
    exact h2
end
end
/-! Errors at the level of the heap: defs that may raise, their calls, raise without fields. -/
section
set_option maxRecDepth 100000
set_option maxHeartbeats 2000000
open PySem PySem.Spec PyProof.Rows L2
section
variable (P : Program) (w : World) (K : PySem.W.Frag) (mg : Str → Option Value) (base : Heap)
/-- the def x keeps sp, and may raise -/
def CalX (k : Nat) (x : Str) (ps : List Str) (sp : Sp) : Prop :=
  ∃ (f : Addr) (fd : FuncData), mg x = some (.ref f) ∧ PySem.W.keepIn K (.ref f) = true ∧ Binds K fd ps [] ∧ FnOk P w K mg base (L2.CX P w) k f fd ps sp
/-- the method m of the class at C, which may raise -/
def CalMX (k : Nat) (C : Addr) (m : Str) (ps : List Str) (sp : Sp) : Prop :=
  ∃ (f : Addr) (fd : FuncData), Meth K C m f ∧ Binds K fd ps [] ∧ FnOk P w K mg base (L2.CX P w) k f fd ps sp
/-- the class x at C, whose __init__ may raise -/
def CalCX (k : Nat) (x : Str) (C : Addr) (ps : List Str) (sp : Sp) : Prop :=
  mg x = some (.ref C) ∧ PySem.W.makesIn K C = true ∧ PySem.W.keepIn K (.ref C) = true ∧ CalMX P w K mg base k C "__init__" ps sp
end
/-- the context of a def's body that may raise, what is raised being told to E -/
abbrev cxX (P : Program) (w : World) (K : PySem.W.Frag) (mg : Str → Option Value) (base : Heap) (N : List Str) (qual : Str) (scope : Scope) (f : Addr) (cd : Value) (A : Around) (outer : List Env) (s : Shared) (H : Hp) (E : XK) : Cx where
  prog := P
  w := w
  K := K
  mg := mg
  base := base
  A := A.deeper (envOfC qual scope s.heap.objs.size f cd)
  N := N
  s_0 := s
  H_0 := H
  env := envOfC qual scope s.heap.objs.size f cd
  outer := outer
  stack := envOfC qual scope s.heap.objs.size f cd :: outer
  ex := []
  calm := true
  fn := fun _ => true
  pn := []
  xe := fun e s' => wpAny (model P w) (A.deeper (envOfC qual scope s.heap.objs.size f cd)) (leaving (envOfC qual scope s.heap.objs.size f cd) e) (fun _ s2 => L2.CX P w outer H s E e s2) (fun e' s2 => L2.CX P w outer H s E e' s2) s'
/-- what is raised is taken, whatever the slots -/
abbrev TkE (X : Cx) (E : XK) : Prop := Takes X (fun cls d _ H => E cls d H)
section
variable {P : Program} {w : World} {K : PySem.W.Frag} {mg : Str → Option Value} {base : Heap}
theorem tkX {N : List Str} {qual : Str} {scope : Scope} {f : Addr} {cd : Value} {A : Around} {outer : List Env} {s : Shared} {H : Hp} {E : XK} : TkE (cxX P w K mg base N qual scope f cd A outer s H E) E := takes_of rfl rfl rfl rfl
theorem poX {N : List Str} {qual : Str} {scope : Scope} {f : Addr} {cd : Value} {A : Around} {outer : List Env} {s : Shared} {H : Hp} {E : XK} :
    PassesOwn (model P w) (cxX P w K mg base N qual scope f cd A outer s H E).A (cxX P w K mg base N qual scope f cd A outer s H E).env (cxX P w K mg base N qual scope f cd A outer s H E).xe := passes_of (X := cxX P w K mg base N qual scope f cd A outer s H E) rfl
/-- in a try: the wish of the clauses, for all slots of the right number -/
def EL (n : Nat) (W : WX) : XK := fun cls d H => ∀ σ : L2.St, σ.length = n → W cls d σ H
theorem tkL {X : Cx} {W : WX} {n : Nat} (tk : Takes X W) (hn : X.N.length = n) : TkE X (EL n W) := fun u s' x => by
  obtain ⟨a, B, sI, pins, σ, H, cls, d, e, I, nb, up, sky, na, os, ag, w⟩ := x
  exact tk u s' ⟨a, B, sI, pins, σ, H, cls, d, e, I, nb, up, sky, na, os, ag, w σ (I.len.trans hn)⟩
theorem CalX.of {x : Str} {st : Stmt} {N ps : List Str} {k : Nat} {sp : Sp} (D : Def K mg x st) (S : FnScope N ps (defScope st))
    (hb : ∀ (kV doc pm : Value) (an : Option Addr) (cdv ct : Value) (us : List Value), us.length = ps.length → bindArgs (PySem.W.fnOf x x (defArgs st) (defBody st) (defScope st) .none kV doc pm an cdv ct) ⟨us, []⟩ = pure (ps.zip us))
    (len : ∀ vs H Q E, sp vs H Q E → vs.length = ps.length)
    (hbody : ∀ (f : Addr) (cdv : Value) (A : Around) (outer : List Env) (s : Shared) (H : Hp) (vs : List V) (Q : VK) (E : XK), Room k (A.deeper (envOfC x (defScope st) s.heap.objs.size f cdv)) → sp vs H Q E →
      ∃ t, PSs (cxX P w K mg base N x (defScope st) f cdv A outer s H E) (defBody st) t ∧ t { nx := fun _ H' => Q .non H', rt := Q } (start N vs) H) : CalX P w K mg base (k + 1) x ps sp := by
  obtain ⟨f, fd, hm, F⟩ := D
  exact ⟨f, fd, hm, F.kp, F.bindsN hb, F.ok S len fun cdv A outer s H vs Q E hr h => hbody f cdv A outer s H vs Q E hr h⟩
theorem CalMX.of {C : Addr} {m q : Str} {st : Stmt} {N ps : List Str} {k : Nat} {sp : Sp} (D : DefM K C m q st) (S : FnScope N ps (defScope st))
    (hb : ∀ (kV doc pm : Value) (an : Option Addr) (cdv ct : Value) (us : List Value), us.length = ps.length → bindArgs (PySem.W.fnOf m q (defArgs st) (defBody st) (defScope st) .none kV doc pm an cdv ct) ⟨us, []⟩ = pure (ps.zip us))
    (len : ∀ vs H Q E, sp vs H Q E → vs.length = ps.length)
    (hbody : ∀ (f : Addr) (cdv : Value) (A : Around) (outer : List Env) (s : Shared) (H : Hp) (vs : List V) (Q : VK) (E : XK), Room k (A.deeper (envOfC q (defScope st) s.heap.objs.size f cdv)) → sp vs H Q E →
      ∃ t, PSs (cxX P w K mg base N q (defScope st) f cdv A outer s H E) (defBody st) t ∧ t { nx := fun _ H' => Q .non H', rt := Q } (start N vs) H) : CalMX P w K mg base (k + 1) C m ps sp := by
  obtain ⟨f, fd, hm, F⟩ := D
  exact ⟨f, fd, hm, F.bindsN hb, F.ok S len fun cdv A outer s H vs Q E hr h => hbody f cdv A outer s H vs Q E hr h⟩
/-- a promise that is kept without an error -/
theorem fn_calm {k : Nat} {f : Addr} {fd : FuncData} {ps : List Str} {sp sp' : Sp} (F : FnOk P w K mg base (L2.CX P w) k f fd ps sp) (h : ∀ vs H Q E, sp' vs H Q E → sp vs H Q E0) : FnOk P w K mg base CX0 k f fd ps sp' := by
  refine ⟨fun vs H Q E q => F.len vs H Q E0 (h _ _ _ _ q), fun A outer s H args us vs Q E hr he hb hv hs => ?_⟩
  refine codeAny_mono (F.run A outer s H args us vs Q E0 hr he hb hv (h _ _ _ _ hs)) fun r s' q => ?_
  cases r with
  | error e =>
    obtain ⟨_, _, _, _, _, _, _, _, _, _, _, _, z⟩ := q
    exact z.elim
  | ok fl => cases fl <;> exact q
theorem CalX.calm {x : Str} {ps : List Str} {j k : Nat} {sp sp' : Sp} (C : CalX P w K mg base j x ps sp) (hk : j ≤ k) (h : ∀ vs H Q E, sp' vs H Q E → sp vs H Q E0) : Cal P w K mg base k x ps sp' := by
  obtain ⟨f, fd, a, b, c, d⟩ := C
  exact ⟨f, fd, a, b, c, (fn_calm d h).mono hk⟩
theorem CalMX.calm {C : Addr} {m : Str} {ps : List Str} {j k : Nat} {sp sp' : Sp} (c : CalMX P w K mg base j C m ps sp) (hk : j ≤ k) (h : ∀ vs H Q E, sp' vs H Q E → sp vs H Q E0) : CalM P w K mg base k C m ps sp' := by
  obtain ⟨f, fd, a, b, d⟩ := c
  exact ⟨f, fd, a, b, (fn_calm d h).mono hk⟩
end
section
variable {X : Cx} {k j : Nat} {ps : List Str} {sp : Sp} {x m : Str} {C : Addr} {p pos apos : Pos} {e o : Expr} {es : List Expr} {ta : TE} {t : TA} {E : XK}
theorem TkE.pass (tk : TkE X E) : Passes (L2.CX X.prog X.w) X E := passes_call tk fun _ _ _ _ h => h
theorem pe_fnX (c : CalX X.prog X.w X.K X.mg X.base k x ps sp) (hr : Room j X.A) (hk : k ≤ j) (tk : TkE X E) (ha : PA X (e :: es) t) (hg : Gl X x := by rfl)
    (hdb : (x == ("__debug__" : Str)) = false := by decide) (he : starEach (e :: es) X.env = (false, eval e X.env) :: starEach es X.env := by rfl) (hpl : (backTo pos (starEach es X.env)).any (·.1) = false := by rfl) :
    PE X (.Call (.Name x p) (e :: es) [] pos) (tCall sp [] E t) := by
  obtain ⟨f, fd, h1, h2, h3, h4⟩ := c
  exact pe_call h4 (hr.mono hk) hg h1 h2 h3 .nil tk.pass ha hdb he hpl
/-- x op y, both of the class at C, with errors -/
def rOwnX (C : Addr) (sp : Sp) (E : XK) : R2 := fun x y H Q => ∃ a b dx fs dy gs, x = .ref a ∧ y = .ref b ∧ H a = some (.ins C dx fs) ∧ H b = some (.ins C dy gs) ∧ sp [x, y] H Q E
/-! ### raise X() -/
/-- what is known of an own error class without an __init__ -/
structure Xc0 (K : PySem.W.Frag) (mg : Str → Option Value) (x : Str) (C : Addr) : Prop where
  g : mg x = some (.ref C)
  ex : PySem.W.excIn K C [.type "ValueError", .type "Exception", .type "BaseException", .type "object"] "ValueError.__new__" = true
  kp : PySem.W.keepIn K (.ref C) = true
  sb : PySem.W.subIn K (.ref C) (.type "BaseException") = some true
  ty : PySem.W.typeIn K (.ref C) = some (.type "type")
  te : PySem.W.exmOne K (.ref C) (.ref C) = some true
/-- raise X() -/
def tRz (C : Addr) (E : XK) : TS := fun _ _ H => E (.ref C) none H
end
end
/-! Errors at the level of data. -/
section
set_option maxRecDepth 100000
set_option maxHeartbeats 2000000
open PySem PySem.Spec PyProof.Rows L2
/-- an error: its class, the names and the things of its fields -/
structure Ex where
  C : Addr
  ns : List Str
  ds : List D
section
variable (K : PySem.W.Frag) (S : Sx)
/-- the dict of an error tells x -/
def ExOk (F : Hp) (x : Ex) : Option Addr → Prop
  | none => x.ns = [] ∧ x.ds = []
  | some d => ∃ fs : List (Str × V), F d = some (.xd fs) ∧ fs.map Prod.fst = x.ns ∧ Dats K S F x.ds (fs.map Prod.snd)
/-- what is raised as Ψ says is taken by E -/
def XP (E : XK) (Ψ : Ex → Prop) : Prop := ∀ (F H : Hp) (x : Ex) (dct : Option Addr), S.W F H → Ψ x → ExOk K S F x dct → E (.ref x.C) dct H
end
abbrev FX := List D → (D → Prop) → (Ex → Prop) → Prop
abbrev FIX := List D → (List Str → List D → Prop) → (Ex → Prop) → Prop
/-- a promise at the level of data, with errors -/
def spX (K : PySem.W.Frag) (f : FX) : Sp := fun vs H Q E => ∃ S F ds Φ Ψ, Same F H ∧ DrI S F H ∧ Dats K S F ds vs ∧ f ds Φ Ψ ∧ (∀ v d F' H', Φ d → Dat K S F' d v → Ag S F H F' H' → Q v H') ∧
  ∀ x dct F' H', Ψ x → ExOk K S F' x dct → Ag S F H F' H' → E (.ref x.C) dct H'
/-- an __init__'s promise, with errors -/
def spIX (K : PySem.W.Frag) (C : Addr) (f : FIX) : Sp := fun vs H Q E => ∃ S F p dx ws ds Φ Ψ, vs = .ref p :: ws ∧ H p = some (.ins C dx []) ∧ Prv S F p ∧ Same F H ∧ (DrI S F (less H p) ∧ DrS S F H) ∧ Dats K S F ds ws ∧ f ds Φ Ψ ∧
  (∀ ns es gs F' H', Φ ns es → H' p = some (.ins C dx gs) → gs.map Prod.fst = ns → Dats K S F' es (gs.map Prod.snd) → F' p = none → Ag S F (less H p) F' H' → Q .non H') ∧
  ∀ x dct F' H', Ψ x → ExOk K S F' x dct → Ag S F (less H p) F' H' → E (.ref x.C) dct H'
section
variable {K : PySem.W.Frag} {S : Sx} {ρ : List Sl} {Φ : D → Prop} {Ψ : Ex → Prop} {O : Oc} {te : TE} {tr : TA} {t u : TS} {E : XK} {xs ys ds : List D}
theorem ExOk.cast {S' : Sx} {F : Hp} {x : Ex} {dct : Option Addr} (h : S.ds = S'.ds) (q : ExOk K S F x dct) : ExOk K S' F x dct := by
  cases dct with
  | none => exact q
  | some d =>
    obtain ⟨fs, h1, h2, h3⟩ := q
    exact ⟨fs, h1, h2, Dats.cast h _ h3⟩
theorem DrI.now {F H : Hp} (d : DrI S F H) (s : Same F H) : S.W F H := d.2 F H (.refl s d.1)
theorem XP.imp {Ψ' : Ex → Prop} (h : XP K S E Ψ) (k : ∀ x, Ψ' x → Ψ x) : XP K S E Ψ' := fun F H x dct w q o => h F H x dct w (k x q) o
theorem ev_callX {f : FX} (hx : XP K S E Ψ) (h : EvA K S tr ρ fun xs => f xs Φ Ψ) : EvD K S (tCall (spX K f) [] E tr) ρ Φ := fun σ F H e s dr Q q =>
  h σ F H e s dr _ fun vs xs F1 H1 hf dd g1 => by
    rw [List.append_nil]
    exact ⟨S, F1, xs, Φ, Ψ, g1.ok, g1.dr, dd, hf, fun v d F' H' hd dd' g2 => q v d F' H' hd dd' (g1.trans g2 dr), fun x dct F' H' hp ok g2 => hx F' H' x dct (g2.dr.now g2.ok) hp ok⟩
theorem ev_methX {C : Addr} {m : Str} {f : FX} (hx : XP K S E Ψ) (h : EvD K S te ρ fun x => insD C m x ∧ EvA K S tr ρ fun xs => f (x :: xs) Φ Ψ) : EvD K S (tMeth C m (spX K f) [] E te tr) ρ Φ := fun σ F H e s dr Q q =>
  h σ F H e s dr _ fun v x F1 H1 ⟨⟨ns, ds, hi, hm⟩, hA⟩ dd g1 => by
    subst hi
    obtain ⟨a, dx, gs, rfl, h3, h4, h5⟩ := id dd
    refine ⟨a, dx, gs, rfl, g1.ok _ _ h3, lookup_no (by rw [h4]; exact hm), hA σ F1 H1 (e.ag g1) g1.ok g1.dr _ fun vs xs F2 H2 hf dd2 g2 => ?_⟩
    rw [List.append_nil]
    exact ⟨S, F2, .ins C ns ds :: xs, Φ, Ψ, g2.ok, g2.dr, ⟨_, _, rfl, Dat.mono g2.fs _ dd, dd2⟩, hf, fun v d F' H' hd dd' g3 => q v d F' H' hd dd' ((g1.trans g2 dr).trans g3 dr), fun x dct F' H' hp ok g3 => hx F' H' x dct (g3.dr.now g3.ok) hp ok⟩
theorem od_ownX {C : Addr} {f : FX} {ns ns' : List Str} (hx : XP K S E Ψ) (h : f [.ins C ns xs, .ins C ns' ys] Φ Ψ) : OpD K S (rOwnX C (spX K f) E) (.ins C ns xs) (.ins C ns' ys) Φ := fun u w F H s dr h1 h2 Q q => by
  obtain ⟨a, dx, gs, rfl, h3, _⟩ := id h1
  obtain ⟨b, dy, hs, rfl, h4, _⟩ := id h2
  exact ⟨a, b, dx, gs, dy, hs, rfl, rfl, s _ _ h3, s _ _ h4, S, F, [_, _], Φ, Ψ, s, dr, ⟨_, _, rfl, h1, _, _, rfl, h2, rfl⟩, h, q, fun x dct F' H' hp ok g => hx F' H' x dct (g.dr.now g.ok) hp ok⟩
theorem ev_makeX {C : Addr} {f : FIX} (hx : XP K S E Ψ) (h : EvA K S tr ρ fun xs => f xs (fun ns es => Φ (.ins C ns es)) Ψ) : EvD K S (tMake C (spIX K C f) [] E tr) ρ Φ := fun σ F H e s dr Q q =>
  h σ F H e s dr _ fun vs xs F1 H1 hf dd g1 => by
    intro p dx np ndx nd
    have nS := g1.dr.ne np
    have nF : F1 p = none := g1.ok.free np
    rw [List.append_nil]
    have hL : less (upd (upd H1 dx (.own p)) p (.ins C dx [])) p = upd H1 dx (.own p) := by
      funext b
      show (if b = p then none else _) = _
      by_cases w : b = p
      · rw [if_pos w, w, upd_ne nd.symm, np]
      · rw [if_neg w, upd_ne w]
    have g0 : Ag S F1 H1 F1 (upd H1 dx (.own p)) := (Ag.refl g1.ok g1.dr).newH g1.dr ndx
    refine ⟨S, F1, p, dx, vs, xs, _, _, rfl, upd_same, ⟨nF, nS⟩, ?_, ⟨by rw [hL]; exact g0.dr, g0.st.new (by rw [upd_ne nd.symm]; exact np)⟩, dd, hf, fun ns es gs F' H' hΦ h1 h2 h3 h4 g2 => ⟨rfl, ?_⟩, fun x dct F' H' hp ok g3 => hx F' H' x dct (g3.dr.now g3.ok) hp ok⟩
    · intro b o hb
      exact upd_old (upd_new (g1.ok _ _ hb) ndx) (ne_of_none hb nF)
    · rw [hL] at g2
      refine q (.ref p) (.ins C ns es) (upd F' p (.ins C dx gs)) H' hΦ ⟨p, dx, gs, rfl, upd_same, h2, Dats.mono (fun b o z => upd_new z h4) es h3⟩ (g1.trans ?_ dr)
      exact (g0.trans g2 g1.dr).frz g1.dr (.of np) h4 h1 fun s e => (nS s e).1
/-- raise X() -/
theorem ex_rz {C : Addr} (hx : XP K S E Ψ) (h : Ψ ⟨C, [], []⟩) : ExD K S (tRz C E) ρ O := fun F0 H0 σ F H e o a d0 En f => hx F H ⟨C, [], []⟩ none (a.dr.now a.ok) h ⟨rfl, rfl⟩
/-! ### bodies of defs that may raise -/
/-- S, with another thing kept for errors -/
def Sx.wi (S : Sx) (W : Hp → Hp → Prop) : Sx := { S with W := W }
theorem Ag0.wi {F H F' H' : Hp} {W : Hp → Hp → Prop} (a : Ag0 (S.wi W) F H F' H') : Ag0 S F H F' H' := ⟨a.fs, a.ok, a.ch, a.nw, a.st⟩
theorem Ag.unwi {F H F' H' : Hp} {W : Hp → Hp → Prop} (a : Ag (S.wi W) F H F' H') (d : DrI S F H) : Ag S F H F' H' := a.toAg0.wi.up d
theorem Dats.towi {F : Hp} {W : Hp → Hp → Prop} {vs : List V} (h : Dats K S F ds vs) : Dats K (S.wi W) F ds vs := Dats.cast (S := S) (S' := S.wi W) rfl ds h
theorem Dat.unwi {F : Hp} {W : Hp → Hp → Prop} {d : D} {v : V} (h : Dat K (S.wi W) F d v) : Dat K S F d v := Dat.cast (S := S.wi W) (S' := S) rfl d h
theorem EnvOk.towi {F H : Hp} {W : Hp → Hp → Prop} {σ : L2.St} (h : EnvOk K S F H σ ρ) : EnvOk K (S.wi W) F H σ ρ := EnvOk.cast (S := S) (S' := S.wi W) rfl h
theorem EnvOk.unwi {F H : Hp} {W : Hp → Hp → Prop} {σ : L2.St} (h : EnvOk K (S.wi W) F H σ ρ) : EnvOk K S F H σ ρ := EnvOk.cast (S := S.wi W) (S' := S) rfl h
theorem ExOk.unwi {F : Hp} {W : Hp → Hp → Prop} {x : Ex} {dct : Option Addr} (h : ExOk K (S.wi W) F x dct) : ExOk K S F x dct := ExOk.cast (S := S.wi W) (S' := S) rfl h
/-- S, with one more thing kept -/
def Sx.wa (S : Sx) (W : Hp → Hp → Prop) : Sx := S.wi fun F H => S.W F H ∧ W F H
/-- what is kept for a def's own end by errors -/
def WX0 (K : PySem.W.Frag) (S : Sx) (E : XK) (Ψ : Ex → Prop) : Hp → Hp → Prop := fun F H => ∀ x dct, Ψ x → ExOk K S F x dct → E (.ref x.C) dct H
theorem xp_wi : XP K (S.wi (WX0 K S E Ψ)) E Ψ := fun F H x dct w q o => w x dct q o.unwi
theorem xp_wa : XP K (S.wa (WX0 K S E Ψ)) E Ψ := fun F H x dct w q o => w.2 x dct q o.unwi
theorem dr_wi {F H : Hp} (d : DrI S F H) (h : ∀ x dct F' H', Ψ x → ExOk K S F' x dct → Ag S F H F' H' → E (.ref x.C) dct H') : DrI (S.wi (WX0 K S E Ψ)) F H :=
  ⟨d.1, fun F' H' a x dct hp ok => h x dct F' H' hp ok (a.wi.up d)⟩
theorem body_ofX {f : FX} {N : List Str} {vs : List V} {H : Hp} {Q : VK} (h : spX K f vs H Q E) (hb : ∀ S Ψ, XP K S E Ψ → ∀ ds Φ, f ds Φ Ψ → ExD K S t (ini N ds) { nx := fun _ => Φ .non, rt := Φ }) : t { nx := fun _ H' => Q .non H', rt := Q } (L2.start N vs) H := by
  obtain ⟨S, F, ds, Φ, Ψ, s, dr, hd, hf, q, qx⟩ := h
  have d2 := dr_wi (K := K) (E := E) dr qx
  exact hb (S.wi (WX0 K S E Ψ)) Ψ xp_wi ds Φ hf F H _ F H (env_ini hd.towi) own_ini (Ag.refl s d2) d2 _ ⟨fun σ ρ F' H' h1 _ _ a => q .non .non F' H' h1 rfl (a.unwi dr), fun v d F' H' h1 h2 a => q v d F' H' h1 h2.unwi (a.unwi dr), fun _ _ _ _ h => h.elim, fun _ _ _ _ h => h.elim, fun _ _ _ _ _ h => h.elim, fun _ _ _ _ _ h => h.elim⟩
end
section
variable {P : Program} {w : World} {K : PySem.W.Frag} {mg : Str → Option Value} {base : Heap}
theorem CalX.ofD {x : Str} {st : Stmt} {N ps : List Str} {k : Nat} {f : FX} (D : Def K mg x st) (S : FnScope N ps (defScope st))
    (hb : ∀ (kV doc pm : Value) (an : Option Addr) (cdv ct : Value) (us : List Value), us.length = ps.length → bindArgs (PySem.W.fnOf x x (defArgs st) (defBody st) (defScope st) .none kV doc pm an cdv ct) ⟨us, []⟩ = pure (ps.zip us))
    (len : ∀ ds Φ Ψ, f ds Φ Ψ → ds.length = ps.length)
    (hbody : ∀ (fa : Addr) (cdv : Value) (A : Around) (outer : List Env) (s : Shared) (H : Hp) (E : XK), Room k (A.deeper (envOfC x (defScope st) s.heap.objs.size fa cdv)) →
      ∃ t, PSs (cxX P w K mg base N x (defScope st) fa cdv A outer s H E) (defBody st) t ∧ ∀ S Ψ, XP K S E Ψ → ∀ ds Φ, f ds Φ Ψ → ExD K S t (ini N ds) { nx := fun _ => Φ .non, rt := Φ }) : CalX P w K mg base (k + 1) x ps (spX K f) := by
  refine CalX.of D S hb (fun vs H Q E h => ?_) (fun fa cdv A outer s H vs Q E hr h => ?_)
  · obtain ⟨_, _, ds, Φ, Ψ, _, _, hd, hf, _⟩ := h
    rw [hd.length]
    exact len ds Φ Ψ hf
  · obtain ⟨t, h1, h2⟩ := hbody fa cdv A outer s H E hr
    exact ⟨t, h1, body_ofX h h2⟩
theorem CalMX.ofD {C : Addr} {m q : Str} {st : Stmt} {N ps : List Str} {k : Nat} {f : FX} (D : DefM K C m q st) (S : FnScope N ps (defScope st))
    (hb : ∀ (kV doc pm : Value) (an : Option Addr) (cdv ct : Value) (us : List Value), us.length = ps.length → bindArgs (PySem.W.fnOf m q (defArgs st) (defBody st) (defScope st) .none kV doc pm an cdv ct) ⟨us, []⟩ = pure (ps.zip us))
    (len : ∀ ds Φ Ψ, f ds Φ Ψ → ds.length = ps.length)
    (hbody : ∀ (fa : Addr) (cdv : Value) (A : Around) (outer : List Env) (s : Shared) (H : Hp) (E : XK), Room k (A.deeper (envOfC q (defScope st) s.heap.objs.size fa cdv)) →
      ∃ t, PSs (cxX P w K mg base N q (defScope st) fa cdv A outer s H E) (defBody st) t ∧ ∀ S Ψ, XP K S E Ψ → ∀ ds Φ, f ds Φ Ψ → ExD K S t (ini N ds) { nx := fun _ => Φ .non, rt := Φ }) : CalMX P w K mg base (k + 1) C m ps (spX K f) := by
  refine CalMX.of D S hb (fun vs H Q E h => ?_) (fun fa cdv A outer s H vs Q E hr h => ?_)
  · obtain ⟨_, _, ds, Φ, Ψ, _, _, hd, hf, _⟩ := h
    rw [hd.length]
    exact len ds Φ Ψ hf
  · obtain ⟨t, h1, h2⟩ := hbody fa cdv A outer s H E hr
    exact ⟨t, h1, body_ofX h h2⟩
end
/-! ### try -/
section
variable {K : PySem.W.Frag} {S : Sx} {ρ : List Sl} {Ψ : Ex → Prop} {O : Oc} {tb : WX → TS} {ts : Addr → Value → Option Addr → TS} {Wout : WX} {c : Value} {n : Nat}
/-- nothing is known of the slots -/
theorem env_un {F H : Hp} {σ : L2.St} (h : σ.length = n) : EnvOk K S F H σ (List.replicate n .un) := by
  have nm : ∀ (i : Nat) (s : Sl), (List.replicate n Sl.un)[i]? = some s → s = .un := fun i s h => (List.mem_replicate.mp (List.mem_of_getElem? h)).2
  exact ⟨by rw [h, List.length_replicate], fun i x s _ h2 => by rw [nm i s h2]; exact trivial, fun i j s s' _ _ a _ h1 _ m1 => by rw [nm i s h1] at m1; cases m1⟩
theorem own_un {H0 : Hp} {σ : L2.St} : OwnNew H0 σ (List.replicate n .un) := fun i s _ a h m => by
  rw [(List.mem_replicate.mp (List.mem_of_getElem? h)).2] at m
  cases m
end
end
/-! Errors of own classes whose __init__ says super().__init__(x) and keeps x in a field. -/
section
set_option maxRecDepth 100000
set_option maxHeartbeats 4000000
open PySem PySem.Spec PyProof.Rows L2
/-- the body: super().__init__(f); self.f = f -/
abbrev xiBody (f : Str) (p0 p1 p2 p3 p4 p5 p6 p7 p8 p9 : Pos) : List Stmt :=
  [.Expr (.Call (.Attribute (.Call (.Name "super" p0) [] [] p1) "__init__" p2) [.Name f p3] [] p4) p5, .Assign [.Attribute (.Name "self" p6) f p7] (.Name f p8) p9]
abbrev xiEnv (q : Str) (scope : Scope) (L fI cda cc : Addr) : Env := PySem.W.ksEnv q scope L fI (.ref cda) cc
abbrev xiCx (P : Program) (w : World) (K : PySem.W.Frag) (mg : Str → Option Value) (base : Heap) (f q : Str) (scope : Scope) (fI cda cc : Addr) (A : Around) (outer : List Env) (s : Shared) (H : Hp) : Cx where
  prog := P
  w := w
  K := K
  mg := mg
  base := base
  A := A.deeper (xiEnv q scope s.heap.objs.size fI cda cc)
  N := ["self", f]
  s_0 := s
  H_0 := H
  env := xiEnv q scope s.heap.objs.size fI cda cc
  outer := outer
  stack := xiEnv q scope s.heap.objs.size fI cda cc :: outer
  ex := []
  fn := fun _ => false
  calm := true
  pn := []
  xe := fun _ _ => False
/-- the names of such an __init__ -/
structure XiS (f : Str) (scope : Scope) : Prop where
  kind : scope.kind = .function
  co : scope.isCoroutine = false
  gen : scope.isGenerator = false
  cell : ∀ y ∈ scope.names, y.2 ≠ .cell
  free : ∀ y ∈ scope.names, y.2 = .free → y.1 = "__class__"
  sup : scope.names.lookup ("super" : Str) = some .globalImplicit
  cls : scope.names.lookup ("__class__" : Str) = some .free
  slf : scope.names.lookup ("self" : Str) = some .local
  fld : scope.names.lookup f = some .local
  ne : f ≠ "self"
section
variable {P : Program} {w : World} {K : PySem.W.Frag} {mg : Str → Option Value} {base : Heap} {C fI cc cda : Addr} {f q : Str} {scope : Scope}
theorem xi_inv {A : Around} {outer : List Env} {s : Shared} {H : Hp} {h₁ : Heap} {tk : Nat} {a : Addr} {v : V} {u : Value} {oc : Value} {od : Option Addr} {osl : Array (Option Value)} (S : XiS f scope) (hr : Room 1 A) (e0 : Env0 P w K mg base A outer s H)
    (hcc : K.lookup cc = some ⟨oc, od, .cell (some (.ref C)), osl⟩) (r : RelV v u) (hns : h₁.Ns s.heap.objs.size fun y => (([("self", Value.ref a), (f, u)] : List (Str × Value)).reverse).lookup y) (kp : ∀ b o, s.heap.get? b = some o → h₁.get? b = some o) :
    Inv (xiCx P w K mg base f q scope fI cda cc A outer s H) [] [some (.ref a), some v] H { s with heap := h₁, toks := tk } := by
  have KB : base.get? cc = some _ := e0.mod.kin _ _ hcc
  obtain ⟨gc, hc0⟩ := e0.bs _ _ KB
  have ccl : ∀ {y : Str} {c : Addr}, ([(("__class__" : Str), cc)] : List (Str × Addr)).lookup y = some c → y = "__class__" ∧ c = cc := fun {y c} e => by
    rw [List.lookup_cons] at e
    by_cases h : y = "__class__"
    · subst h
      simp at e
      exact ⟨rfl, e.symm⟩
    · have : (y == ("__class__" : Str)) = false := by simpa using h
      rw [this] at e
      cases e
  have noA : ∀ b : Addr, b ∉ (xiCx P w K mg base f q scope fI cda cc A outer s H).ex := fun b z => absurd (show b ∈ ([] : List Addr) from z) (by simp)
  have vis : ∀ {y : Str}, scope.names.lookup y = some .cell → False := fun {y} h => S.cell _ (PySem.mem_of_lookup h) rfl
  refine ⟨⟨e0.mod, S.kind, rfl, rfl, Nat.le_refl _, fun y z c e1 e2 => (ccl e1).1.trans (ccl e2).1.symm, fun y hy => ?_, fun y c z _ => ?_, fun _ => hr.hd, Around.frames_deeper e0.frames, .inr ⟨rfl, rfl⟩, fun b z => absurd z (noA b), e0.bs, e0.bsz, fun b _ _ => noA b,
      fun b z => absurd z (noA b), e0.funs, e0.frf⟩, rfl, e0.bare, Un.kept kp, ⟨_, hns, fun i y z e1 e2 e3 => ?_⟩, fun y c e => ?_, e0.hok.fresh (Nat.le_refl _), fun y c e => ?_, fun p hp => absurd (show p ∈ ([] : List (Addr × Obj)) ++ [] from hp) (by simp), e0.hok.kept kp, rfl⟩
  · rcases hy with hy | hy
    · exact (vis hy).elim
    · have := S.free _ (PySem.mem_of_lookup hy) rfl
      have e : y = "__class__" := this
      subst e
      exact ⟨cc, by rfl⟩
  · have z' : false = true := z
    cases z'
  · match i, e1, e2 with
    | 0, e1, e2 =>
      cases e1; cases e2
      refine ⟨.ref a, rfl, .inl ⟨S.slf, ?_⟩⟩
      show ([(f, u), ("self", Value.ref a)] : List (Str × Value)).lookup ("self" : Str) = _
      have : (("self" : Str) == f) = false := by simpa using fun z => S.ne z.symm
      rw [List.lookup_cons, this]
      rfl
    | 1, e1, e2 =>
      cases e1; cases e2
      refine ⟨u, r, .inl ⟨S.fld, ?_⟩⟩
      show ([(f, u), ("self", Value.ref a)] : List (Str × Value)).lookup f = _
      rw [List.lookup_cons]
      simp
    | i + 2, e1, e2 => cases e1
  · obtain ⟨_, rfl⟩ := ccl e
    exact ⟨_, _, kp _ _ gc, rfl⟩
  · obtain ⟨_, rfl⟩ := ccl e
    exact hc0
/-- super().__init__(v) -/
theorem xi_call {A : Around} {E : Value → Shared → Prop} {u e t0 N : Addr} {nm q : Str} {bs bm : List Value} {sn : List Str} {sub : List Value} {ab : Bool} {col : Option Bool} {dd : Option Addr} {k0 k1 k2 k3 k5 : Option Value} {rest : List Value} {Q : Value → Shared → Prop} {s : Shared}
    (hC : s.heap.get? C = some (excClassObj nm q C N bs bm true sn sub ab col dd k0 k1 k2 k3 k5 "ValueError.__new__")) (he : s.heap.get? e = some (PySem.HandSPX.excO C t0)) (hu : s.heap.get? u = some (PySem.W.kxs_mw "ValueError.__init__" e)) (hz : rest.length ≤ sizeLine)
    (hq : ∀ h' t1, (∀ b o, b ≠ e → s.heap.get? b = some o → h'.get? b = some o) → h'.get? e = some (PySem.HandSPX.excO C t1) → Q .none { s with heap := h' }) :
    wpAny (model P w) A (call (.ref u) rest) Q E s := by
  obtain ⟨h, g, d, t, os⟩ := s
  refine wpAny_call (codeAny_of_tree ?_)
  show wpAny _ A.in1 (callAny (.ref u) ⟨rest, []⟩) _ _ _
  simp only [callAny]
  refine wpAny_bind (wpAny_load hu ?_)
  simp only [PySem.W.kxs_mw]
  refine PySem.W.KFB.if_so (by decide) ?_
  refine wpAny_bind (PySem.W.check_bound_init F.excBase_ValueError.toExcCallFacts hC he rfl ?_)
  refine wpAny_bind (wpAny_pure (wpAny_pure ?_))
  refine ⟨plainId_quiet F.excBase_ValueError.init.plain _, codeAny_builtin F.excBase_ValueError.initEntry ?_⟩
  exact PySem.W.exc_init_tree (cls := .ref C) (t0 := t0) (dv := none) (c2 := .none) (c3 := .none) (b4 := .bool false) he hz fun h' k e' _ => hq h' _ k e'
/-- the promise of such an __init__ -/
def spXi (C : Addr) (f : Str) : Sp := fun vs H Q _ => ∃ (a : Addr) (v : V), vs = [.ref a, v] ∧ H a = some (exo a C none) ∧ ∀ dx, H dx = none → dx ≠ a → Q .non (upd (upd H dx (exd dx [(f, v)])) a (exo a C (some dx)))
theorem xi_fn {params : Arguments} {p0 p1 p2 p3 p4 p5 p6 p7 p8 p9 : Pos} {dV kV doc pm ct oc oc2 oc3 : Value} {an od od2 od3 : Option Addr} {osl osl2 osl3 : Array (Option Value)} {vs : Array Value} {file : Str} {tf : Tok} {ar : Arg}
    (S : XiS f scope) (T : OexC K C) (hno : PySem.W.findIn K (.ref C) f = some none)
    (lk : K.lookup fI = some ⟨oc, od, .func (PySem.W.ksFn "__init__" q params (xiBody f p0 p1 p2 p3 p4 p5 p6 p7 p8 p9) scope dV kV doc pm an (.ref cda) ct cc), osl⟩) (hcd : PySem.W.codeIn K (.ref cda) q = true)
    (hcc : K.lookup cc = some ⟨oc2, od2, .cell (some (.ref C)), osl2⟩) (hco : K.lookup cda = some ⟨oc3, od3, .fields vs, osl3⟩) (hvs : vs[2]? = some (.str file tf)) (hfile : ((P.main.file : Str) == file) = true)
    (htop : (P.main.scope.names.lookup ("super" : Str)).isSome = false) (hmg : mg "super" = none) (hsi : PySem.W.ks_superIn K C C "__init__" = some (some (.builtin "ValueError.__init__"))) (hop : PySem.W.nsIn K cStatics "thirdparty.any" = some none)
    (hsV : PySem.W.subIn K (.ref C) (.type "ValueError") = some true) (hsC : PySem.W.mroIn K C (.ref C) = some true) (hp : (params.posonlyargs ++ params.args).head? = some ar) (har : ar.arg = "self") {pl : Env → Sem Bool}
    (hev : ∀ env : Env, eval (.Call (.Attribute (.Call (.Name "super" p0) [] [] p1) "__init__" p2) [.Name f p3] [] p4) env = (do
      let ov ← attributeBase (.Call (.Name "super" p0) [] [] p1) "__init__" env (eval (.Call (.Name "super" p0) [] [] p1) env)
      standAt p2.atName
      let (g, first) ← holding [ov] (getMethod ov "__init__" (pl env))
      callWith p4 g first (backTo p4 (starEach [.Name f p3] env)) []))
    (hsw : ∀ env : Env, swapsWith (.Call (.Attribute (.Call (.Name "super" p0) [] [] p1) "__init__" p2) [.Name f p3] [] p4) none p5.line env = pure false) (hsw2 : ∀ env : Env, swapsWith (.Name f p8) (some (.Attribute (.Name "self" p6) f p7)) p9.line env = pure false)
    (hdb : (f == ("__debug__" : Str)) = false) (hcdx : (f == ("__classdict__" : Str)) = false) :
    FnOk P w K mg base CX0 1 fI (PySem.W.ksFn "__init__" q params (xiBody f p0 p1 p2 p3 p4 p5 p6 p7 p8 p9) scope dV kV doc pm an (.ref cda) ct cc) ["self", f] (spXi C f) := by
  refine ⟨fun vs H Q E h => by obtain ⟨_, _, rfl, _⟩ := h; rfl, fun A outer s H args us vs' Q E hr e0 hb r h => ?_⟩
  obtain ⟨a, v, rfl, ea, k⟩ := h
  cases r with
  | cons r1 r2 =>
    cases r2 with
    | @cons _ u _ _ rv r3 =>
      cases r3
      cases r1
      have KX : K.In s.heap := e0.mod.kin.keeps fun b o e => (e0.bs b o e).1
      have lim : s.heap.NoLimit := e0.mod.nolimit.keeps fun b o e => (e0.bs b o e).1
      refine ks_codeAny_call_defAt (binds := [("self", .ref a), (f, u)]) hr.depth (KX _ _ lk) rfl lim (PySem.W.codeRec_of KX hcd) rfl hb S.cell (fun y hy => ?_) (fun h₁ hns kp => ?_) S.co S.gen S.kind
      · simp only [List.mem_cons, List.not_mem_nil, or_false] at hy
        rcases hy with rfl | rfl
        · exact S.slf
        · exact S.fld
      have I := xi_inv (q := q) (fI := fI) (cda := cda) (tk := s.toks + 2) S hr e0 hcc rv hns kp
      have KX1 : K.In h₁ := KX.keeps kp
      obtain ⟨nm, q', N, bs, bm, sn, sub, ab, col, dd, k0, k1, k2, k3, k5, hC, hbm⟩ := T.cls
      obtain ⟨t1, ho⟩ := exo_at I.hok ea
      have hC1 := KX1 _ _ hC
      obtain ⟨mb, hmb, hbb⟩ := e0.mod.blt
      show _root_.PySem.wpAt (model P w) (xiCx P w K mg base f q scope fI cda cc A outer s H).A (.func _ (xiCx P w K mg base f q scope fI cda cc A outer s H).env) (execs _ (xiCx P w K mg base f q scope fI cda cc A outer s H).env) _ _ _
      refine ks_wpAt_execs_cons (ks_wpAt_Expr_any (ks_wpAt_MethodCall (pl := pl (xiCx P w K mg base f q scope fI cda cc A outer s H).env) ?_ (hev _)) (by unfold interactive; rw [show (xiCx P w K mg base f q scope fI cda cc A outer s H).env.scope.kind = .function from S.kind]; rfl) (hsw _))
      refine ks_wpAt_super_base (f := fI) (cc := cda) S.sup S.cls (by decide) rfl (KX1 _ _ lk) rfl hp rfl (KX1 _ _ hco) rfl hvs hfile htop ?_
      refine PySem.W.ks_loadName_global S.kind S.sup (Calls.loadGlobal_builtin (env := (xiCx P w K mg base f q scope fI cda cc A outer s H).env) (I.mod.glob.keeps I.bk) hmg (hmb.keeps I.bk) ((hbb _ (by decide +kernel)).trans (by rfl)) ⟨rfl, ?_⟩)
      refine wpAny_loadName_free S.kind S.cls rfl ⟨_, KX1 _ _ hcc, rfl⟩ ?_
      rw [har]
      have hself : (fun y => (([("self", Value.ref a), (f, u)] : List (Str × Value)).reverse).lookup y) "self" = some (.ref a) := by
        show ([(f, u), ("self", Value.ref a)] : List (Str × Value)).lookup ("self" : Str) = _
        have : (("self" : Str) == f) = false := by simpa using fun z => S.ne z.symm
        rw [List.lookup_cons, this]
        rfl
      have hfld : (fun y => (([("self", Value.ref a), (f, u)] : List (Str × Value)).reverse).lookup y) f = some u := by
        show ([(f, u), ("self", Value.ref a)] : List (Str × Value)).lookup f = _
        rw [List.lookup_cons]
        simp
      refine wpAny_loadName_local S.kind S.slf hns hself ?_
      refine ks_wpAny_isType_cls hC1 rfl ⟨rfl, ?_⟩
      refine ks_wpAny_call_super hC1 rfl ho rfl (fun c e => nomatch e) (PySem.W.looks_mroIn KX1 hsC) (fun h2 hso kp2 => ?_)
      have KX2 : K.In h2 := KX1.keeps kp2
      have hcl : PySem.W.clsIn K C = some { name := nm, bases := bs, mro := .ref C :: bm, ns := N, qualname := q', hasDict := true, slotNames := sn, subclasses := sub, abstract := ab, collection := col, hasDel := false } := by
        unfold PySem.W.clsIn
        rw [hC]
      have hm : PySem.W.alongIn K "__init__" (((Value.ref C :: bm).dropWhile (· != .ref C)).drop 1) = some (some (.builtin "ValueError.__init__")) := by
        have z := hsi
        unfold PySem.W.ks_superIn at z
        rw [hcl] at z
        exact z
      have ho2 := kp2 _ _ ho
      have J2 : PySem.W.InstAt h2 a (PySem.HandSPX.excO C t1) C none := ⟨ho2, rfl, rfl, trivial⟩
      refine PySem.W.kxs_getMethod PySem.W.kxs_ValueError hso (PySem.W.looks_opaque KX2 hop) (l₀ := .ref C :: bm) (fun A Q E s k q => wpAny_bind ((PySem.W.looks_clsIn KX2 hcl) A _ E s k (wpAny_pure q))) rfl KX2 hm (J2.type.andThen (PySem.W.looks_subIn KX2 hsV)) (PySem.W.ks_ne KX2 J2 hcl) (by decide) ?_
      have kp3 : ∀ b o, h₁.get? b = some o → (h2.push (PySem.W.kxs_mw "ValueError.__init__" a)).get? b = some o := fun b o e => Heap.get?_push_of_some _ (kp2 b o e)
      have I3 := I.kept (t' := s.toks + 2 + 1) kp3
      have hu : (h2.push (PySem.W.kxs_mw "ValueError.__init__" a)).get? h2.objs.size = some (PySem.W.kxs_mw "ValueError.__init__" a) := Heap.get?_push_size _ rfl
      refine PySem.W.kxs_callWith (i := "ValueError.__init__") (x := a) (by rfl) (Calls.evalArgs_plain ?_)
      show wpAny _ _ (spliced ((false, eval (.Name f p3) _) :: backTo p4 (starEach [] _))) _ _ _
      refine Calls.spliced_cons (wpAny_Name (wpAny_loadName_local S.kind S.fld (hns.keeps kp3) hfld ?_) hdb)
      refine Calls.spliced_nil ⟨hu, ?_⟩
      show wpAny _ _ (call (.ref h2.objs.size) [u]) _ _ _
      refine xi_call (C := C) (KX2.keeps (fun b o e => Heap.get?_push_of_some _ e) _ _ hC) (Heap.get?_push_of_some _ ho2) hu (by show 1 ≤ sizeLine; rw [sizeLine_eq]; omega) fun h4 t2 kp4 ho4 => ?_
      have J := I3.write (t' := s.toks + 2 + 1) (x := a) (e := a) (o := exo a C none) (by rw [ea]; exact True.intro) (.inl rfl) kp4 ⟨_, ho4⟩ (exo_ok ho4)
      have eu : upd H a (exo a C none) = H := by
        funext b
        by_cases hb : b = a
        · rw [hb, upd_same, ea]
        · rw [upd_ne hb]
      rw [eu] at J
      refine PySem.wpAt_of_wpAny ?_
      have PO : PS (xiCx P w K mg base f q scope fI cda cc A outer s H) (.Assign [.Attribute (.Name "self" p6) f p7] (.Name f p8) p9) (tOst K f (tVar 0) (tVar 1)) :=
        ps_ost (X := xiCx P w K mg base f q scope fI cda cc A outer s H) (pe_var (i := 0) rfl (.inl S.slf)) (pe_var (i := 1) rfl (.inl S.fld) hdb hcdx) (hsw2 _)
      refine wpAny_mono ((pss_one PO).run [] _ [some (.ref a), some v] H { nx := fun _ H' => Q .non H', rt := Q } J ?_) (fun fl s' hq => ?_) (fun e s' hq => (show False from hq).elim)
      · exact ⟨v, rfl, .ref a, rfl, a, C, rfl, T, hno, .inl ⟨ea, fun dx n ne => k dx n ne⟩⟩
      · have fin : ∀ {σ' : L2.St} {H' : Hp} {v' : V} {u' : Value}, Inv (xiCx P w K mg base f q scope fI cda cc A outer s H) [] σ' H' s' → RelV v' u' → Q v' H' → CE outer P w H s Q u' s' :=
          fun {σ' H' v' u'} J rv q => ⟨v', H', J.os, J.bare, J.base, J.hok, rv, q⟩
        cases fl with
        | ret u' => obtain ⟨v', σ', H', J', rv', q'⟩ := hq; exact fin J' rv' q'
        | next => obtain ⟨σ', H', J', q'⟩ := hq; exact fin (v' := .non) (u' := .none) J' rfl q'
        | brk => obtain ⟨_, _, _, z⟩ := hq; exact z.elim
        | cont => obtain ⟨_, _, _, z⟩ := hq; exact z.elim
end
end
/-! try with several clauses, with and without names; raise X(e). -/
section
set_option maxRecDepth 100000
set_option maxHeartbeats 4000000
open PySem PySem.Spec PyProof.Rows L2
/-- a clause: its class, the slot of its name, its suite's reading -/
structure Hdl where
  c : Value
  i : Option Nat
  ts : Addr → Value → Option Addr → TS
/-- behind a suite its name is gone -/
def hid (D : Ends) (i : Nat) : Ends := { nx := fun σ H => D.nx (σ.set i none) H, rt := D.rt, bk := fun σ H => D.bk (σ.set i none) H, ct := fun σ H => D.ct (σ.set i none) H }
def Hdl.go (h : Hdl) (a : Addr) (cls : Value) (d : Option Addr) (D : Ends) (σ : L2.St) (H : Hp) : Prop := match h.i with
  | none => h.ts a cls d D σ H
  | some i => h.ts a cls d (hid D i) (σ.set i (some (.ref a))) H
def wAll (K : PySem.W.Frag) (Wout : WX) (D : Ends) : List Hdl → WX
  | [] => Wout
  | h :: r => fun cls d σ H => ∃ b, PySem.W.exmOne K cls h.c = some b ∧ (b = true → ∀ a, H a = none → h.go a cls d D σ H) ∧ (b = false → wAll K Wout D r cls d σ H)
inductive HdsA (X : Cx) : List ExceptHandler → List Hdl → Prop
  | nil : HdsA X [] []
  | one {x : Str} {c : Value} {ts : Addr → Value → Option Addr → TS} {b₀ : Stmt} {suite : List Stmt} {np po : Pos} {hds : List ExceptHandler} {l : List Hdl} (hc : Names X x c)
      (su : ∀ (a : Addr) (oe : Obj) (cls : Value) (d : Option Addr) (pn : List (Addr × Obj)), Zc cls d oe → (∃ vs, oe.data = .fields vs) → PSs (X.suite a ((a, oe) :: pn)) (b₀ :: suite) (ts a cls d)) (r : HdsA X hds l) :
      HdsA X (.ExceptHandler (some (.Name x np)) none (b₀ :: suite) po :: hds) (⟨c, none, ts⟩ :: l)
  | as {x n : Str} {i : Nat} {c : Value} {ts : Addr → Value → Option Addr → TS} {b₀ : Stmt} {suite : List Stmt} {np po : Pos} {hds : List ExceptHandler} {l : List Hdl} (hN : X.N.Nodup) (hi : X.N[i]? = some n) (hl : X.env.kindOf n = some .local) (hc : Names X x c)
      (su : ∀ (a : Addr) (oe : Obj) (cls : Value) (d : Option Addr) (pn : List (Addr × Obj)), Zc cls d oe → (∃ vs, oe.data = .fields vs) → PSs (X.suite a ((a, oe) :: pn)) (b₀ :: suite) (ts a cls d)) (r : HdsA X hds l) :
      HdsA X (.ExceptHandler (some (.Name x np)) (some n) (b₀ :: suite) po :: hds) (⟨c, some i, ts⟩ :: l)
/-- try: .. except ..: .. -/
def tTryA (K : PySem.W.Frag) (Wout : WX) (tb : WX → TS) (l : List Hdl) : TS := fun D σ H => tb (wAll K Wout D l) D σ H
section
variable {X : Cx} {body : List Stmt} {h₀ : ExceptHandler} {hds : List ExceptHandler} {l : List Hdl} {pos : Pos} {tb : WX → TS} {Wout : WX}
theorem ps_tryA (hs : X.stack = X.env :: X.outer) (hf : X.env.frame = some X.env.locals) (tk : Takes X Wout)
    (hb : ∀ (W : WX) (pn : List (Addr × Obj)) (xe : Value → Shared → Prop), Takes (X.tr pn xe) W → PassesOwn (model X.prog X.w) X.A X.env xe → PSs (X.tr pn xe) body (tb W))
    (hh : HdsA X (h₀ :: hds) l) : PS X (.Try body (h₀ :: hds) [] [] pos) (tTryA X.K Wout tb l) := by
  refine ⟨fun pins s σ H D I hq => ?_⟩
  have ok := I.ok
  have fr : X.A.frames = some (X.env :: X.outer) := hs ▸ ok.frames
  refine wpAny_Try_except ?_
  refine wpAny_mono ((hb (wAll X.K Wout D l) (X.pn ++ pins) (fun e s1 => wpAny (model X.prog X.w) X.A (noteFrame e X.env) (fun _ s2 => wpAny (model X.prog X.w) X.A (setFlight e none) (fun _ s3 =>
    wpAny (model X.prog X.w) X.A (handleBy e X.env (h₀ :: hds)) (SP X pins D) X.xe s3) X.xe s2) X.xe s1) (fun u sx xx => ?_) PassesOwn.looking).run [] s σ H D (I.toTry _) hq) (fun fl s1 hsp => ?_) (fun _ _ z => z)
  · obtain ⟨a, B, sI, pins', σ', H', cls, d, rfl, J0, nb, up, sky, na, os, ag, w⟩ := xx
    have J : Inv X pins σ' H' sI := J0.ofTry ok
    rw [show (X.tr (X.pn ++ pins) _).stack = X.env :: X.outer from hs] at sky
    show wpAny (model X.prog X.w) X.A (noteFrame (.ref a) X.env) _ _ sx
    refine Sky.land Zc.steady fr hf sky fun h3 fl3 up3 => ?_
    have J3 : Inv X pins σ' H' { sx with heap := h3 } := J.landed nb fl3.1 (up.trans up3) os ag
    obtain ⟨o3, v3, e3, z3, d3⟩ := fl3.there
    have nfr : a ∉ frs (X.env :: X.outer) := fun hm => by
      obtain ⟨_, o', e', hnf⟩ := fl3.2.2.1.mem hm
      cases e3.symm.trans e'
      exact hnf _ d3
    have nL : a ≠ X.env.locals := fun z => nfr (List.mem_filterMap.mpr ⟨X.env, List.mem_cons_self, z ▸ hf⟩)
    have nF : a ∉ X.fs := fun hm => by
      obtain ⟨e, he, q⟩ := List.mem_filterMap.mp hm
      exact nfr (List.mem_filterMap.mpr ⟨e, .tail _ he, q⟩)
    have S3 := J3.suite e3 d3 na nL nF
    have LT : PySem.W.Looks (model X.prog X.w) h3 (typeOf (.ref a)) cls := fun A Q E s k q => wpAny_typeOf_ref (k _ _ e3) (z3.1 ▸ q)
    have test : ∀ {x : Str} {c : Value} {np : Pos}, Names X x c → ∀ {Q : Value → Shared → Prop} {E : Value → Shared → Prop}, Q c { sx with heap := h3 } → wpAny (model X.prog X.w) (X.A.mark (some (.ref a))) (eval (.Name x np) X.env) Q E { sx with heap := h3 } := fun {x c np} hc {Q E} q => by
      obtain ⟨hg, hdbg, hm | ⟨hm, hv, hnn⟩⟩ := hc
      · exact ld_glob (X := X.suite a ((a, o3) :: (X.pn ++ pins))) S3 hg hm q hdbg
      · exact ld_blt (X := X.suite a ((a, o3) :: (X.pn ++ pins))) S3 hg hm hv q hnn hdbg
    have go : ∀ {hds' : List ExceptHandler} {l' : List Hdl}, HdsA X hds' l' → wAll X.K Wout D l' cls d σ' H' → wpAny (model X.prog X.w) X.A (handleBy (.ref a) X.env hds') (SP X pins D) X.xe { sx with heap := h3 } := by
      intro hds' l' hk
      induction hk with
      | nil =>
        intro w
        refine wpAny_handleBy_nil ?_
        obtain ⟨_, _, _, oe, vs, T, _, _, he, _, hd, h1, _⟩ := id fl3
        unfold PySem.passOn
        refine wpAny_bind (wpAny_field he hd h1 ?_)
        rw [if_neg (by simp)]
        have fin : wpAny (model X.prog X.w) X.A (setFlight (.ref a) X.env.frame) (fun _ s4 => wpAny (model X.prog X.w) X.A (throw (.ref a) : Sem Flow) (SP X pins D) X.xe s4) X.xe { sx with heap := h3 } := by
          rw [hf]
          refine HandSPX.setFlight_upZ fl3 fun h4 hh4 up4 => wpAny_throw (tk _ _ ⟨a, B, sI, pins, σ', H', cls, d, rfl, J, nb, (up.trans up3).trans up4, .inr (.inr (by rw [hs]; exact hh4)), na, os, ag, w⟩)
        first
          | exact wpAny_bind (wpAny_pure (wpAny_bind fin))
          | exact wpAny_bind fin
      | one hc su r ih =>
        intro w
        obtain ⟨b, b1, yes, no⟩ := w
        refine wpAny_handleBy_cons (codeAny_handlers_test (test hc ((PySem.W.exm_one (M := model X.prog X.w) J3.kIn LT b1).here ?_))) (by intro q; cases q)
        cases b with
        | false => exact ih (no rfl)
        | true =>
          refine codeAny_handlers_suite (HandSPX.lands_againZ fl3 fun h4 fl4 up4 => ?_)
          obtain ⟨o4, _, e4, z4, d4⟩ := fl4.there
          have S4 := (J.landed (s' := { sx with heap := h4 }) nb fl4.1 ((up.trans up3).trans up4) os ag).suite e4 d4 na nL nF
          refine wpAny_mono ((su a o4 cls d (X.pn ++ pins) z4 ⟨_, d4⟩).run [] _ _ H' _ S4 (yes rfl a na)) (fun fl s6 hsp => ?_) (fun _ _ z => False.elim z)
          cases fl with
          | ret u => obtain ⟨v6, σ6, H6, S6, r6, q6⟩ := hsp; exact ⟨_, _, _, S6.unsuite ok, r6, q6⟩
          | next => obtain ⟨σ6, H6, S6, q6⟩ := hsp; exact ⟨_, _, S6.unsuite ok, q6⟩
          | brk => obtain ⟨σ6, H6, S6, q6⟩ := hsp; exact ⟨_, _, S6.unsuite ok, q6⟩
          | cont => obtain ⟨σ6, H6, S6, q6⟩ := hsp; exact ⟨_, _, S6.unsuite ok, q6⟩
      | as hN hi hl hc su r ih =>
        intro w
        obtain ⟨b, b1, yes, no⟩ := w
        refine wpAny_handleBy_cons (codeAny_handlers_test (test hc ((PySem.W.exm_one (M := model X.prog X.w) J3.kIn LT b1).here ?_))) (by intro q; cases q)
        cases b with
        | false => exact ih (no rfl)
        | true =>
          refine codeAny_handlers_suite_as (HandSPX.lands_againZ fl3 fun h4 fl4 up4 => ?_)
          obtain ⟨o4, _, e4, z4, d4⟩ := fl4.there
          have S4 := (J.landed (s' := { sx with heap := h4 }) nb fl4.1 ((up.trans up3).trans up4) os ag).suite e4 d4 na nL nF
          refine store_ok (X := X.suite a ((a, o4) :: (X.pn ++ pins))) (v := .ref a) S4 hN hi (.inl hl) rfl (fun s5 S5 => ?_) (.inr hl)
          refine wpAny_mono ((su a o4 cls d (X.pn ++ pins) z4 ⟨_, d4⟩).run [] s5 _ H' _ S5 (yes rfl a na)) (fun fl s6 hsp => ?_) (fun _ _ z => False.elim z)
          cases fl with
          | ret u => obtain ⟨v6, σ6, H6, S6, r6, q6⟩ := hsp; exact gone_ok (S6.unsuite ok) hN hi hl fun s7 J7 => ⟨_, _, _, J7, r6, q6⟩
          | next => obtain ⟨σ6, H6, S6, q6⟩ := hsp; exact gone_ok (S6.unsuite ok) hN hi hl fun s7 J7 => ⟨_, _, J7, q6⟩
          | brk => obtain ⟨σ6, H6, S6, q6⟩ := hsp; exact gone_ok (S6.unsuite ok) hN hi hl fun s7 J7 => ⟨_, _, J7, q6⟩
          | cont => obtain ⟨σ6, H6, S6, q6⟩ := hsp; exact gone_ok (S6.unsuite ok) hN hi hl fun s7 J7 => ⟨_, _, J7, q6⟩
    exact go hh w
  · cases fl with
    | next => obtain ⟨σ', H', J', q⟩ := hsp; exact wpAny_execs_nil ⟨σ', H', J'.ofTry ok, q⟩
    | brk => obtain ⟨σ', H', J', q⟩ := hsp; exact ⟨σ', H', J'.ofTry ok, q⟩
    | cont => obtain ⟨σ', H', J', q⟩ := hsp; exact ⟨σ', H', J'.ofTry ok, q⟩
    | ret u => obtain ⟨v, σ', H', J', r, q⟩ := hsp; exact ⟨v, σ', H', J'.ofTry ok, r, q⟩
end
end
/-! raise X(e), try with clauses: at the level of data. -/
section
set_option maxRecDepth 100000
set_option maxHeartbeats 4000000
open PySem PySem.Spec PyProof.Rows L2
/-- what is known of an own error class whose __init__ keeps one field f -/
structure Xc1 (P : Program) (w : World) (K : PySem.W.Frag) (mg : Str → Option Value) (base : Heap) (x : Str) (C : Addr) (f : Str) : Prop where
  g : mg x = some (.ref C)
  oc : OexC K C
  ini : ∃ (fI : Addr) (fd : FuncData), PySem.W.findIn K (.ref C) "__init__" = some (some (.ref fI)) ∧ PySem.W.typeIn K (.ref fI) = some (.type "function") ∧ Binds K fd ["self", f] [] ∧ FnOk P w K mg base CX0 1 fI fd ["self", f] (spXi C f)
  xf : XfC K C
  nf : PySem.W.findIn K (.ref C) f = some none
  te : PySem.W.exmOne K (.ref C) (.ref C) = some true
/-- raise X(e) -/
def tRe (C : Addr) (f : Str) (E : XK) (te : TE) : TS := fun _ σ H => tMkO C (spXi C f) [] (tCons te tNil) σ H fun cls d H' => E cls d H'
section
variable {X : Cx} {j : Nat} {x f : Str} {C : Addr} {p pos pos2 : Pos} {e : Expr} {te : TE} {E : XK}
theorem ps_re (hc : X.calm = true) (T : Xc1 X.prog X.w X.K X.mg X.base x C f) (hr : Room j X.A) (tk : TkE X E) (he : PE X e te) (hk : 2 ≤ j := by decide) (hg : Gl X x := by rfl) (hdb : (x == ("__debug__" : Str)) = false := by decide)
    (hst : starEach [e] X.env = (false, eval e X.env) :: starEach [] X.env := by rfl) : PS X (.Raise (some (.Call (.Name x p) [e] [] pos)) none pos2) (tRe C f E te) := by
  obtain ⟨fI, fd, h1, h2, h3, h4⟩ := T.ini
  exact ps_raise hc tk (pmk_oex (p := p) (pos := pos) T.oc h1 h2 h4 (hr.mono hk) h3 .nil (fun _ _ _ _ _ _ _ z => z.elim) hg T.g (pa_cons he pa_nil hst) hdb hst)
end
section
variable {K : PySem.W.Frag} {S : Sx} {ρ : List Sl} {Ψ : Ex → Prop} {O : Oc} {te : TE} {E : XK} {C : Addr} {f : Str} {tb : WX → TS} {Wout : WX} {l : List Hdl} {n : Nat}
theorem ex_re (hx : XP K S E Ψ) (h : EvD K S te ρ fun d => Ψ ⟨C, [f], [d]⟩) : ExD K S (tRe C f E te) ρ O := fun F0 H0 σ F H e o a d0 En fi =>
  h σ F H e a.ok a.dr _ fun v d F1 H1 hd dd g1 => by
    show [v].length ≤ 1000 ∧ ∀ b, H1 b = none → spXi C f (.ref b :: ([v] ++ [])) (upd H1 b (exo b C none)) _ _
    refine ⟨Nat.le_of_ble_eq_true rfl, fun b nb => ⟨b, v, rfl, upd_same, fun dx n ne => ⟨rfl, dx, [(f, v)], upd_same, by rw [upd_ne ne, upd_same], new_none n, ?_⟩⟩⟩
    have nd : H1 dx = none := new_none n
    have eq : upd (del (upd (upd (upd H1 b (exo b C none)) dx (exd dx [(f, v)])) b (exo b C (some dx))) b) dx (.xd [(f, v)]) = upd H1 dx (.xd [(f, v)]) := by
      funext c
      by_cases q : c = dx
      · rw [q, upd_same, upd_same]
      · rw [upd_ne q, upd_ne q]
        by_cases q2 : c = b
        · rw [q2, del_same, nb]
        · rw [del_ne q2, upd_ne q2, upd_ne q, upd_ne q2]
    rw [eq]
    have g2 := g1.newF (o := .xd [(f, v)]) a.dr nd
    have nF : F1 dx = none := g1.ok.free nd
    exact hx _ _ ⟨C, [f], [d]⟩ (some dx) (g2.dr.now g2.ok) hd ⟨[(f, v)], upd_same, rfl, Dats.one (Dat.mono (fun c u z => upd_new z nF) d dd)⟩
/-- a clause, at an error x -/
def SuG (K : PySem.W.Frag) (S : Sx) (h : Hdl) (n : Nat) (x : Ex) (O : Oc) : Prop := ∀ (F0 H0 : Hp) (σ : L2.St) (F H : Hp) (dct : Option Addr) (a : Addr), σ.length = n → ExOk K S F x dct → H a = none → Ag S F0 H0 F H → DrI S F0 H0 → ∀ En : Ends, Fin K S F0 H0 O En → h.go a (.ref x.C) dct En σ H
def HdD (K : PySem.W.Frag) (S : Sx) (n : Nat) (x : Ex) (O : Oc) : List Hdl → Prop
  | [] => False
  | h :: r => (PySem.W.exmOne K (.ref x.C) h.c = some true ∧ SuG K S h n x O) ∨ (PySem.W.exmOne K (.ref x.C) h.c = some false ∧ HdD K S n x O r)
theorem HdD.all {x : Ex} {F0 H0 F H : Hp} {σ : L2.St} {dct : Option Addr} {En : Ends} (hσ : σ.length = n) (ok : ExOk K S F x dct) (g : Ag S F0 H0 F H) (d0 : DrI S F0 H0) (fi : Fin K S F0 H0 O En) : ∀ {l : List Hdl}, HdD K S n x O l → wAll K Wout En l (.ref x.C) dct σ H
  | [], h => h.elim
  | h :: r, .inl ⟨e, su⟩ => ⟨true, e, fun _ a na => su F0 H0 σ F H dct a hσ ok na g d0 En fi, fun z => nomatch z⟩
  | h :: r, .inr ⟨e, q⟩ => ⟨false, e, fun z => (nomatch z), fun _ => HdD.all hσ ok g d0 fi q⟩
theorem ex_tryA (hn : ρ.length = n) (Ψ : Ex → Prop) (hb : ∀ (S' : Sx) (W : WX), S'.ds = S.ds → S'.tb = S.tb → (∀ F H, S'.W F H → S.W F H) → XP K S' (EL n W) Ψ → ExD K S' (tb W) ρ O) (hh : ∀ x, Ψ x → HdD K S n x O l) : ExD K S (tTryA K Wout tb l) ρ O := fun F0 H0 σ F H e o a d0 En f => by
  have d2 : DrI (S.wa (WX0 K S (EL n (wAll K Wout En l)) Ψ)) F0 H0 := ⟨d0.1, fun F' H' a' => ⟨d0.2 F' H' a'.wi, fun x dct hx ok σ' hσ => HdD.all hσ ok (a'.wi.up d0) d0 f (hh x hx)⟩⟩
  have a2 : Ag (S.wa (WX0 K S (EL n (wAll K Wout En l)) Ψ)) F0 H0 F H := Ag0.up ⟨a.fs, a.ok, a.ch, a.nw, a.st⟩ d2
  exact hb (S.wa (WX0 K S (EL n (wAll K Wout En l)) Ψ)) (wAll K Wout En l) rfl rfl (fun F H w => w.1) xp_wa F0 H0 σ F H e.towi o a2 d2 En
    ⟨fun σ ρ F H h1 h2 h3 h4 => f.nx σ ρ F H h1 h2.unwi h3 (h4.unwi d0), fun v d F H h1 h2 h4 => f.rt v d F H h1 h2.unwi (h4.unwi d0), fun σ ρ F H h1 h2 h3 h4 => f.bk σ ρ F H h1 h2.unwi h3 (h4.unwi d0), fun σ ρ F H h1 h2 h3 h4 => f.ct σ ρ F H h1 h2.unwi h3 (h4.unwi d0), fun a vs ds F H h1 h2 h3 h4 h5 h6 => f.ro a vs ds F H h1 h2 h3 h4 (Dats.cast (S := S.wa _) (S' := S) rfl ds h5) (h6.unwi d0), fun v d γ F H h1 h2 h3 h4 h5 => f.rx v d γ F H h1 h2.unwi (GhOk.cast (S := S.wa _) (S' := S) rfl h3) h4 (h5.unwi d0)⟩
/-- except X as e: found = (word, e.f) -/
theorem su_f1 {c : Value} {word : Str} {i j : Nat} {d : D} (hij : i ≠ j) (hi : i < n) (k : O.nx ((List.replicate n .un).set j (.val (.tup [.str word, d])))) :
    SuG K S ⟨c, some i, fun a cls dct => tAsg (tTup (tCons (tC (.str word)) (tCons (tXf a cls dct C f (tVar i)) tNil))) (gName j)⟩ n ⟨C, [f], [d]⟩ O := fun F0 H0 σ F H dct a hσ ok na g d0 En fi => by
  cases dct with
  | none => exact absurd ok.1 (by simp)
  | some dx =>
    obtain ⟨fs, h1, h2, h3⟩ := ok
    match fs, h1, h2, h3 with
    | [(f', v)], h1, h2, h3 =>
      have e : f' = f := (List.cons.inj h2).1
      subst e
      obtain ⟨v', _, e1, dv, e2⟩ := h3
      cases e1
      refine ⟨.ref a, List.getElem?_set_self (by rw [hσ]; exact hi), rfl, rfl, dx, _, v, rfl, g.ok _ _ h1, by simp [List.lookup_cons], ⟨by show 2 ≤ sizeLine; decide, fun p np => ?_⟩⟩
      have g2 := g.newF (o := .tup [.str word, v]) d0 np
      have nF : F p = none := g.ok.free np
      have m : Same F (upd F p (.tup [.str word, v])) := fun c u z => upd_new z nF
      show En.nx (((σ.set i (some (.ref a))).set j (some (.ref p))).set i none) (upd H p (.tup [.str word, v]))
      rw [List.set_comm _ _ (Ne.symm hij), List.set_set]
      exact fi.nx _ _ _ _ k ((env_un (by rw [List.length_set, hσ])).set (d := .tup [.str word, d]) ⟨p, _, rfl, st_of upd_same, _, _, rfl, rfl, _, _, rfl, Dat.mono m d dv, rfl⟩) (own_un.set) g2
end
end
/-! Methods called by names; zip of lists or tuples; isinstance of four classes; `is` of truths. -/
section
set_option maxRecDepth 100000
set_option maxHeartbeats 2000000
open PySem PySem.Spec PyProof.Rows L2
/-- the parameters behind the first n by their names, in their order -/
def KwB (K : PySem.W.Frag) (fd : FuncData) (ps : List Str) (n : Nat) : Prop :=
  ∀ (s : Shared) (us ws : List Value), K.In s.heap → us.length = n → ws.length = (ps.drop n).length → BindsTo s fd ⟨us, (ps.drop n).zip ws⟩ (ps.zip (us ++ ws))
def CalMK (P : Program) (w : World) (K : PySem.W.Frag) (mg : Str → Option Value) (base : Heap) (k : Nat) (C : Addr) (m : Str) (ps : List Str) (n : Nat) (sp : Sp) : Prop :=
  ∃ (f : Addr) (fd : FuncData), Meth K C m f ∧ Binds K fd ps [] ∧ KwB K fd ps n ∧ FnOk P w K mg base CX0 k f fd ps sp
section
variable {P : Program} {w : World} {K : PySem.W.Frag} {mg : Str → Option Value} {base : Heap}
theorem CalMK.m {k n : Nat} {C : Addr} {m : Str} {ps : List Str} {sp : Sp} (c : CalMK P w K mg base k C m ps n sp) : CalM P w K mg base k C m ps sp := by
  obtain ⟨f, fd, h1, h2, _, h3⟩ := c
  exact ⟨f, fd, h1, h2, h3⟩
theorem CalMK.ofD {C : Addr} {m q : Str} {st : Stmt} {N ps : List Str} {k n : Nat} {f : FD} (D : DefM K C m q st) (S : FnScope N ps (defScope st))
    (hb : ∀ (kV doc pm : Value) (an : Option Addr) (cdv ct : Value) (us : List Value), us.length = ps.length → bindArgs (PySem.W.fnOf m q (defArgs st) (defBody st) (defScope st) .none kV doc pm an cdv ct) ⟨us, []⟩ = pure (ps.zip us))
    (hk : ∀ (kV doc pm : Value) (an : Option Addr) (cdv ct : Value) (us ws : List Value), us.length = n → ws.length = (ps.drop n).length → bindArgs (PySem.W.fnOf m q (defArgs st) (defBody st) (defScope st) .none kV doc pm an cdv ct) ⟨us, (ps.drop n).zip ws⟩ = pure (ps.zip (us ++ ws)))
    (len : ∀ ds Φ, f ds Φ → ds.length = ps.length)
    (hbody : ∀ (fa : Addr) (cdv : Value) (A : Around) (outer : List Env) (s : Shared) (H : Hp), Room k (A.deeper (envOfC q (defScope st) s.heap.objs.size fa cdv)) →
      ∃ t, PSs (cxR P w K mg base N q (defScope st) fa cdv A outer s H) (defBody st) t ∧ ∀ S ds Φ, f ds Φ → ExD K S t (ini N ds) { nx := fun _ => Φ .non, rt := Φ }) : CalMK P w K mg base (k + 1) C m ps n (spD K f) := by
  obtain ⟨fa, fd, hm, F⟩ := D
  refine ⟨fa, fd, hm, F.bindsN hb, ?_, F.ok S (fun vs H Q E h => ?_) fun cdv A outer s H vs Q E hr h => ?_⟩
  · obtain ⟨oc, od, dV, kV, doc, pm, an, cdv, ct, osl, rfl, lk, hcd, hD, hK⟩ := F.ex
    rcases hD with ⟨_, rfl⟩ | ⟨e, _⟩
    · exact fun s us ws _ l1 l2 => .of_eq (hk kV doc pm an cdv ct us ws l1 l2)
    · exact absurd rfl e
  · obtain ⟨_, _, ds, Φ, _, _, hd, hf, _⟩ := h
    rw [hd.length]
    exact len ds Φ hf
  · obtain ⟨t, h1, h2⟩ := hbody fa cdv A outer s H hr
    exact ⟨t, PSs.nox h1, body_of h h2⟩
end
section
variable {X : Cx} {k j : Nat} {ps ks : List Str} {sp : Sp} {m : Str} {C : Addr} {pos apos : Pos} {o : Expr} {kws : List Keyword} {ta : TE} {t : TA}
end
/-! ### zip -/
def rZipA (K : PySem.W.Frag) (vs : List V) (H1 : Hp) (R : It → Hp → Prop) : Prop := ∃ a b xs ys, vs = [.ref a, .ref b] ∧ ((SqL K H1 a xs ∧ SqL K H1 b ys ∧ R (Itz K a b) H1) ∨ (SqT K H1 a xs ∧ SqT K H1 b ys ∧ R (RZ.ItzT K a b) H1))
theorem q_zipA {X : Cx} (K : PySem.W.Frag) {e e2 : Expr} {ta : TA} {p pos tpos : Pos} {elts : List Expr} {kk : Nat} (hm : X.mg "zip" = none) (ha : PA X [e, e2] ta) (hg : Gl X "zip" := by rfl) (hs : starEach [e, e2] X.env = (false, eval e X.env) :: starEach [e2] X.env := by rfl) (hs2 : (backTo pos (starEach [e2] X.env)).any (·.1) = false := by rfl) (h : X.K = K := by rfl) :
    PI X (.Tuple elts kk tpos) (.Call (.Name "zip" p) [e, e2] [] pos) (iA (rZipA K) ta) := h ▸ RZ.pi_zipA hg hm ha hs hs2
theorem walk_zipT {K : PySem.W.Frag} {a b : Addr} {xs ys : List V} {n : Nat} (hn : n = min xs.length ys.length) : Walk (RZ.ItzT K a b) n (fun H => SqT K H a xs ∧ SqT K H b ys) (YPair (fun i => xs[i]?) (fun i => ys[i]?)) := by
  subst hn
  refine ⟨fun i _ hi q => ?_, fun _ q => ⟨xs, ys, q.1, q.2, by omega⟩, fun i H v H' _ q y => ?_⟩
  · have h1 : i < xs.length := by omega
    have h2 : i < ys.length := by omega
    exact ⟨xs, ys, xs[i], ys[i], q.1, q.2, List.getElem?_eq_getElem h1, List.getElem?_eq_getElem h2⟩
  · obtain ⟨T, x, y, h1, h2, h3, h4, h5⟩ := y
    exact ⟨T, x, y, h1, h2, h3, h4 xs q.1, h5 ys q.2⟩
section
variable {K : PySem.W.Frag} {S : Sx} {ρ : List Sl} {Φ : D → Prop} {Ψ : List D → Prop} {te : TE} {tr : TA}
theorem ei_zipA (h : EvA K S tr ρ fun zs => ∃ xs ys, (zs = [.lst xs, .lst ys] ∨ zs = [.tup xs, .tup ys]) ∧ Ψ (zipD xs ys)) : EvI K S (iA (rZipA K) tr) ρ Ψ := fun σ F H e s dr R q =>
  h σ F H e s dr _ fun vs zs F1 H1 ⟨xs, ys, hx, hΨ⟩ dd g1 => by
    rcases hx with rfl | rfl
    · obtain ⟨v, us, rfl, ⟨a, ws, rfl, h3, h4⟩, v', us', rfl, ⟨b, ws', rfl, h3', h4'⟩, h2⟩ := dd
      cases h2
      refine ⟨a, b, ws, ws', rfl, .inl ⟨sl_of (g1.ok _ _ h3), sl_of (g1.ok _ _ h3'), q _ _ F1 H1 hΨ g1 (itOk_pair (f1 := fun i => ws[i]?) (f2 := fun i => ws'[i]?) ((walk_zip (by rw [zipD_len, h4.length, h4'.length])).mono (fun H hH => ⟨sl_of (hH _ _ h3), sl_of (hH _ _ h3')⟩) fun _ _ _ _ _ _ y => y) fun i v1 v2 hi e1 e2 => ?_)⟩⟩
      obtain ⟨d1, h5, h6⟩ := h4.get' e1
      obtain ⟨d2, h7, h8⟩ := h4'.get' e2
      exact ⟨d1, d2, zipD_at h5 h7, h6, h8⟩
    · obtain ⟨v, us, rfl, ⟨a, ws, rfl, h3, h4⟩, v', us', rfl, ⟨b, ws', rfl, h3', h4'⟩, h2⟩ := dd
      cases h2
      refine ⟨a, b, ws, ws', rfl, .inr ⟨st_sm g1.ok h3, st_sm g1.ok h3', q _ _ F1 H1 hΨ g1 (itOk_pair (f1 := fun i => ws[i]?) (f2 := fun i => ws'[i]?) ((walk_zipT (by rw [zipD_len, h4.length, h4'.length])).mono (fun H hH => ⟨st_sm hH h3, st_sm hH h3'⟩) fun _ _ _ _ _ _ y => y) fun i v1 v2 hi e1 e2 => ?_)⟩⟩
      obtain ⟨d1, h5, h6⟩ := h4.get' e1
      obtain ⟨d2, h7, h8⟩ := h4'.get' e2
      exact ⟨d1, d2, zipD_at h5 h7, h6, h8⟩
def rIsBl : R2 := fun x y H Q => ∃ a b, x = .bl a ∧ y = .bl b ∧ Q (.bl (decide (a = b))) H
theorem o_isbl {X : Cx} : OpR X (compareOp .Is) rIsBl := op_is_bl
theorem od_isbl {a b : Bool} (k : Φ (.bl (decide (a = b)))) : OpD K S rIsBl (.bl a) (.bl b) Φ := fun u w F H s dr h1 h2 Q q => by
  cases h1; cases h2
  exact ⟨a, b, rfl, rfl, q _ _ F H k rfl (Ag.refl s dr)⟩
def is4 (K : PySem.W.Frag) (n m n' m' : String) (x : D) (Χ : Bool → Prop) : Prop := ∃ t b1 b2 b3 b4, TyD K x t ∧ PySem.W.kitOne K t (.type n) = some b1 ∧ PySem.W.kitOne K t (.type m) = some b2 ∧ PySem.W.kitOne K t (.type n') = some b3 ∧ PySem.W.kitOne K t (.type m') = some b4 ∧ Χ (b1 || (b2 || (b3 || b4)))
theorem ev_isi4 {n m n' m' : String} (h : EvD K S te ρ fun x => is4 K n m n' m' x fun b => Φ (.bl b)) : EvD K S (tCB (rIsiT K) (tCons te (tCons (tTup (tCons (tC (.ty n)) (tCons (tC (.ty m)) (tCons (tC (.ty n')) (tCons (tC (.ty m')) tNil))))) tNil))) ρ Φ := fun σ F H e s dr Q q =>
  h σ F H e s dr _ fun v x F1 H1 ⟨t, b1, b2, b3, b4, h1, h2, h3, h4, h5, h6⟩ dd g1 => by
    refine ⟨Nat.le_of_ble_eq_true rfl, fun p np => ?_⟩
    exact k_isi4 upd_same (ty_new (h1.ty dd g1.ok) np) h2 h3 h4 h5 (q _ _ F1 _ h6 rfl (g1.newH dr np))
/-- a def that nobody calls with anything -/
theorem Cal.none {P : Program} {w : World} {mg : Str → Option Value} {base : Heap} {x : Str} {st : Stmt} {ps : List Str} (D : Def K mg x st)
    (hb : ∀ (kV doc pm : Value) (an : Option Addr) (cdv ct : Value) (us : List Value), us.length = ps.length → bindArgs (PySem.W.fnOf x x (defArgs st) (defBody st) (defScope st) .none kV doc pm an cdv ct) ⟨us, []⟩ = pure (ps.zip us)) : Cal P w K mg base 0 x ps (spD K fun _ _ => False) := by
  obtain ⟨f, fd, hm, F⟩ := D
  exact ⟨f, fd, hm, F.kp, F.bindsN hb, ⟨fun vs H Q E h => by obtain ⟨_, _, _, _, _, _, _, h, _⟩ := h; exact h.elim, fun A outer s H args us vs Q E hr he hb hv h => by obtain ⟨_, _, _, _, _, _, _, h, _⟩ := h; exact h.elim⟩⟩
end
end
/-! Functions called by names, in any order. -/
section
set_option maxRecDepth 100000
set_option maxHeartbeats 2000000
open PySem PySem.Spec PyProof.Rows L2
/-- the things at the indices ix -/
def prm {α : Type} (ix : List Nat) (vs : List α) : List α := ix.filterMap fun i => vs[i]?
theorem prm_dats {K : PySem.W.Frag} {S : Sx} {F : Hp} {ds : List D} {vs : List V} (r : Dats K S F ds vs) : ∀ ix : List Nat, Dats K S F (prm ix ds) (prm ix vs)
  | [] => rfl
  | i :: ix => by
    unfold prm
    rw [List.filterMap_cons, List.filterMap_cons]
    cases e : ds[i]? with
    | none =>
      have e2 : vs[i]? = none := by rw [List.getElem?_eq_none_iff] at e ⊢; rw [r.length]; exact e
      rw [e2]
      exact prm_dats r ix
    | some d =>
      obtain ⟨v, e2, r2⟩ := r.get e
      rw [e2]
      exact ⟨v, _, rfl, r2, prm_dats r ix⟩
section
variable (P : Program) (w : World) (K : PySem.W.Frag) (mg : Str → Option Value) (base : Heap)
/-- a def, for all ways to call it -/
def CalA (CX : CXT) (k : Nat) (x : Str) (st : Stmt) (ps : List Str) (sp : Sp) : Prop :=
  ∃ (f : Addr) (fd : FuncData), mg x = some (.ref f) ∧ FunD K x x (defArgs st) (defBody st) (defScope st) [] [] f fd ∧ FnOk P w K mg base CX k f fd ps sp
end
/-- f(.., k = v, ..): the values in the parameters' order -/
def tKw (m : Nat) (ix : List Nat) (sp : Sp) (E : XK) (t : TA) : TE := fun σ H Q => t σ H fun vs H1 => vs.length = m ∧ sp (prm ix vs) H1 Q E
section
variable {P : Program} {w : World} {K : PySem.W.Frag} {mg : Str → Option Value} {base : Heap}
theorem CalA.ofD {x : Str} {st : Stmt} {N ps : List Str} {k : Nat} {f : FX} (D : Def K mg x st) (S : FnScope N ps (defScope st)) (len : ∀ ds Φ Ψ, f ds Φ Ψ → ds.length = ps.length)
    (hbody : ∀ (fa : Addr) (cdv : Value) (A : Around) (outer : List Env) (s : Shared) (H : Hp) (E : XK), Room k (A.deeper (envOfC x (defScope st) s.heap.objs.size fa cdv)) →
      ∃ t, PSs (cxX P w K mg base N x (defScope st) fa cdv A outer s H E) (defBody st) t ∧ ∀ S Ψ, XP K S E Ψ → ∀ ds Φ, f ds Φ Ψ → ExD K S t (ini N ds) { nx := fun _ => Φ .non, rt := Φ }) : CalA P w K mg base (L2.CX P w) (k + 1) x st ps (spX K f) := by
  obtain ⟨fa, fd, hm, F⟩ := D
  refine ⟨fa, fd, hm, F, F.ok S (fun vs H Q E h => ?_) fun cdv A outer s H vs Q E hr h => ?_⟩
  · obtain ⟨_, _, ds, Φ, Ψ, _, _, hd, hf, _⟩ := h
    rw [hd.length]
    exact len ds Φ Ψ hf
  · obtain ⟨t, h1, h2⟩ := hbody fa cdv A outer s H E hr
    exact ⟨t, h1, body_ofX h h2⟩
theorem CalA.x {x : Str} {st : Stmt} {ps : List Str} {k : Nat} {sp : Sp} (c : CalA P w K mg base (L2.CX P w) k x st ps sp)
    (hb : ∀ (kV doc pm : Value) (an : Option Addr) (cdv ct : Value) (us : List Value), us.length = ps.length → bindArgs (PySem.W.fnOf x x (defArgs st) (defBody st) (defScope st) .none kV doc pm an cdv ct) ⟨us, []⟩ = pure (ps.zip us)) : CalX P w K mg base k x ps sp := by
  obtain ⟨f, fd, hm, F, h⟩ := c
  exact ⟨f, fd, hm, F.kp, F.bindsN hb, h⟩
end
section
variable {X : Cx} {CX : CXT} {k j n : Nat} {ps ks : List Str} {ix : List Nat} {sp : Sp} {x : Str} {p pos : Pos} {e : Expr} {es : List Expr} {kws : List Keyword} {t tk : TA} {E : XK}
end
section
variable {K : PySem.W.Frag} {S : Sx} {ρ : List Sl} {Φ : D → Prop} {Ψ : Ex → Prop} {E : XK} {m : Nat} {ix : List Nat} {tr : TA}
theorem ev_kw {f : FD} (h : EvA K S tr ρ fun xs => xs.length = m ∧ f (prm ix xs) Φ) : EvD K S (tKw m ix (spD K f) E0 tr) ρ Φ := fun σ F H e s dr Q q =>
  h σ F H e s dr _ fun vs xs F1 H1 ⟨hl, hf⟩ dd g1 => ⟨dd.length.trans hl, S, F1, prm ix xs, Φ, g1.ok, g1.dr, prm_dats dd ix, hf, fun v d F' H' hd dd' g2 => q v d F' H' hd dd' (g1.trans g2 dr)⟩
theorem ev_kwX {f : FX} (hx : XP K S E Ψ) (h : EvA K S tr ρ fun xs => xs.length = m ∧ f (prm ix xs) Φ Ψ) : EvD K S (tKw m ix (spX K f) E tr) ρ Φ := fun σ F H e s dr Q q =>
  h σ F H e s dr _ fun vs xs F1 H1 ⟨hl, hf⟩ dd g1 => ⟨dd.length.trans hl, S, F1, prm ix xs, Φ, Ψ, g1.ok, g1.dr, prm_dats dd ix, hf, fun v d F' H' hd dd' g2 => q v d F' H' hd dd' (g1.trans g2 dr), fun x dct F' H' hp ok g2 => hx F' H' x dct (g2.dr.now g2.ok) hp ok⟩
end
end
/-! Methods for all ways to call them, __init__ that may raise, classes called by names, empty dicts. -/
section
set_option maxRecDepth 100000
set_option maxHeartbeats 2000000
open PySem PySem.Spec PyProof.Rows L2
section
variable (P : Program) (w : World) (K : PySem.W.Frag) (mg : Str → Option Value) (base : Heap)
/-- a method, for all ways to call it -/
def CalMA (CX : CXT) (k : Nat) (C : Addr) (m q : Str) (st : Stmt) (ps : List Str) (sp : Sp) : Prop :=
  ∃ (f : Addr) (fd : FuncData), Meth K C m f ∧ FunD K m q (defArgs st) (defBody st) (defScope st) [] [] f fd ∧ FnOk P w K mg base CX k f fd ps sp
end
section
variable {K : PySem.W.Frag} {t : TS} {E : XK}
theorem body_initX {C : Addr} {f : FIX} {N : List Str} {vs : List V} {H : Hp} {Q : VK} (h : spIX K C f vs H Q E) (hb : ∀ S Ψ, XP K S E Ψ → ∀ p dx ds Φ, f ds Φ Ψ → ExD K S t (iniS N p dx C ds) { nx := fun ρ => ∃ ns es, ρ[0]? = some (.slf p dx C ns es) ∧ Φ ns es, rt := fun _ => False }) : t { nx := fun _ H' => Q .non H', rt := Q } (L2.start N vs) H := by
  obtain ⟨S, F, p, dx, ws, ds, Φ, Ψ, rfl, hp, ⟨pF, pS⟩, s, dr, hd, hf, q, qx⟩ := h
  have d2 : DrI (S.wi (WX0 K S E Ψ)) F (less H p) := dr_wi (K := K) dr.1 qx
  exact body_initS (S := S.wi (WX0 K S E Ψ)) hp ⟨pF, pS⟩ s ⟨d2, dr.2⟩ hd.towi (fun ns es gs F' H' h1 h2 h3 h4 h5 a => q ns es gs F' H' h1 h2 h3 (Dats.cast (S := S.wi (WX0 K S E Ψ)) (S' := S) rfl es h4) h5 (a.unwi dr.1)) (hb _ Ψ xp_wi p dx ds Φ hf)
end
section
variable {P : Program} {w : World} {K : PySem.W.Frag} {mg : Str → Option Value} {base : Heap}
theorem CalMA.ofD {C : Addr} {m q : Str} {st : Stmt} {N ps : List Str} {k : Nat} {f : FX} (D : DefM K C m q st) (S : FnScope N ps (defScope st)) (len : ∀ ds Φ Ψ, f ds Φ Ψ → ds.length = ps.length)
    (hbody : ∀ (fa : Addr) (cdv : Value) (A : Around) (outer : List Env) (s : Shared) (H : Hp) (E : XK), Room k (A.deeper (envOfC q (defScope st) s.heap.objs.size fa cdv)) →
      ∃ t, PSs (cxX P w K mg base N q (defScope st) fa cdv A outer s H E) (defBody st) t ∧ ∀ S Ψ, XP K S E Ψ → ∀ ds Φ, f ds Φ Ψ → ExD K S t (ini N ds) { nx := fun _ => Φ .non, rt := Φ }) : CalMA P w K mg base (L2.CX P w) (k + 1) C m q st ps (spX K f) := by
  obtain ⟨fa, fd, hm, F⟩ := D
  refine ⟨fa, fd, hm, F, F.ok S (fun vs H Q E h => ?_) fun cdv A outer s H vs Q E hr h => ?_⟩
  · obtain ⟨_, _, ds, Φ, Ψ, _, _, hd, hf, _⟩ := h
    rw [hd.length]
    exact len ds Φ Ψ hf
  · obtain ⟨t, h1, h2⟩ := hbody fa cdv A outer s H E hr
    exact ⟨t, h1, body_ofX h h2⟩
/-- an __init__ that may raise -/
theorem CalMA.ofI {C : Addr} {m q : Str} {st : Stmt} {N ps : List Str} {k : Nat} {f : FIX} (D : DefM K C m q st) (S : FnScope N ps (defScope st)) (len : ∀ ds Φ Ψ, f ds Φ Ψ → ds.length + 1 = ps.length)
    (hbody : ∀ (fa : Addr) (cdv : Value) (A : Around) (outer : List Env) (s : Shared) (H : Hp) (E : XK), Room k (A.deeper (envOfC q (defScope st) s.heap.objs.size fa cdv)) →
      ∃ t, PSs (cxX P w K mg base N q (defScope st) fa cdv A outer s H E) (defBody st) t ∧ ∀ S Ψ, XP K S E Ψ → ∀ p dx ds Φ, f ds Φ Ψ → ExD K S t (iniS N p dx C ds) { nx := fun ρ => ∃ ns es, ρ[0]? = some (.slf p dx C ns es) ∧ Φ ns es, rt := fun _ => False }) : CalMA P w K mg base (L2.CX P w) (k + 1) C m q st ps (spIX K C f) := by
  obtain ⟨fa, fd, hm, F⟩ := D
  refine ⟨fa, fd, hm, F, F.ok S (fun vs H Q E h => ?_) fun cdv A outer s H vs Q E hr h => ?_⟩
  · obtain ⟨_, _, p, dx, ws, ds, Φ, Ψ, rfl, _, _, _, _, hd, hf, _⟩ := h
    rw [List.length_cons, hd.length]
    exact len ds Φ Ψ hf
  · obtain ⟨t, h1, h2⟩ := hbody fa cdv A outer s H E hr
    exact ⟨t, h1, body_initX h h2⟩
theorem CalMA.x {C : Addr} {m q : Str} {st : Stmt} {ps : List Str} {k : Nat} {sp : Sp} (c : CalMA P w K mg base (L2.CX P w) k C m q st ps sp)
    (hb : ∀ (kV doc pm : Value) (an : Option Addr) (cdv ct : Value) (us : List Value), us.length = ps.length → bindArgs (PySem.W.fnOf m q (defArgs st) (defBody st) (defScope st) .none kV doc pm an cdv ct) ⟨us, []⟩ = pure (ps.zip us)) : CalMX P w K mg base k C m ps sp := by
  obtain ⟨f, fd, hm, F, h⟩ := c
  exact ⟨f, fd, hm, F.bindsN hb, h⟩
end
/-- C(k = v, ..) -/
def tMkKw (C : Addr) (m : Nat) (ix : List Nat) (sp : Sp) (E : XK) (t : TA) : TE := fun σ H Q => t σ H fun zs H2 => zs.length = m ∧
  ∀ x dx, H2 x = none → H2 dx = none → dx ≠ x → sp (prm ix (.ref x :: zs)) (upd (upd H2 dx (.own x)) x (.ins C dx [])) (fun v H3 => v = .non ∧ Q (.ref x) H3) E
section
variable {X : Cx} {CX : CXT} {k j n : Nat} {ps ks : List Str} {ix : List Nat} {sp : Sp} {x m : Str} {C : Addr} {p pos apos : Pos} {o : Expr} {kws : List Keyword} {t : TA} {ta : TE} {E : XK}
end
section
variable {K : PySem.W.Frag} {S : Sx} {ρ : List Sl} {Φ : D → Prop} {Ψ : Ex → Prop} {E : XK} {m : Nat} {ix : List Nat} {tr : TA} {C : Addr}
theorem prm_self {α : Type} (a : α) (l : List α) (ix : List Nat) : prm (0 :: ix.map (· + 1)) (a :: l) = a :: prm ix l := by
  unfold prm
  rw [List.filterMap_cons, List.filterMap_map]
  rfl
theorem ev_mkKwX {f : FIX} (hx : XP K S E Ψ) (h : EvA K S tr ρ fun xs => xs.length = m ∧ f (prm ix xs) (fun ns es => Φ (.ins C ns es)) Ψ) : EvD K S (tMkKw C m (0 :: ix.map (· + 1)) (spIX K C f) E tr) ρ Φ := fun σ F H e s dr Q q =>
  h σ F H e s dr _ fun vs xs F1 H1 ⟨hl, hf⟩ dd g1 => ⟨dd.length.trans hl, by
    intro p dx np ndx nd
    have nS := g1.dr.ne np
    have nF : F1 p = none := g1.ok.free np
    rw [prm_self]
    have hL : less (upd (upd H1 dx (.own p)) p (.ins C dx [])) p = upd H1 dx (.own p) := by
      funext b
      show (if b = p then none else _) = _
      by_cases w : b = p
      · rw [if_pos w, w, upd_ne nd.symm, np]
      · rw [if_neg w, upd_ne w]
    have g0 : Ag S F1 H1 F1 (upd H1 dx (.own p)) := (Ag.refl g1.ok g1.dr).newH g1.dr ndx
    refine ⟨S, F1, p, dx, prm ix vs, prm ix xs, _, _, rfl, upd_same, ⟨nF, nS⟩, ?_, ⟨by rw [hL]; exact g0.dr, g0.st.new (by rw [upd_ne nd.symm]; exact np)⟩, prm_dats dd ix, hf, fun ns es gs F' H' hΦ h1 h2 h3 h4 g2 => ⟨rfl, ?_⟩, fun x dct F' H' hp ok g3 => hx F' H' x dct (g3.dr.now g3.ok) hp ok⟩
    · intro b o hb
      exact upd_old (upd_new (g1.ok _ _ hb) ndx) (ne_of_none hb nF)
    · rw [hL] at g2
      refine q (.ref p) (.ins C ns es) (upd F' p (.ins C dx gs)) H' hΦ ⟨p, dx, gs, rfl, upd_same, h2, Dats.mono (fun b o z => upd_new z h4) es h3⟩ (g1.trans ?_ dr)
      exact (g0.trans g2 g1.dr).frz g1.dr (.of np) h4 h1 fun s e => (nS s e).1⟩
theorem ev_mkKw {f : FI} (h : EvA K S tr ρ fun xs => xs.length = m ∧ f (prm ix xs) fun ns es => Φ (.ins C ns es)) : EvD K S (tMkKw C m (0 :: ix.map (· + 1)) (spI K C f) E0 tr) ρ Φ := fun σ F H e s dr Q q =>
  h σ F H e s dr _ fun vs xs F1 H1 ⟨hl, hf⟩ dd g1 => ⟨dd.length.trans hl, by
    intro p dx np ndx nd
    have nS := g1.dr.ne np
    have nF : F1 p = none := g1.ok.free np
    rw [prm_self]
    have hL : less (upd (upd H1 dx (.own p)) p (.ins C dx [])) p = upd H1 dx (.own p) := by
      funext b
      show (if b = p then none else _) = _
      by_cases w : b = p
      · rw [if_pos w, w, upd_ne nd.symm, np]
      · rw [if_neg w, upd_ne w]
    have g0 : Ag S F1 H1 F1 (upd H1 dx (.own p)) := (Ag.refl g1.ok g1.dr).newH g1.dr ndx
    refine ⟨S, F1, p, dx, prm ix vs, prm ix xs, _, rfl, upd_same, ⟨nF, nS⟩, ?_, ⟨by rw [hL]; exact g0.dr, g0.st.new (by rw [upd_ne nd.symm]; exact np)⟩, prm_dats dd ix, hf, fun ns es gs F' H' hΦ h1 h2 h3 h4 g2 => ⟨rfl, ?_⟩⟩
    · intro b o hb
      exact upd_old (upd_new (g1.ok _ _ hb) ndx) (ne_of_none hb nF)
    · rw [hL] at g2
      refine q (.ref p) (.ins C ns es) (upd F' p (.ins C dx gs)) H' hΦ ⟨p, dx, gs, rfl, upd_same, h2, Dats.mono (fun b o z => upd_new z h4) es h3⟩ (g1.trans ?_ dr)
      exact (g0.trans g2 g1.dr).frz g1.dr (.of np) h4 h1 fun s e => (nS s e).1⟩
end
end
/-! Cells of one's own: loops over them, defs that are lent cells, defs by their promises. -/
section
set_option maxRecDepth 100000
set_option maxHeartbeats 2000000
open PySem PySem.Spec PyProof.Rows L2
section
variable {K : PySem.W.Frag} {S : Sx} {ρ : List Sl} {Φ : D → Prop} {Ψ : List D → Prop} {Χ : Bool → Prop} {O : Oc} {ta tb tc te to ti : TE} {tr : TA} {tt tu : TT} {t u : TS} {g : TG} {wi : TI} {i j w k n : Nat} {d x y dw : D} {ds xs : List D} {γ γ1 γ2 γr : Gh} {a : Addr} {c c' : Cl} {m : Bool}
/-! ### loops -/
/-! ### cells that are lent -/
theorem GhOk.sub {F H : Hp} (g : GhOk K S F H γ) (s : γ1.Sublist γ) : GhOk K S F H γ1 := ⟨(s.map Prod.fst).nodup g.nd, fun a c hm => g.ok a c (s.subset hm)⟩
/-- the cells of the slot w -/
def Lent (ρ : List Sl) (γ : Gh) : Prop := γ = [] ∨ ∃ (w : Nat) (m : Bool) (d : D) (γ0 : Gh), ρ[w]? = some (Sl.obj m d γ0) ∧ γ.Sublist γ0
theorem Lent.nil : Lent ρ [] := .inl rfl
theorem Lent.all (w : Nat) (h : ρ[w]? = some (.obj m d γ)) : Lent ρ γ := .inr ⟨w, m, d, γ, h, List.Sublist.refl _⟩
theorem Lent.ok {F H : Hp} {σ : L2.St} (e : EnvOk K S F H σ ρ) (h : Lent ρ γ) : GhOk K S F H γ := by
  rcases h with rfl | ⟨w, m, d, γ0, hw, hs⟩
  · exact .nil
  · obtain ⟨_, _, _, h3⟩ := e.obj hw
    exact h3.sub hs
/-! ### bodies -/
end
/-! ### defs by their promises -/
section
variable {P : Program} {w : World} {K : PySem.W.Frag} {mg : Str → Option Value} {base : Heap}
theorem Cal.ofC0 {x : Str} {st : Stmt} {N ps : List Str} {k : Nat} {f : FC} (D : Def K mg x st) (S : FnScope N ps (defScope st))
    (hb : ∀ (kV doc pm : Value) (an : Option Addr) (cdv ct : Value) (us : List Value), us.length = ps.length → bindArgs (PySem.W.fnOf x x (defArgs st) (defBody st) (defScope st) .none kV doc pm an cdv ct) ⟨us, []⟩ = pure (ps.zip us))
    (len : ∀ ds γ Θ, f ds γ Θ → ds.length = ps.length)
    (hbody : ∀ (fa : Addr) (cdv : Value) (A : Around) (outer : List Env) (s : Shared) (H : Hp), Room k (A.deeper (envOfC x (defScope st) s.heap.objs.size fa cdv)) →
      ∃ t, PSs (cxR P w K mg base N x (defScope st) fa cdv A outer s H) (defBody st) t ∧ ∀ S ds γ Θ, f ds γ Θ → γ = [] ∧ ExD K S t (ini N ds) { nx := fun _ => Θ .non [], rt := fun d => Θ d [], rx := Θ, ro := fun ds => ∀ a, Θ (pD a) [(a, .l ds)] }) : Cal P w K mg base (k + 1) x ps (spC K f) := by
  refine Cal.of D S hb (fun vs H Q E h => ?_) (fun fa cdv A outer s H vs Q E hr h => ?_)
  · obtain ⟨_, _, ds, γ, Θ, _, _, _, hd, _, hf, _⟩ := h
    rw [hd.length]
    exact len ds γ Θ hf
  · obtain ⟨t, h1, h2⟩ := hbody fa cdv A outer s H hr
    exact ⟨t, h1, body_ofC0 h h2⟩
theorem CalMA.m {C : Addr} {m q : Str} {st : Stmt} {ps : List Str} {k : Nat} {sp : Sp} (c : CalMA P w K mg base CX0 k C m q st ps sp)
    (hb : ∀ (kV doc pm : Value) (an : Option Addr) (cdv ct : Value) (us : List Value), us.length = ps.length → bindArgs (PySem.W.fnOf m q (defArgs st) (defBody st) (defScope st) .none kV doc pm an cdv ct) ⟨us, []⟩ = pure (ps.zip us)) : CalM P w K mg base k C m ps sp := by
  obtain ⟨f, fd, hm, F, h⟩ := c
  exact ⟨f, fd, hm, F.bindsN hb, h⟩
end
end
/-! More of one's own lists: insert, list(x). -/
section
set_option maxRecDepth 100000
set_option maxHeartbeats 2000000
def rIns : V → List V → Hp → VK → Prop := fun x vs H Q => ∃ (l : Addr) (xs : List V) (i : Int) (y : V), x = .ref l ∧ vs = [.int i, y] ∧ H l = some (.lst xs) ∧ xs.length < sizeLine ∧ 0 ≤ i ∧ i < 2 ^ 63 ∧ Q .non (upd H l (.lst (xs.take i.toNat ++ [y] ++ xs.drop i.toNat)))
section
variable {K : PySem.W.Frag} {S : Sx} {ρ : List Sl} {Φ : D → Prop} {Ψ : List D → Prop} {O : Oc} {te ti : TE} {ds : List D} {i : Nat}
/-- x.insert(n, e), x one's own list -/
theorem ex_insO (h0 : ρ[i]? = some (.own ds)) (hl : ds.length < 100000) (h : EvD K S ti ρ fun z => EvD K S te ρ fun d => ∃ n : Nat, z = .int (n : Int) ∧ n < 1000000 ∧ O.nx (ρ.set i (.own (ds.take n ++ [d] ++ ds.drop n)))) : ExD K S (tDrop (tBM K "list" rIns (tVar i) (tCons ti (tCons te tNil)))) ρ O := fun F0 H0 σ F H e o a d0 E f => by
  obtain ⟨p, vs, h1, _, h2, h3⟩ := e.own h0
  refine ⟨.ref p, h1, .inl ⟨rfl, vs, sl_of h2⟩, h σ F H e a.ok a.dr _ fun z dz F1 H1 hz ddz g1 => hz σ F1 H1 (e.ag g1) g1.ok g1.dr _ fun v d F2 H2 ⟨n, en, hn, hO⟩ dd g2 => ?_⟩
  subst en
  have ez : z = .int (n : Int) := ddz
  subst ez
  have g := g1.trans g2 a.dr
  obtain ⟨p', vs', h1', ⟨nF', ns'⟩, h2', h3'⟩ := (e.ag g).own h0
  rw [h1] at h1'
  cases h1'
  have hl' : vs'.length < sizeLine := by rw [h3'.length]; exact Nat.lt_of_lt_of_le hl (by decide)
  refine ⟨p, vs', n, v, rfl, rfl, h2', hl', by omega, by omega, ?_⟩
  rw [Int.toNat_natCast]
  exact f.nx σ _ F2 _ hO ((e.ag g).mut h1 h0 rfl ⟨p, _, rfl, ⟨nF', ns'⟩, upd_same, ((h3'.take n).app (Dats.one dd)).app (h3'.drop n)⟩) (o.mut h0 rfl) ((a.trans g d0).mut d0 (by rw [h2']; trivial) (o i _ _ p h0 rfl h1 rfl) nF' ns')
/-- list(x), x one's own list -/
theorem evN_listO (h0 : ρ[i]? = some (.own ds)) (k : Ψ ds) : EvN K S (tCB (rListOf K) (tCons (tVar i) tNil)) ρ Ψ := fun σ F H e s dr Q q => by
  obtain ⟨p, vs, h1, _, h2, h3⟩ := e.own h0
  exact ⟨.ref p, h1, p, vs, rfl, .inl (sl_of h2), fun l nl => q l _ _ F _ k (.of nl) (s.free nl) upd_same h3 ((Ag.refl s dr).newH dr nl)⟩
end
end
/-! == and != of own instances with things of whatever kind, on either side. -/
section
set_option maxRecDepth 100000
set_option maxHeartbeats 2000000
open PySem PySem.Spec PyProof.Rows L2
section
variable {X : Cx} {k j : Nat} {ps : List Str} {sp : Sp} {C : Addr}
/-- one of two readings -/
def rOr (r r' : R2) : R2 := fun x y H Q => r x y H Q ∨ r' x y H Q
theorem o_or {op : Value → Value → Sem Value} {r r' : R2} (h : OpR X op r) (h' : OpR X op r') : OpR X op (rOr r r') := by
  intro pins s σ H x y u v Q I rx ry q
  rcases q with q | q
  · exact h pins s σ H x y u v Q I rx ry q
  · exact h' pins s σ H x y u v Q I rx ry q
end
section
variable {prog : Program} {w : World} {A : Around} {E : Value → Shared → Prop} {s : Shared} {K : PySem.W.Frag} {x C L f : Addr} {h₀ : Heap} {m : Str → Option Value} {ox : Obj} {od : Option Obj} {name : Str} {b tb : Value}
end
section
variable {prog : Program} {w : World} {A : Around} {E : Value → Shared → Prop} {s : Shared} {K : PySem.W.Frag} {x y C : Addr} {oy : Obj} {od : Option Obj}
end
section
variable {X : Cx} {k j : Nat} {ps : List Str} {sp : Sp} {C : Addr}
/-- a thing of a builtin type that does not know the class at C -/
inductive Blt (K : PySem.W.Frag) (H : Hp) (C : Addr) : V → Prop
  | non (h : PySem.W.subIn K (.ref C) (.type "NoneType") = some false) : Blt K H C .non
  | int {i : Int} (h : PySem.W.subIn K (.ref C) (.type "int") = some false) : Blt K H C (.int i)
  | str {i : Str} (h : PySem.W.subIn K (.ref C) (.type "str") = some false) : Blt K H C (.str i)
  | lst {l : Addr} {vs : List V} (e : H l = some (.lst vs)) (h : PySem.W.subIn K (.ref C) (.type "list") = some false) : Blt K H C (.ref l)
  | tup {l : Addr} {vs : List V} (e : SqT K H l vs) (h : PySem.W.subIn K (.ref C) (.type "tuple") = some false) : Blt K H C (.ref l)
end
/-- d == e, dicts of texts with the same things -/
def rEqE : R2 := fun x y H Q => ∃ (a b : Addr) (kvs kus : List (Key × V)), x = .ref a ∧ y = .ref b ∧ H a = some (.dK kvs) ∧ H b = some (.dK kus) ∧ kvs = kus ∧ (∀ p ∈ kvs, ∃ z, p.2 = .str z) ∧ Q (.bl true) H
theorem kv_at : ∀ {kvs : List (Key × V)} {vs : List (Key × Value)} {i : Nat} {k : Key} {v : Value}, KV kvs vs → vs[i]? = some (k, v) → ∃ x, kvs[i]? = some (k, x) ∧ RelV x v
  | _, _, i, k, v, .nil, h => by simp at h
  | _, _, 0, k, v, .cons h t, e => by
    rw [List.getElem?_cons_zero] at e
    cases e
    obtain ⟨h1, h2⟩ := h
    rename_i p _ _
    obtain ⟨q, x⟩ := p
    dsimp only at h1 h2
    subst h1
    exact ⟨x, rfl, h2⟩
  | _, _, i + 1, k, v, .cons h t, e => by
    rw [List.getElem?_cons_succ] at e ⊢
    exact kv_at t e
theorem kv_at2 : ∀ {kvs : List (Key × V)} {vs : List (Key × Value)} {i : Nat} {k : Key} {x : V}, KV kvs vs → kvs[i]? = some (k, x) → ∃ v, vs[i]? = some (k, v) ∧ RelV x v
  | _, _, i, k, v, .nil, h => by simp at h
  | _, _, 0, k, v, .cons h t, e => by
    rw [List.getElem?_cons_zero] at e
    cases e
    obtain ⟨h1, h2⟩ := h
    rename_i q _ _
    obtain ⟨q, x⟩ := q
    dsimp only at h1 h2
    subst h1
    exact ⟨x, rfl, h2⟩
  | _, _, i + 1, k, v, .cons h t, e => by
    rw [List.getElem?_cons_succ] at e ⊢
    exact kv_at2 t e
theorem dict_hits {P : Program} {w : World} {A : Around} {s : Shared} {kvs : List (Key × V)} {vs us : List (Key × Value)} (hv : KV kvs vs) (hu : KV kvs us) (hs : ∀ p ∈ kvs, ∃ z, p.2 = V.str z) (nd : (us.map Prod.fst).Nodup) : ∀ (n : Nat), n ≤ vs.length → PySem.W.KeqHitsP P w A s us (vs.drop (vs.length - n)) true
  | 0, _ => by rw [Nat.sub_zero, List.drop_length]; exact .nil
  | n + 1, h => by
    have hi : vs.length - (n + 1) < vs.length := by omega
    rw [List.drop_eq_getElem_cons hi, show vs.length - (n + 1) + 1 = vs.length - n by omega]
    obtain ⟨k, v, hkv⟩ : ∃ k v, vs[vs.length - (n + 1)] = (k, v) := ⟨_, _, rfl⟩
    rw [hkv]
    obtain ⟨x, e1, r1⟩ := kv_at hv ((List.getElem?_eq_getElem hi).trans (congrArg some hkv))
    obtain ⟨y, e2, r2⟩ := kv_at2 hu e1
    obtain ⟨z, hz⟩ := hs _ (List.mem_of_getElem? e1)
    dsimp only at hz
    subst hz
    obtain ⟨t, rfl⟩ := r1
    obtain ⟨t', rfl⟩ := r2
    have := PySem.W.KeqHitsP.hit (prog := P) (w := w) (A := A) (s := s) (kb := us) (k := k) (v := .str z t) (e := true) (b := true) (valueAt_of_get nd e2) (fun E Q q => PyProof.Rows.eqBool_str (by rw [beq_self_eq_true]; exact q)) (dict_hits hv hu hs nd n (by omega))
    exact this
theorem o_eqE {X : Cx} {j : Nat} (hr : Room j X.A) : OpR X (compareOp .Eq) rEqE := by
  intro pins s σ H x y u v Q I rx ry h
  obtain ⟨a, b, kvs, kus, rfl, rfl, ha, hb, rfl, hs, hq⟩ := h
  cases rx
  cases ry
  obtain ⟨_, n1, vs, kv, d1⟩ := dk_of I.hok ha
  obtain ⟨_, n2, us, ku, d2⟩ := dk_of I.hok hb
  have nd : (us.map Prod.fst).Nodup := by
    obtain ⟨_, _, _, _, _, _, _, _, nd⟩ := d2
    exact nd
  have hl : vs.length = us.length := by rw [← Paired.length kv, Paired.length ku]
  have hh := dict_hits (P := X.prog) (w := X.w) (A := X.A.in1) (s := s) kv ku hs nd vs.length (Nat.le_refl _)
  rw [Nat.sub_self, List.drop_zero] at hh
  show wpAny _ _ (richCompare .Eq _ _) _ _ _
  refine PySem.W.rcP_dicts (r := true) n1 n2 d1 d2 hr.units0 (fun _ => hh) _ _ ⟨.bl true, H, I, ?_, hq⟩
  rw [hl, beq_self_eq_true]
  rfl
/-! ### at the level of data -/
section
variable {K : PySem.W.Frag} {S : Sx} {Φ : D → Prop} {r r' : R2} {x y : D} {C : Addr} {ns : List Str} {ds : List D} {f : FD} {t : Value}
theorem ev_dnew {ρ : List Sl} (k : Φ (.dk [] [])) : EvD K S tDNewK ρ Φ := fun σ F H e s dr Q q p np => by
  have nF : F p = none := s.free np
  exact q (.ref p) (.dk [] []) _ _ k ⟨p, [], rfl, upd_same, rfl, rfl⟩ ((Ag.refl s dr).newF dr np)
def D.isS : D → Bool
  | .str _ => true
  | _ => false
theorem kvs_same {F : Hp} : ∀ {kvs kws : List (Key × V)} {ks : List Key} {ds : List D}, kvs.map Prod.fst = ks → kws.map Prod.fst = ks → Dats K S F ds (kvs.map Prod.snd) → Dats K S F ds (kws.map Prod.snd) → ds.all D.isS = true → kvs = kws ∧ ∀ p ∈ kvs, ∃ z, p.2 = V.str z
  | [], [], _, _, _, _, _, _, _ => ⟨rfl, fun p hp => nomatch hp⟩
  | [], p :: l, _, _, e1, e2, _, _, _ => by rw [← e1] at e2; cases e2
  | p :: l, [], _, _, e1, e2, _, _, _ => by rw [← e2] at e1; cases e1
  | (k1, v1) :: l1, (k2, v2) :: l2, ks, ds, e1, e2, d1, d2, hs => by
    cases ds with
    | nil => cases d1
    | cons d ds =>
      rw [List.all_cons, Bool.and_eq_true] at hs
      cases d with
      | str z =>
        obtain ⟨a1, b1, q1, h1, h2⟩ := d1
        obtain ⟨a2, b2, q2, h3, h4⟩ := d2
        rw [List.map_cons] at q1 q2 e1 e2
        injection q1 with q11 q12
        injection q2 with q21 q22
        have i1 : v1 = .str z := q11.trans h1
        have i2 : v2 = .str z := q21.trans h3
        rw [← e1] at e2
        injection e2 with e21 e22
        dsimp only at e21
        subst i1 i2 e21
        obtain ⟨r1, r2⟩ := kvs_same (ks := l1.map Prod.fst) rfl e22 (q12 ▸ h2) (q22 ▸ h4) hs.2
        refine ⟨by rw [r1], fun p hp => ?_⟩
        rcases List.mem_cons.mp hp with rfl | hp
        · exact ⟨z, rfl⟩
        · exact r2 p hp
      | _ => cases hs.1
theorem od_eqE {ks : List Key} (hs : ds.all D.isS = true) (k : Φ (.bl true)) : OpD K S rEqE (.dk ks ds) (.dk ks ds) Φ := fun u w F H s dr h1 h2 Q q => by
  obtain ⟨a, kvs, rfl, e1, e2, e3⟩ := h1
  obtain ⟨b, kws, rfl, f1, f2, f3⟩ := h2
  obtain ⟨r1, r2⟩ := kvs_same e2 f2 e3 f3 hs
  exact ⟨a, b, kvs, kws, rfl, rfl, s _ _ e1, s _ _ f1, r1, r2, q _ _ F H k rfl (Ag.refl s dr)⟩
theorem od_orL (h : OpD K S r x y Φ) : OpD K S (rOr r r') x y Φ := fun u w F H s dr h1 h2 Q q => .inl (h u w F H s dr h1 h2 Q q)
theorem od_orR (h : OpD K S r' x y Φ) : OpD K S (rOr r r') x y Φ := fun u w F H s dr h1 h2 Q q => .inr (h u w F H s dr h1 h2 Q q)
/-- a datum of a builtin type that does not know the class at C -/
inductive BltD (K : PySem.W.Frag) (C : Addr) : D → Prop
  | non (h : PySem.W.subIn K (.ref C) (.type "NoneType") = some false) : BltD K C .non
  | int {i : Int} (h : PySem.W.subIn K (.ref C) (.type "int") = some false) : BltD K C (.int i)
  | str {i : Str} (h : PySem.W.subIn K (.ref C) (.type "str") = some false) : BltD K C (.str i)
  | lst {ds : List D} (h : PySem.W.subIn K (.ref C) (.type "list") = some false) : BltD K C (.lst ds)
  | tup {ds : List D} (h : PySem.W.subIn K (.ref C) (.type "tuple") = some false) : BltD K C (.tup ds)
end
/-! ### things that are strange to a class -/
section
variable {K : PySem.W.Frag} {C A B : Addr} {T : String}
end
end
/-! repr of frozen data; the law's own call, of which it is known that no repr is under way. -/
section
set_option maxRecDepth 100000
set_option maxHeartbeats 2000000
open PySem PySem.Spec PyProof.Rows L2
def lawPs : List Str := ["_law_script"]
/-- what FnOk says, where the caller stands in no repr -/
structure FnOkG (P : Program) (w : World) (K : PySem.W.Frag) (mg : Str → Option Value) (base : Heap) (k : Nat) (f : Addr) (fd : FuncData) (sp : Sp) : Prop where
  run : ∀ (A : Around) (outer : List Env) (s : Shared) (H : Hp) (args : Args) (us : List Value) (vs : List V) (Q : VK) (E : XK), A.guards = some [] → Room k A → Env0 P w K mg base A outer s H → BindsTo s fd args (lawPs.zip us) → Vals vs us → sp vs H Q E →
    codeAny (model P w) A (.call (.ref f) args) (CR CX0 outer P w H s Q E) s
section
variable {P : Program} {w : World} {K : PySem.W.Frag} {mg : Str → Option Value} {base : Heap}
theorem FnOkG.imp {k : Nat} {f : Addr} {fd : FuncData} {sp sp' : Sp} (F : FnOkG P w K mg base k f fd sp) (h : ∀ vs H Q E, sp' vs H Q E → sp vs H Q E) : FnOkG P w K mg base k f fd sp' :=
  ⟨fun A outer s H args us vs Q E hg hr he hb hv hs => F.run A outer s H args us vs Q E hg hr he hb hv (h _ _ _ _ hs)⟩
theorem FnOkG.of' {x qn : Str} {pa : Arguments} {body : List Stmt} {scope : Scope} {dV kV doc pm cdv ct oc : Value} {an od : Option Addr} {osl : Array (Option Value)} {N : List Str} {k : Nat} {f : Addr} {sp : Sp}
    (lk : K.lookup f = some ⟨oc, od, .func (PySem.W.fnOf x qn pa body scope dV kV doc pm an cdv ct), osl⟩) (hcd : PySem.W.codeIn K cdv qn = true) (S : FnScope N ["_law_script"] scope) (len : ∀ vs H Q E, sp vs H Q E → vs.length = 1)
    (hbody : ∀ (A : Around) (outer : List Env) (s : Shared) (H : Hp) (vs : List V) (Q : VK) (E : XK), A.guards = some [] → Room k (A.deeper (envOfC qn scope s.heap.objs.size f cdv)) → sp vs H Q E →
      ∃ t, PSs (cxOf CX0 P w K mg base N qn scope f cdv A outer s H E) body t ∧ t { nx := fun _ H' => Q .non H', rt := Q } (L2.start N vs) H) : FnOkG P w K mg base (k + 1) f (PySem.W.fnOf x qn pa body scope dV kV doc pm an cdv ct) sp := by
  refine ⟨fun A outer s H args us vs Q E hG hr e0 hb r hsp => ?_⟩
  have hl : vs.length = lawPs.length := len _ _ _ _ hsp
  have KX : K.In s.heap := e0.mod.kin.keeps fun b o e => (e0.bs b o e).1
  have lim : s.heap.NoLimit := e0.mod.nolimit.keeps fun b o e => (e0.bs b o e).1
  have hkind : ∀ y ∈ lawPs.zip us, scope.names.lookup y.1 = some .local ∨ (scope.names.lookup y.1 = some .cell ∧ ((cellsFrom (s.heap.objs.size + 1) scope.names []).lookup y.1).isSome = true) := fun y hy =>
    (S.par y.1 (List.of_mem_zip hy).1).imp id fun q => ⟨q, PySem.W.cellsFrom_some _ _ _ (.inl q)⟩
  refine codeAny_call_function hr.depth (KX _ _ lk) rfl S.co S.gen rfl (PySem.W.codeRec_of KX hcd) (hb _ _ _ _ ?_)
  refine wpAny_newFunctionEnv_cells S.kind hkind fun env he s1 x => ?_
  subst he
  refine ⟨lim.keeps x.toInCall.keep, codeAny_func ?_⟩
  obtain ⟨t, ht, hq⟩ := hbody A outer s H vs Q E hG (hr.deeper _) hsp
  refine wpAny_mono (ht.run [] s1 (L2.start N vs) H _ (inv_start S hr.hd e0 hl r x) hq) (fun fl s' hs => ?_) fun e s' hs => hs
  cases fl with
  | ret u =>
    obtain ⟨v, σ', H', J, rv, q⟩ := hs
    exact ⟨v, H', J.os, J.bare, J.base, J.hok, rv, q⟩
  | next =>
    obtain ⟨σ', H', J, q⟩ := hs
    exact ⟨.non, H', J.os, J.bare, J.base, J.hok, rfl, q⟩
  | brk => exact (hs.elim fun _ z => z.elim fun _ z => z.2).elim
  | cont => exact (hs.elim fun _ z => z.elim fun _ z => z.2).elim
theorem FnOkG.of {st : Stmt} {N : List Str} {k : Nat} {f : Addr} {fd : FuncData} {sp : Sp} (F : FunD K "law" "law" (defArgs st) (defBody st) (defScope st) [] [] f fd) (S : FnScope N ["_law_script"] (defScope st)) (len : ∀ vs H Q E, sp vs H Q E → vs.length = 1)
    (hbody : ∀ (cdv : Value) (A : Around) (outer : List Env) (s : Shared) (H : Hp) (vs : List V) (Q : VK) (E : XK), A.guards = some [] → Room k (A.deeper (envOfC "law" (defScope st) s.heap.objs.size f cdv)) → sp vs H Q E →
      ∃ t, PSs (cxOf CX0 P w K mg base N "law" (defScope st) f cdv A outer s H E) (defBody st) t ∧ t { nx := fun _ H' => Q .non H', rt := Q } (L2.start N vs) H) : FnOkG P w K mg base (k + 1) f fd sp := by
  obtain ⟨oc, od, dV, kV, doc, pm, an, cdv, ct, osl, rfl, lk, hcd, _, _⟩ := F.ex
  exact FnOkG.of' lk hcd S len fun A outer s H vs Q E => hbody cdv A outer s H vs Q E
end
section
variable {P : Program} {w : World} {K : PySem.W.Frag} {mg mb : Str → Option Value} {k : Nat} {fa a : Addr} {fd : FuncData} {sp : Sp} {s₁ : Shared} {vs : List Value} {ns : List Int} {H : Hp}
end
end
/-! repr of frozen data: the reading. -/
section
set_option maxRecDepth 100000
set_option maxHeartbeats 2000000
open PySem PySem.Spec PyProof.Rows L2
def pkK : Key → PyData
  | .inl i => .int i
  | .inr x => .str x
mutual
/-- data as repr sees them -/
def pdD : D → PyData
  | .non => .none | .bl b => .bool b | .int i => .int i | .str s => .str s
  | .tup ds => .tuple (pdDs ds) | .lst ds => .list (pdDs ds) | .dk ks ds => .dict ((ks.map pkK).zip (pdDs ds))
  | .raw _ => .none | .drw => .none | .any => .none | .ins _ _ _ => .none | .ol _ => .none | .oi _ _ _ => .none | .od _ _ => .none | .pin _ _ => .none
def pdDs : List D → List PyData
  | [] => []
  | d :: ds => pdD d :: pdDs ds
end
def strS (s : Str) : Bool := s.cps.toList.all fun c => decide (c < 16 ^ 8)
def shwK : Key → Bool
  | .inl i => decide (i.natAbs < 10 ^ 12)
  | .inr x => strS x
mutual
/-- data that repr can tell, of depth n at most and weight w at most -/
def shwD : D → Bool
  | .non => true | .bl _ => true | .int i => decide (i.natAbs < 10 ^ 12) | .str s => strS s
  | .tup ds => shwDs ds | .lst ds => shwDs ds | .dk ks ds => ks.all shwK && shwDs ds
  | .raw _ => false | .drw => false | .any => false | .ins _ _ _ => false | .ol _ => false | .oi _ _ _ => false | .od _ _ => false | .pin _ _ => false
def shwDs : List D → Bool
  | [] => true
  | d :: ds => shwD d && shwDs ds
end
mutual
/-- a bound of the depth -/
def dpD : D → Nat
  | .tup ds => dpDs ds + 1 | .lst ds => dpDs ds + 1 | .dk _ ds => dpDs ds + 1
  | _ => 0
def dpDs : List D → Nat
  | [] => 0
  | d :: ds => max (dpD d) (dpDs ds)
end
mutual
/-- a bound of the weight -/
def wtD : D → Nat
  | .int _ => 40 | .str s => s.cps.size | .tup ds => wtDs ds | .lst ds => wtDs ds | .dk ks ds => (ks.map fun k => (pkK k).weight + 2).sum + wtDs ds
  | _ => 0
def wtDs : List D → Nat
  | [] => 0
  | d :: ds => wtD d + 1 + wtDs ds
end
theorem pdDs_map : ∀ ds : List D, pdDs ds = ds.map pdD
  | [] => rfl
  | d :: ds => by rw [pdDs, List.map_cons, pdDs_map ds]
theorem shwDs_all : ∀ {ds : List D}, (∀ d ∈ ds, shwD d = true) → shwDs ds = true
  | [], _ => rfl
  | d :: ds, h => by rw [shwDs, h d List.mem_cons_self, shwDs_all fun x hx => h x (List.mem_cons_of_mem _ hx)]; rfl
theorem dpDs_all {n : Nat} : ∀ {ds : List D}, (∀ d ∈ ds, dpD d ≤ n) → dpDs ds ≤ n
  | [], _ => Nat.zero_le _
  | d :: ds, h => by rw [dpDs]; exact Nat.max_le.mpr ⟨h d List.mem_cons_self, dpDs_all fun x hx => h x (List.mem_cons_of_mem _ hx)⟩
theorem wtDs_all {n : Nat} : ∀ {ds : List D}, (∀ d ∈ ds, wtD d ≤ n) → wtDs ds ≤ ds.length * (n + 1)
  | [], _ => Nat.zero_le _
  | d :: ds, h => by
    have h1 := h d List.mem_cons_self
    have h2 := wtDs_all fun x hx => h x (List.mem_cons_of_mem _ hx)
    rw [wtDs, List.length_cons, Nat.succ_mul]
    omega
theorem depthKv_zip : ∀ {ks : List Key} {xs : List PyData}, ks.length = xs.length → PyData.depthKv ((ks.map pkK).zip xs) ≤ PyData.depthAll xs
  | [], _, _ => by simp [PyData.depthKv]
  | k :: ks, x :: xs, h => by
    have := depthKv_zip (ks := ks) (xs := xs) (by simpa using h)
    have e : (pkK k).depth = 0 := by cases k <;> rfl
    rw [List.map_cons, List.zip_cons_cons, PyData.depthKv, PyData.depthAll, e]
    omega
theorem weightKv_zip : ∀ {ks : List Key} {xs : List PyData}, ks.length = xs.length → PyData.weightKv ((ks.map pkK).zip xs) ≤ (ks.map fun k => (pkK k).weight + 2).sum + PyData.weightAll xs
  | [], _, _ => by simp [PyData.weightKv]
  | k :: ks, x :: xs, h => by
    have := weightKv_zip (ks := ks) (xs := xs) (by simpa using h)
    rw [List.map_cons, List.zip_cons_cons, PyData.weightKv, PyData.weightAll, List.map_cons, List.sum_cons]
    omega
theorem log2_lt {i : Int} (h : i.natAbs < 10 ^ 12) : i.natAbs.log2 < 40 := by
  by_cases z : i.natAbs = 0
  · rw [z]; decide
  · exact (Nat.log2_lt z).mpr (Nat.lt_of_lt_of_le h (by decide))
section
variable {K : PySem.W.Frag} {S : Sx} {F : Hp}
theorem Dats.length' {ds : List D} {vs : List V} (h : Dats K S F ds vs) : (pdDs ds).length = vs.length := by rw [pdDs_map, List.length_map, h.length]
mutual
theorem pd_show : ∀ (d : D) {v : V}, Dat K S F d v → shwD d = true → (pdD d).showable = true ∧ (pdD d).leavesShort 13 = true ∧ (pdD d).depth ≤ dpD d ∧ (pdD d).weight ≤ wtD d
  | .non, _, _, _ => ⟨rfl, rfl, Nat.le_refl _, Nat.le_refl _⟩
  | .bl _, _, _, _ => ⟨rfl, rfl, Nat.le_refl _, Nat.le_refl _⟩
  | .int i, _, _, h => by
    have h' : i.natAbs < 10 ^ 12 := of_decide_eq_true h
    have l := log2_lt h'
    refine ⟨decide_eq_true (show i.natAbs.log2 < 1920 by omega), decide_eq_true (PyData.shown_int_le h'), Nat.le_refl _, ?_⟩
    show (if i == 0 then 0 else i.natAbs.log2 + 1) ≤ 40
    split <;> omega
  | .str s, _, _, h => ⟨rfl, h, Nat.le_refl _, Nat.le_refl _⟩
  | .tup ds, _, ⟨a, vs, _, _, h2⟩, h => by
    obtain ⟨h3, h4, h5, h6⟩ := pd_shows ds h2 h
    refine ⟨by simp only [pdD, PyData.showable]; exact h3, by simp only [pdD, PyData.leavesShort]; exact h4, by simp only [pdD, PyData.depth, dpD]; omega, by simp only [pdD, PyData.weight, wtD]; exact h6⟩
  | .lst ds, _, ⟨a, vs, _, _, h2⟩, h => by
    obtain ⟨h3, h4, h5, h6⟩ := pd_shows ds h2 h
    refine ⟨by simp only [pdD, PyData.showable]; exact h3, by simp only [pdD, PyData.leavesShort]; exact h4, by simp only [pdD, PyData.depth, dpD]; omega, by simp only [pdD, PyData.weight, wtD]; exact h6⟩
  | .dk ks ds, _, ⟨a, kvs, _, _, e, h2⟩, h => by
    rw [shwD, Bool.and_eq_true] at h
    obtain ⟨h3, h4, h5, h6⟩ := pd_shows ds h2 h.2
    have hl : ks.length = (pdDs ds).length := by rw [h2.length', ← e, List.length_map, List.length_map]
    have h7 := depthKv_zip hl
    have h8 := weightKv_zip hl
    have h9 : PyData.showableKv ((ks.map pkK).zip (pdDs ds)) = true ∧ PyData.leavesShortKv 13 ((ks.map pkK).zip (pdDs ds)) = true := by
      clear h5 h6 h7 h8 h2 e
      have hk := h.1
      revert hk h3 h4 hl
      generalize pdDs ds = xs
      clear h
      induction ks generalizing xs with
      | nil => intro _ _ _ _; exact ⟨rfl, rfl⟩
      | cons k ks ih =>
        intro h3 h4 hl hk
        cases xs with
        | nil => cases hl
        | cons x xs =>
          rw [List.all_cons, Bool.and_eq_true] at hk
          simp only [PyData.showableAll, PyData.leavesShortAll, Bool.and_eq_true] at h3 h4
          obtain ⟨i1, i2⟩ := ih xs h3.2 h4.2 (by simpa using hl) hk.2
          have kk : (pkK k).showable = true ∧ (pkK k).leavesShort 13 = true := by
            cases k with
            | inl i =>
              have h' : i.natAbs < 10 ^ 12 := of_decide_eq_true hk.1
              have l := log2_lt h'
              exact ⟨decide_eq_true (show i.natAbs.log2 < 1920 by omega), decide_eq_true (PyData.shown_int_le h')⟩
            | inr x => exact ⟨rfl, hk.1⟩
          simp only [List.map_cons, List.zip_cons_cons, PyData.showableKv, PyData.leavesShortKv, i1, i2, h3.1, h4.1, kk.1, kk.2, Bool.and_self, and_self]
    refine ⟨by simp only [pdD, PyData.showable]; exact h9.1, by simp only [pdD, PyData.leavesShort]; exact h9.2, by simp only [pdD, PyData.depth, dpD]; omega, by simp only [pdD, PyData.weight, wtD]; omega⟩
  | .raw _, _, _, h => by cases h
  | .drw, _, _, h => by cases h
  | .any, _, _, h => by cases h
  | .ins _ _ _, _, _, h => by cases h
  | .ol _, _, _, h => by cases h
  | .oi _ _ _, _, _, h => by cases h
  | .od _ _, _, _, h => by cases h
  | .pin _ _, _, _, h => by cases h
theorem pd_shows : ∀ (ds : List D) {vs : List V}, Dats K S F ds vs → shwDs ds = true → PyData.showableAll (pdDs ds) = true ∧ PyData.leavesShortAll 13 (pdDs ds) = true ∧ PyData.depthAll (pdDs ds) ≤ dpDs ds ∧ PyData.weightAll (pdDs ds) ≤ wtDs ds
  | [], _, _, _ => ⟨rfl, rfl, Nat.le_refl _, Nat.le_refl _⟩
  | d :: ds, _, ⟨v, us, _, h1, h2⟩, h => by
    rw [shwDs, Bool.and_eq_true] at h
    obtain ⟨a1, a2, a3, a4⟩ := pd_show d h1 h.1
    obtain ⟨b1, b2, b3, b4⟩ := pd_shows ds h2 h.2
    refine ⟨by simp only [pdDs, PyData.showableAll, a1, b1, Bool.and_self], by simp only [pdDs, PyData.leavesShortAll, a2, b2, Bool.and_self], by simp only [pdDs, PyData.depthAll, dpDs]; omega, by simp only [pdDs, PyData.weightAll, wtDs]; omega⟩
end
/-- what repr may be asked -/
def okShw (d : D) : Prop := shwD d = true ∧ dpD d ≤ 100 ∧ wtD d ≤ 2 ^ 20
end
theorem rp_keys {P : Program} {w : World} {h₀ : Heap} : ∀ {es : List DictEntry} {vs : List (Key × Value)}, Pairs (mixKind P w) es vs → ((vs.map Prod.fst).all shwK) = true → (∀ t ∈ PyData.shownAll ((vs.map Prod.fst).map pkK), t.length ≤ sizeLine) →
    ReadsAll h₀ (es.map (·.key)) ((vs.map Prod.fst).map pkK) [] ∧ ReprAllK P w [] h₀ 0 (es.map (·.key)) (PyData.shownAll ((vs.map Prod.fst).map pkK))
  | _, _, .nil, _, _ => ⟨.nil, .nil⟩
  | e :: es, kv :: vs, .cons h1 h2 h3, hs, hz => by
    rw [List.map_cons, List.all_cons, Bool.and_eq_true] at hs
    obtain ⟨r1, r2⟩ := rp_keys (h₀ := h₀) h3 hs.2 fun t ht => hz t (by simp only [List.map_cons, PyData.shownAll]; exact List.mem_cons_of_mem _ ht)
    have hz0 := hz (pkK kv.1).shown (by simp only [List.map_cons, PyData.shownAll]; exact List.mem_cons_self ..)
    obtain ⟨k, v⟩ := kv
    rcases keyIs_shape h1 with ⟨i, t, e1, e2⟩ | ⟨x, t, e1, e2⟩
    · dsimp only at e1
      subst e1
      have h' : i.natAbs < 10 ^ 12 := of_decide_eq_true hs.1
      have l := log2_lt h'
      simp only [List.map_cons, PyData.shownAll]
      refine ⟨?_, ?_⟩
      · rw [e2]; exact ReadsAll.cons (as := []) (bs := []) (.int i t) r1
      · rw [e2]; refine .cons ?_ r2
        have := ReprK.of_is (ReprIs.int (prog := P) (w := w) (a := i) t (by omega)) [] h₀ 0
        simpa only [pkK, PyData.shown] using this
    · dsimp only at e1
      subst e1
      simp only [List.map_cons, PyData.shownAll]
      refine ⟨?_, ?_⟩
      · rw [e2]; exact ReadsAll.cons (as := []) (bs := []) (.str x t) r1
      · rw [e2]; refine .cons ?_ r2
        have := ReprK.of_is (ReprIs.str (prog := P) (w := w) x t (by simpa only [pkK, PyData.shown] using hz0)) [] h₀ 0
        simpa only [pkK, PyData.shown] using this
theorem pairs_vals {P : Program} {w : World} : ∀ {es : List DictEntry} {vs : List (Key × Value)}, Pairs (mixKind P w) es vs → es.map (·.val) = vs.map Prod.snd
  | _, _, .nil => rfl
  | e :: es, kv :: vs, .cons h1 h2 h3 => by rw [List.map_cons, List.map_cons, pairs_vals h3, h2]
theorem kv_fst : ∀ {kvs : List (Key × V)} {vs : List (Key × Value)}, KV kvs vs → vs.map Prod.fst = kvs.map Prod.fst ∧ Vals (kvs.map Prod.snd) (vs.map Prod.snd)
  | _, _, .nil => ⟨rfl, .nil⟩
  | _, _, .cons h t => by
    obtain ⟨a, b⟩ := kv_fst t
    exact ⟨by rw [List.map_cons, List.map_cons, a, h.1], .cons h.2 b⟩
theorem zip_fst {α β : Type} : ∀ {xs : List α} {ys : List β}, xs.length = ys.length → (xs.zip ys).map Prod.fst = xs ∧ (xs.zip ys).map Prod.snd = ys
  | [], [], _ => ⟨rfl, rfl⟩
  | x :: xs, y :: ys, h => by
    obtain ⟨a, b⟩ := zip_fst (xs := xs) (ys := ys) (by simpa using h)
    exact ⟨by rw [List.zip_cons_cons, List.map_cons, a], by rw [List.zip_cons_cons, List.map_cons, b]⟩
section
variable {X : Cx} {pins : List (Addr × Obj)} {σ : L2.St} {H : Hp} {s : Shared} {S : Sx} {F : Hp}
mutual
theorem rp_ok (I : Inv X pins σ H s) (sm : Same F H) : ∀ (d : D) {v : V} {u : Value}, Dat X.K S F d v → RelV v u → shwD d = true → (pdD d).shown.length ≤ sizeLine →
    ∃ as bs, Reads s.heap u (pdD d) as ∧ ReadAtMost s.heap (pdD d).depth bs ∧ ReprK X.prog X.w bs s.heap (pdD d).depth u (pdD d).shown
  | .non, _, _, rfl, rfl, _, _ => ⟨[], [], .none, (fun _ h => nomatch h), by simp only [pdD, PyData.shown]; exact .of_is ReprIs.none _ _ _⟩
  | .bl b, _, _, rfl, rfl, _, _ => ⟨[], [], .bool b, (fun _ h => nomatch h), by simp only [pdD, PyData.shown]; exact .of_is (ReprIs.bool b) _ _ _⟩
  | .int i, _, _, rfl, ⟨t, rfl⟩, h, _ => ⟨[], [], .int i t, (fun _ h => nomatch h), by
    have l := log2_lt (i := i) (of_decide_eq_true h)
    simp only [pdD, PyData.shown]
    exact .of_is (ReprIs.int t (by omega)) _ _ _⟩
  | .str x, _, _, rfl, ⟨t, rfl⟩, _, hz => ⟨[], [], .str x t, (fun _ h => nomatch h), by simp only [pdD, PyData.shown]; exact .of_is (ReprIs.str x t (by simpa only [pdD, PyData.shown] using hz)) _ _ _⟩
  | .lst ds, _, _, ⟨a, vs, rfl, h1, h2⟩, rfl, h, hz => by
    have hz' : (listText (PyData.shownAll (pdDs ds))).length ≤ sizeLine := by simpa only [pdD, PyData.shown] using hz
    obtain ⟨_, its, n, rv, hg⟩ := I.hok a _ (sm _ _ h1)
    obtain ⟨as, bs, r1, hb, hk⟩ := rp_oks I sm ds h2 rv h fun t ht => Nat.le_trans (listText_mem_le ht) hz'
    have r : Reads s.heap (.ref a) (.list (pdDs ds)) (a :: as) := .list hg rfl rfl (by simpa using r1)
    have hna : a ∉ bs := not_mem_of_deeper r (by simp only [PyData.depth]; omega) hb
    refine ⟨a :: as, a :: bs, r, ReadAtMost.cons r (by simp only [pdD, PyData.depth]; omega) hb, ?_⟩
    simp only [pdD, PyData.depth, PyData.shown]
    cases its with
    | nil =>
      have e0 : pdDs ds = [] := by
        have := h2.length'
        rw [rv.length] at this
        exact List.eq_nil_of_length_eq_zero this
      rw [e0]
      simp only [PyData.shownAll, listText_nil]
      exact ReprK.listEmpty hg rfl rfl
    | cons x l => exact ReprK.list hg rfl rfl hna (by simpa using hk.length_eq) (fun i y e => hk.item i y (by simpa using e))
  | .tup ds, _, _, ⟨a, vs, rfl, h1, h2⟩, rfl, h, hz => by
    have hz' : (tupleText (PyData.shownAll (pdDs ds))).length ≤ sizeLine := by simpa only [pdD, PyData.shown] using hz
    obtain ⟨its, rv, ⟨o, hg, hc, n, hd⟩, _⟩ := I.tuple (st_sm sm h1)
    obtain ⟨as, bs, r1, hb, hk⟩ := rp_oks I sm ds h2 rv h fun t ht => Nat.le_trans (tupleText_mem_le ht) hz'
    have r : Reads s.heap (.ref a) (.tuple (pdDs ds)) as := .tuple hg hc hd (by simpa using r1)
    have hna : a ∉ bs := not_mem_of_deeper r (by simp only [PyData.depth]; omega) hb
    refine ⟨as, a :: bs, r, ReadAtMost.cons r (by simp only [pdD, PyData.depth]; omega) hb, ?_⟩
    simp only [pdD, PyData.depth, PyData.shown]
    exact ReprK.tuple hg hc hd hna (by simpa using hk)
  | .dk ks ds, _, _, ⟨a, kvs, rfl, h1, e, h2⟩, rfl, h, hz => by
    rw [shwD, Bool.and_eq_true] at h
    have hz' : (dictText (PyData.shownKv ((ks.map pkK).zip (pdDs ds)))).length ≤ sizeLine := by simpa only [pdD, PyData.shown] using hz
    obtain ⟨_, hsys, vs, kv, o, es, ep, hg, hx, hd, _, hp, _⟩ := I.hok a _ (sm _ _ h1)
    obtain ⟨f1, f2⟩ := kv_fst kv
    have hl : (ks.map pkK).length = (pdDs ds).length := by rw [h2.length', ← e, List.length_map, List.length_map, List.length_map]
    obtain ⟨z1, z2⟩ := zip_fst hl
    have ek : (vs.map Prod.fst).map pkK = ks.map pkK := by rw [f1, e]
    obtain ⟨k1, k2⟩ := rp_keys (h₀ := s.heap) hp (by rw [f1, e]; exact h.1) fun t ht => by
      rw [ek, ← z1] at ht
      obtain ⟨p, hp, hl⟩ := PyData.shownKv_key_le _ t ht
      exact Nat.le_trans hl (Nat.le_trans (dictText_mem_le hp) hz')
    rw [ek] at k1 k2
    obtain ⟨as, bs, r1, hb, hk⟩ := rp_oks I sm ds h2 f2 h.2 fun t ht => by
      rw [← z2] at ht
      obtain ⟨p, hp, hl⟩ := PyData.shownKv_val_le _ t ht
      exact Nat.le_trans hl (Nat.le_trans (dictText_mem_le hp) hz')
    rw [← pairs_vals hp] at r1 hk
    have r : Reads s.heap (.ref a) (.dict ((ks.map pkK).zip (pdDs ds))) (a :: [] ++ as) := .dict hg hx.1 hd (by rw [z1]; exact k1) (by rw [z2]; exact r1)
    have hdl : PyData.depthAll (pdDs ds) ≤ PyData.depthKv ((ks.map pkK).zip (pdDs ds)) := by
      have := PyData.depthAll_vals_le ((ks.map pkK).zip (pdDs ds))
      rwa [show ((ks.map pkK).zip (pdDs ds)).map (·.2) = pdDs ds from z2] at this
    have hb' := hb.mono hdl
    have hna : a ∉ bs := not_mem_of_deeper r (by simp only [PyData.depth]; omega) hb'
    refine ⟨_, a :: bs, r, ReadAtMost.cons r (by simp only [pdD, PyData.depth]; omega) hb', ?_⟩
    simp only [pdD, PyData.depth, PyData.shown, PyData.shownKv_eq]
    rw [show ((ks.map pkK).zip (pdDs ds)).map (·.1) = _ from z1, show ((ks.map pkK).zip (pdDs ds)).map (·.2) = _ from z2]
    exact ReprK.dict hg hx.1 hd hsys hna (ReprEntriesK.of_two es.toList _ _ (k2.more_le (by intro b hb; cases hb) (Nat.zero_le _)) (hk.more_le (fun b hb => hb) hdl))
  | .raw _, _, _, _, _, h, _ => by cases h
  | .drw, _, _, _, _, h, _ => by cases h
  | .any, _, _, _, _, h, _ => by cases h
  | .ins _ _ _, _, _, _, _, h, _ => by cases h
  | .ol _, _, _, _, _, h, _ => by cases h
  | .oi _ _ _, _, _, _, _, h, _ => by cases h
  | .od _ _, _, _, _, _, h, _ => by cases h
  | .pin _ _, _, _, _, _, h, _ => by cases h
theorem rp_oks (I : Inv X pins σ H s) (sm : Same F H) : ∀ (ds : List D) {vs : List V} {us : List Value}, Dats X.K S F ds vs → Vals vs us → shwDs ds = true → (∀ t ∈ PyData.shownAll (pdDs ds), t.length ≤ sizeLine) →
    ∃ as bs, ReadsAll s.heap us (pdDs ds) as ∧ ReadAtMost s.heap (PyData.depthAll (pdDs ds)) bs ∧ ReprAllK X.prog X.w bs s.heap (PyData.depthAll (pdDs ds)) us (PyData.shownAll (pdDs ds))
  | [], vs, us, h0, rv, _, _ => by
    obtain rfl : vs = [] := h0
    cases rv
    exact ⟨[], [], .nil, (fun _ h => nomatch h), .nil⟩
  | d :: ds, vs0, us, h0, rv, h, hz => by
    obtain ⟨v, vs, rfl, h1, h2⟩ := h0
    cases rv with
    | cons r rs =>
      rw [shwDs, Bool.and_eq_true] at h
      obtain ⟨a1, b1, q1, m1, k1⟩ := rp_ok I sm d h1 r h.1 (hz _ (by simp only [pdDs, PyData.shownAll]; exact List.mem_cons_self ..))
      obtain ⟨a2, b2, q2, m2, k2⟩ := rp_oks I sm ds h2 rs h.2 (fun t ht => hz t (by simp only [pdDs, PyData.shownAll]; exact List.mem_cons_of_mem _ ht))
      refine ⟨a1 ++ a2, b1 ++ b2, .cons q1 q2, ?_, ?_⟩
      · simp only [pdDs, PyData.depthAll]
        exact (m1.mono (Nat.le_max_left _ _)).append (m2.mono (Nat.le_max_right _ _))
      · simp only [pdDs, PyData.depthAll, PyData.shownAll]
        exact .cons ((k1.more fun b hb => List.mem_append_left _ hb).level_le (Nat.le_max_left _ _)) (k2.more_le (fun b hb => List.mem_append_right _ hb) (Nat.le_max_right _ _))
end
end
end
/-! repr of frozen lists and tuples: the rule. -/
section
set_option maxRecDepth 100000
set_option maxHeartbeats 2000000
open PySem PySem.Spec PyProof.Rows L2
/-- the text that repr tells of data -/
@[irreducible] def shT (d : D) : Str := (pdD d).shown
section
variable {K : PySem.W.Frag} {S : Sx} {Φ : D → Prop}
end
theorem okShw.lst {ds : List D} {n w : Nat} (h : ∀ d ∈ ds, shwD d = true ∧ dpD d ≤ n ∧ wtD d ≤ w) (hn : n ≤ 99) (hw : ds.length * (w + 1) ≤ 2 ^ 20) : okShw (.lst ds) :=
  ⟨shwDs_all fun d hd => (h d hd).1, by have := dpDs_all fun d hd => (h d hd).2.1; show dpDs ds + 1 ≤ 100; omega, Nat.le_trans (wtDs_all fun d hd => (h d hd).2.2) hw⟩
theorem okShw.tup {ds : List D} {n w : Nat} (h : ∀ d ∈ ds, shwD d = true ∧ dpD d ≤ n ∧ wtD d ≤ w) (hn : n ≤ 99) (hw : ds.length * (w + 1) ≤ 2 ^ 20) : okShw (.tup ds) :=
  ⟨shwDs_all fun d hd => (h d hd).1, by have := dpDs_all fun d hd => (h d hd).2.1; show dpDs ds + 1 ≤ 100; omega, Nat.le_trans (wtDs_all fun d hd => (h d hd).2.2) hw⟩
end
/-! Own errors with one field: what the head tells of their classes. -/
section
set_option maxRecDepth 100000
set_option maxHeartbeats 4000000
open PySem PySem.Spec PyProof.Rows L2
/-- what the program's top leaves of the error class x at C, whose __init__ is st and keeps f -/
structure XiD (P : Program) (K : PySem.W.Frag) (mg : Str → Option Value) (x : Str) (C : Addr) (f q : Str) (st : Stmt) : Prop where
  g : mg x = some (.ref C)
  oc : OexC K C
  xf : XfC K C
  te : PySem.W.exmOne K (.ref C) (.ref C) = some true
  nf : PySem.W.findIn K (.ref C) f = some none
  fn : ∃ (fI cc cda : Addr) (kV doc pm ct oc oc2 oc3 : Value) (an od od2 od3 : Option Addr) (osl osl2 osl3 : Array (Option Value)) (vs : Array Value) (file : Str) (tf : Tok), PySem.W.findIn K (.ref C) "__init__" = some (some (.ref fI)) ∧ PySem.W.typeIn K (.ref fI) = some (.type "function") ∧
    K.lookup fI = some ⟨oc, od, .func (PySem.W.ksFn "__init__" q (defArgs st) (defBody st) (defScope st) .none kV doc pm an (.ref cda) ct cc), osl⟩ ∧ PySem.W.codeIn K (.ref cda) q = true ∧
    K.lookup cc = some ⟨oc2, od2, .cell (some (.ref C)), osl2⟩ ∧ K.lookup cda = some ⟨oc3, od3, .fields vs, osl3⟩ ∧ vs[2]? = some (.str file tf) ∧ ((P.main.file : Str) == file) = true
  top : (P.main.scope.names.lookup ("super" : Str)).isSome = false
  sup : mg "super" = none
  si : PySem.W.ks_superIn K C C "__init__" = some (some (.builtin "ValueError.__init__"))
  op : PySem.W.nsIn K cStatics "thirdparty.any" = some none
  sV : PySem.W.subIn K (.ref C) (.type "ValueError") = some true
  sC : PySem.W.mroIn K C (.ref C) = some true
theorem xc1_of {P : Program} {w : World} {K : PySem.W.Frag} {mg : Str → Option Value} {base : Heap} {x f q : Str} {C : Addr} {st : Stmt} {p0 p1 p2 p3 p4 p5 p6 p7 p8 p9 : Pos} {ar : Arg} {pl : Env → Sem Bool} (D : XiD P K mg x C f q st)
    (hb : defBody st = xiBody f p0 p1 p2 p3 p4 p5 p6 p7 p8 p9) (S : XiS f (defScope st)) (hp : ((defArgs st).posonlyargs ++ (defArgs st).args).head? = some ar) (har : ar.arg = "self")
    (hbind : ∀ (b : List Stmt) (kV doc pm : Value) (an : Option Addr) (cdv ct : Value) (cc : Addr) (us : List Value), us.length = 2 → bindArgs (PySem.W.ksFn "__init__" q (defArgs st) b (defScope st) .none kV doc pm an cdv ct cc) ⟨us, []⟩ = pure ((["self", f] : List Str).zip us))
    (hev : ∀ env : Env, eval (.Call (.Attribute (.Call (.Name "super" p0) [] [] p1) "__init__" p2) [.Name f p3] [] p4) env = (do
      let ov ← attributeBase (.Call (.Name "super" p0) [] [] p1) "__init__" env (eval (.Call (.Name "super" p0) [] [] p1) env)
      standAt p2.atName
      let (g, first) ← holding [ov] (getMethod ov "__init__" (pl env))
      callWith p4 g first (backTo p4 (starEach [.Name f p3] env)) []))
    (hsw : ∀ env : Env, swapsWith (.Call (.Attribute (.Call (.Name "super" p0) [] [] p1) "__init__" p2) [.Name f p3] [] p4) none p5.line env = pure false) (hsw2 : ∀ env : Env, swapsWith (.Name f p8) (some (.Attribute (.Name "self" p6) f p7)) p9.line env = pure false)
    (hdb : (f == ("__debug__" : Str)) = false) (hcdx : (f == ("__classdict__" : Str)) = false) : Xc1 P w K mg base x C f := by
  obtain ⟨fI, cc, cda, kV, doc, pm, ct, oc, oc2, oc3, an, od, od2, od3, osl, osl2, osl3, vs, file, tf, h1, h2, lk, hcd, hcc, hco, hvs, hfl⟩ := D.fn
  rw [hb] at lk
  exact ⟨D.g, D.oc, ⟨fI, _, h1, h2, .all fun us hl => hbind _ kV doc pm an _ ct cc us hl, xi_fn S D.oc D.nf lk hcd hcc hco hvs hfl D.top D.sup D.si D.op D.sV D.sC hp har hev hsw hsw2 hdb hcdx⟩, D.xf, D.nf, D.te⟩
end
/-! The program's errors with one field. -/
section
set_option maxRecDepth 100000
set_option maxHeartbeats 4000000
open PySem PySem.Spec PyProof.Rows L2






abbrev sBadText___init__ : Stmt := inClass (top 4) 0
theorem xc_BadText {P : Program} {w : World} {K : PySem.W.Frag} {mg : Str → Option Value} {base : Heap} {C : Addr} (D : XiD P K mg "BadText" C "line" "BadText.__init__" sBadText___init__) : Xc1 P w K mg base "BadText" C "line" :=
  xc1_of (p0 := ⟨16, 8, 16, 13⟩) (p1 := ⟨16, 8, 16, 15⟩) (p2 := ⟨16, 8, 16, 24⟩) (p3 := ⟨16, 25, 16, 29⟩) (p4 := ⟨16, 8, 16, 30⟩) (p5 := ⟨16, 8, 16, 30⟩) (p6 := ⟨17, 8, 17, 12⟩) (p7 := ⟨17, 8, 17, 17⟩) (p8 := ⟨17, 20, 17, 24⟩) (p9 := ⟨17, 8, 17, 24⟩) D rfl ⟨rfl, rfl, rfl, by decide +kernel, by decide +kernel, rfl, rfl, rfl, rfl, by decide +kernel⟩ rfl rfl (fun _ _ _ _ _ _ _ _ us hl => match us, hl with | [_, _], _ => rfl) (fun _ => rfl) (fun _ => rfl) (fun _ => rfl) (by decide) (by decide)






end
/-! zip of two or three lists and tuples, in whatever mix. -/
section
set_option maxRecDepth 100000
set_option maxHeartbeats 2000000
open PySem PySem.Spec PyProof.Rows L2
/-- a list (true) or a tuple (false) -/
def SqB (b : Bool) (K : PySem.W.Frag) (H : Hp) (a : Addr) (xs : List V) : Prop := match b with
  | true => SqL K H a xs
  | false => SqT K H a xs
def ItB (b : Bool) (h : Heap) (it l : Addr) (i : Nat) : Prop := match b with
  | true => h.IsListIter it l i
  | false => h.IsTupleIter it l i
def SeB (b : Bool) (h : Heap) (l : Addr) (items : Array Value) : Prop := match b with
  | true => h.IsList l items
  | false => h.IsTuple l items
def oB (b : Bool) (l : Addr) : Obj := { cls := .type (match b with | true => "list_iterator" | false => "tuple_iterator"), data := .fields #[.ref l, .int 0 0] }
theorem drawsB {prog : Program} {w : World} {A : Around} (b : Bool) (hh : A.handled = none) (it l : Addr) (hne : l ≠ it) (items : Array Value) :
    Draws prog w A it [it, l] items.size (fun i v => items[i]? = some v) (fun i h => ItB b h it l i ∧ SeB b h l items) := by
  cases b with
  | true => exact Draws.list hh it l hne items
  | false => exact Draws.tuple hh it l hne items
theorem beginsB (b : Bool) (l : Addr) (items : Array Value) : Begins (.ref l) (oB b l) fun h => SeB b h l items := by
  cases b with
  | true => exact begins_list l items
  | false => exact begins_tuple l items
theorem itB_new {b : Bool} {h : Heap} {it l : Addr} (e : h.get? it = some (oB b l)) : ItB b h it l 0 := by
  cases b with
  | true => exact ⟨_, e, rfl, rfl⟩
  | false => exact ⟨_, e, rfl, rfl⟩
theorem itB_at {b : Bool} {h h' : Heap} {it l : Addr} {i : Nat} (x : ItB b h it l i) (k : ∀ o, h.get? it = some o → h'.get? it = some o) : ItB b h' it l i := by
  cases b with
  | true => exact Heap.IsListIter.at x k
  | false => exact Heap.IsTupleIter.at x k
theorem itB_obj {b : Bool} {h : Heap} {it l : Addr} {i : Nat} (x : ItB b h it l i) : ∃ o, h.get? it = some o ∧ ∀ v, o.data ≠ .cell v := by
  cases b with
  | true =>
    obtain ⟨o, e, _, d⟩ := x
    exact ⟨o, e, fun v q => by rw [d] at q; cases q⟩
  | false =>
    obtain ⟨o, e, _, d⟩ := x
    exact ⟨o, e, fun v q => by rw [d] at q; cases q⟩
theorem seB_of {X : Cx} {pins : List (Addr × Obj)} {σ : L2.St} {H : Hp} {s : Shared} {b : Bool} {a : Addr} {xs : List V} (I : Inv X pins σ H s) (h : SqB b X.K H a xs) : ∃ its : List Value, Vals xs its ∧ SeB b s.heap a its.toArray ∧ a < s.heap.objs.size := by
  cases b with
  | true =>
    obtain ⟨its, rv, p, _⟩ := I.list h
    exact ⟨its, rv, p.isList, p.lt⟩
  | false =>
    obtain ⟨its, rv, p, _⟩ := I.tuple h
    obtain ⟨o, ho, _⟩ := id p
    exact ⟨its, rv, p, Heap.lt_size ho⟩
theorem sqB_inj {X : Cx} {pins : List (Addr × Obj)} {σ : L2.St} {H : Hp} {s : Shared} {b : Bool} {a : Addr} {xs ys : List V} (I : Inv X pins σ H s) (h : SqB b X.K H a xs) (h' : SqB b X.K H a ys) : xs = ys := by
  cases b with
  | true => exact I.list_inj h h'
  | false => exact I.tuple_inj h h'
theorem vals_back {xs : List V} {us : List Value} {i : Nat} {u : Value} (r : Vals xs us) (h : us[i]? = some u) : ∃ x, xs[i]? = some x ∧ RelV x u := by
  have hl := (List.getElem?_eq_some_iff.mp h).1
  have hl2 : i < xs.length := by rw [r.length]; exact hl
  have hx : xs[i]? = some xs[i] := List.getElem?_eq_getElem hl2
  obtain ⟨u', e, q⟩ := r.get hx
  rw [h] at e
  cases e
  exact ⟨_, hx, q⟩
/-- pairs -/
def ItzB (b1 b2 : Bool) (K : PySem.W.Frag) (a b : Addr) : It :=
  ⟨fun i H => ∃ (xs ys : List V), SqB b1 K H a xs ∧ SqB b2 K H b ys ∧ i < xs.length ∧ i < ys.length,
    fun i H v H' => ∃ T x y, v = .ref T ∧ H T = none ∧ H' = upd H T (.tup [x, y]) ∧ (∀ xs, SqB b1 K H a xs → xs[i]? = some x) ∧ ∀ ys, SqB b2 K H b ys → ys[i]? = some y,
    fun i H => ∃ xs ys : List V, SqB b1 K H a xs ∧ SqB b2 K H b ys ∧ i = min xs.length ys.length⟩
theorem turn_zipB {P : Program} {w : World} {K : PySem.W.Frag} {elts : List Expr} {kk : Nat} {tpos : Pos} {b1 b2 : Bool} {a b z TI TO i1 i2 : Addr} (D : ZipSep2 z TI TO i1 i2 [i1, a] [i2, b]) (ha : a ≠ i1) (hb : b ≠ i2) :
    Turn P w K (.Tuple elts kk tpos) (ItzB b1 b2 K a b) [z, TI, TO, i1, i2] z (fun i h => IsZip h z TI TO .none ∧ IsTupOf2 h TI (.ref i1) (.ref i2) ∧ (∃ x y, IsTupOf2 h TO x y) ∧ ItB b1 h i1 a i ∧ ItB b2 h i2 b i) where
  mem := by simp
  obj := fun i h st c hc => by
    obtain ⟨hz, hTI, ⟨x, y, hTO⟩, h1, h2⟩ := st
    have e' : c = z ∨ c = TI ∨ c = TO ∨ c = i1 ∨ c = i2 := by simpa using hc
    rcases e' with q | q | q | q | q
    · rw [q]; exact ⟨_, hz, fun v q => nomatch q⟩
    · rw [q]; exact ⟨_, hTI, fun v q => nomatch q⟩
    · rw [q]; exact ⟨_, hTO, fun v q => nomatch q⟩
    · rw [q]; exact itB_obj h1
    · rw [q]; exact itB_obj h2
  keep := fun i h h' st k => by
    obtain ⟨hz, hTI, ⟨x, y, hTO⟩, h1, h2⟩ := st
    exact ⟨k z (by simp) _ hz, k TI (by simp) _ hTI, ⟨x, y, k TO (by simp) _ hTO⟩, itB_at h1 fun o q => k i1 (by simp) o q, itB_at h2 fun o q => k i2 (by simp) o q⟩
  item := by
    intro X hP hw hK hc i pins s σ H E I hf st hg
    subst hP hw hK
    obtain ⟨hz, hTI, ⟨x0, y0, hTO⟩, h1, h2⟩ := st
    obtain ⟨xs, ys, hqx, hqy, hx, hy⟩ := hg
    obtain ⟨its, rv, p, _⟩ := seB_of I hqx
    obtain ⟨its2, rv2, p2, _⟩ := seB_of I hqy
    have hzl : z < s.heap.objs.size := Heap.lt_size hz
    have l1 := rv.length
    have l2 := rv2.length
    refine wpAny_pyNext_zipD2_item D (drawsB (A := X.A.in1) b1 (I.ok.hd hc) i1 a ha its.toArray) (drawsB (A := X.A.in1) b2 (I.ok.hd hc) i2 b hb its2.toArray) hz hTI hTO (i := i) ⟨h1, p⟩ ⟨h2, p2⟩ (by rw [List.size_toArray]; omega) (by rw [List.size_toArray]; omega) fun u u2 h' tk hu hu2 z' TO' h1' h2' hT hsz hk => ?_
    obtain ⟨x, hx', ru⟩ := vals_back rv (by simpa using hu)
    obtain ⟨y, hy', ru2⟩ := vals_back rv2 (by simpa using hu2)
    refine ⟨_, rfl, wpAny_letOwnedTupleGo_zip (s := { s with heap := h', toks := tk }) z' fun h'' z'' sb => ?_⟩
    have hT2 : h''.get? s.heap.objs.size = some { cls := .type "tuple", data := .seq #[u, u2] } := (sb.2 _ (Nat.ne_of_gt hzl)).trans hT
    have new : ObjOk X.prog X.w (upd H s.heap.objs.size (.tup [x, y])) h'' s.heap.objs.size (.tup [x, y]) :=
      ⟨by show 2 ≤ sizeLine; decide, [u, u2], .cons ru (.cons ru2 .nil), ⟨_, hT2, rfl, _, rfl⟩⟩
    have I1 : Inv X pins σ (upd H s.heap.objs.size (.tup [x, y])) { s with heap := h'', toks := tk } :=
      I.turnedNew (t' := tk) (ch := [z, TI, TO, i1, i2]) (fun c o hb q => (sb.2 c (fun q' => hb (by simp [q']))).trans (hk c o (fun q' => hb (by simp [q'])) (fun q' => hb (by simp [q'])) (fun q' => hb (by simp [q'])) (fun q' => hb (by simp [q'])) q)) hf (Nat.le_refl _) new
    refine ⟨.ref s.heap.objs.size, _, I1, rfl, ⟨_, x, y, rfl, I.hok.fresh (Nat.le_refl _), rfl, fun l hl => by rw [sqB_inj I hl hqx]; exact hx', fun l hl => by rw [sqB_inj I hl hqy]; exact hy'⟩, ⟨z'', ?_, ⟨u, u2, ?_⟩, ?_, ?_⟩, fun c hcm => ?_⟩
    · exact (sb.2 _ D.TIz).trans (hk _ _ D.TIz D.TITO D.TIi1 D.TIi2 hTI)
    · exact (sb.2 _ D.TOz).trans TO'
    · exact itB_at h1'.1 fun o q => (sb.2 _ D.zi1.symm).trans q
    · exact itB_at h2'.1 fun o q => (sb.2 _ D.zi2.symm).trans q
    · have hlt : c < s.heap.objs.size := by
        have e' : c = z ∨ c = TI ∨ c = TO ∨ c = i1 ∨ c = i2 := by simpa using hcm
        rcases e' with q | q | q | q | q
        · rw [q]; exact hzl
        · rw [q]; exact Heap.lt_size hTI
        · rw [q]; exact Heap.lt_size hTO
        · rw [q]; obtain ⟨_, e1, _⟩ := itB_obj h1; exact Heap.lt_size e1
        · rw [q]; obtain ⟨_, e2, _⟩ := itB_obj h2; exact Heap.lt_size e2
      rw [upd_ne (Nat.ne_of_lt hlt)]
      exact (hf c hcm).1
  done := by
    intro X hP hw hK hc i pins s σ H E I hf st hg
    subst hP hw hK
    obtain ⟨hz, hTI, ⟨x0, y0, hTO⟩, h1, h2⟩ := st
    obtain ⟨xs, ys, hqx, hqy, hend⟩ := hg
    obtain ⟨its, rv, p, _⟩ := seB_of I hqx
    obtain ⟨its2, rv2, p2, _⟩ := seB_of I hqy
    have l1 := rv.length
    have l2 := rv2.length
    exact wpAny_pyNext_zipD2_end D (drawsB (A := X.A.in1) b1 (I.ok.hd hc) i1 a ha its.toArray) (drawsB (A := X.A.in1) b2 (I.ok.hd hc) i2 b hb its2.toArray) hz hTI hTO (i := i) ⟨h1, p⟩ ⟨h2, p2⟩ (by rw [List.size_toArray]; omega) (by rw [List.size_toArray]; omega) (by rw [List.size_toArray, List.size_toArray]; omega) fun h' tk hk => ⟨rfl, I.turnedL (t' := tk) (ch := [z, TI, TO, i1, i2]) (fun c o hb q =>
      hk c o (fun q' => hb (by simp [q'])) (fun q' => hb (by simp [q'])) (fun q' => hb (by simp [q'])) (fun q' => hb (by simp [q'])) q) hf⟩
  self := fun A i s Q E st h => wpAny_pyIter_zip st.1 h
/-- triples -/
def ItzB3 (b1 b2 b3 : Bool) (K : PySem.W.Frag) (a b c : Addr) : It :=
  ⟨fun i H => ∃ (xs ys zs : List V), SqB b1 K H a xs ∧ SqB b2 K H b ys ∧ SqB b3 K H c zs ∧ i < xs.length ∧ i < ys.length ∧ i < zs.length,
    fun i H v H' => ∃ T x y z, v = .ref T ∧ H T = none ∧ H' = upd H T (.tup [x, y, z]) ∧ (∀ xs, SqB b1 K H a xs → xs[i]? = some x) ∧ (∀ ys, SqB b2 K H b ys → ys[i]? = some y) ∧ ∀ zs, SqB b3 K H c zs → zs[i]? = some z,
    fun i H => ∃ xs ys zs : List V, SqB b1 K H a xs ∧ SqB b2 K H b ys ∧ SqB b3 K H c zs ∧ i = min xs.length (min ys.length zs.length)⟩
/-! ### the calls -/
theorem mem_le5 {n c : Nat} (h : c ∈ [n + 4, n + 2, n + 3, n, n + 1]) : n ≤ c := by
  simp only [List.mem_cons, List.not_mem_nil, or_false] at h
  omega
theorem sep2 {n a b : Nat} (ha : a < n) (hb : b < n) : ZipSep2 (n + 4) (n + 2) (n + 3) n (n + 1) [n, a] [n + 1, b] := by
  constructor <;> first | exact List.mem_cons_self | (intro h; have h : (_ : Nat) = (_ : Nat) := h; omega) | (intro h; rcases List.mem_cons.mp h with h | h; (have h : (_ : Nat) = (_ : Nat) := h; omega); have h : (_ : Nat) = (_ : Nat) := List.mem_singleton.mp h; omega)
def rZipB (b1 b2 : Bool) (K : PySem.W.Frag) (vs : List V) (H1 : Hp) (R : It → Hp → Prop) : Prop := ∃ a b xs ys, vs = [.ref a, .ref b] ∧ SqB b1 K H1 a xs ∧ SqB b2 K H1 b ys ∧ R (ItzB b1 b2 K a b) H1
theorem q_zipB {X : Cx} (K : PySem.W.Frag) (b1 b2 : Bool) {e e2 : Expr} {ta : TA} {p pos tpos : Pos} {elts : List Expr} {kk : Nat} (hm : X.mg "zip" = none) (ha : PA X [e, e2] ta) (hg : Gl X "zip" := by rfl) (hs : starEach [e, e2] X.env = (false, eval e X.env) :: starEach [e2] X.env := by rfl) (hs2 : (backTo pos (starEach [e2] X.env)).any (·.1) = false := by rfl) (h : X.K = K := by rfl) :
    PI X (.Tuple elts kk tpos) (.Call (.Name "zip" p) [e, e2] [] pos) (iA (rZipB b1 b2 K) ta) := by
  subst h
  refine ⟨fun pins s σ H R I h => ?_⟩
  refine Call_ (ld_blt I hg hm PyProof.Rows.boot_zip (PyProof.Rows.callWith_type1 (thn (ha.run pos pins s σ H _ I h) fun us s1 ⟨vs, H1, I1, r1, q1⟩ => ?_) hs hs2))
  obtain ⟨a, b, xs, ys, rfl, hqx, hqy, q⟩ := q1
  cases r1 with
  | cons r rr =>
    cases rr with
    | cons r' rr =>
      cases rr
      cases r
      cases r'
      obtain ⟨its, rv, p1, lt1⟩ := seB_of I1 hqx
      obtain ⟨its2, rv2, p2, lt2⟩ := seB_of I1 hqy
      refine zip_begins2 (beginsB b1 a its.toArray) (beginsB b2 b its2.toArray) p1 p2 fun h' hz hTI hTO h1 h2 hsz hk => wpAny_pyIter_zip hz ?_
      have I2 : Inv X pins σ H1 { s1 with heap := h' } := I1.kept (t' := s1.toks) hk
      refine ⟨s1.heap.objs.size + 4, [s1.heap.objs.size + 4, s1.heap.objs.size + 2, s1.heap.objs.size + 3, s1.heap.objs.size, s1.heap.objs.size + 1], _, _, H1, rfl, I2, turn_zipB (sep2 lt1 lt2) (Nat.ne_of_lt lt1) (Nat.ne_of_lt (Nat.lt_succ_of_lt lt2)), ⟨hz, hTI, ⟨_, _, hTO⟩, itB_new h1, itB_new h2⟩, fun c hcm => ?_, q⟩
      · have hle : s1.heap.objs.size ≤ c := by
          exact mem_le5 hcm
        exact I1.fpOk hle (I1.hok.fresh hle)
def rZipB3 (b1 b2 b3 : Bool) (K : PySem.W.Frag) (vs : List V) (H1 : Hp) (R : It → Hp → Prop) : Prop := ∃ a b c xs ys zs, vs = [.ref a, .ref b, .ref c] ∧ SqB b1 K H1 a xs ∧ SqB b2 K H1 b ys ∧ SqB b3 K H1 c zs ∧ R (ItzB3 b1 b2 b3 K a b c) H1
/-! ### with data -/
def seqB (b : Bool) (xs : List D) : D := match b with
  | true => .lst xs
  | false => .tup xs
def zip3D (xs ys zs : List D) : List D := (xs.zip (ys.zip zs)).map fun p => D.tup [p.1, p.2.1, p.2.2]
theorem zip3D_len (xs ys zs : List D) : (zip3D xs ys zs).length = min xs.length (min ys.length zs.length) := by unfold zip3D; rw [List.length_map, List.length_zip, List.length_zip]
theorem zip3D_at {xs ys zs : List D} {i : Nat} {x y z : D} (h : xs[i]? = some x) (h' : ys[i]? = some y) (h'' : zs[i]? = some z) : (zip3D xs ys zs)[i]? = some (.tup [x, y, z]) := by
  unfold zip3D
  have e : (xs.zip (ys.zip zs))[i]? = some (x, y, z) := List.getElem?_zip_eq_some.mpr ⟨h, List.getElem?_zip_eq_some.mpr ⟨h', h''⟩⟩
  rw [List.getElem?_map, e]
  rfl
section
variable {K : PySem.W.Frag} {S : Sx} {ρ : List Sl} {Φ : D → Prop} {Ψ : List D → Prop} {tr : TA} {b1 b2 b3 : Bool}
theorem dat_seqB {F : Hp} {b : Bool} {xs : List D} {v : V} (h : Dat K S F (seqB b xs) v) : ∃ a ws, v = .ref a ∧ (∀ H, Same F H → SqB b K H a ws) ∧ Dats K S F xs ws := by
  cases b with
  | true =>
    obtain ⟨a, ws, rfl, h3, h4⟩ := h
    exact ⟨a, ws, rfl, fun H hH => sl_of (hH _ _ h3), h4⟩
  | false =>
    obtain ⟨a, ws, rfl, h3, h4⟩ := h
    exact ⟨a, ws, rfl, fun H hH => st_sm hH h3, h4⟩
theorem walk_zipB {a b : Addr} {xs ys : List V} {n : Nat} (hn : n = min xs.length ys.length) : Walk (ItzB b1 b2 K a b) n (fun H => SqB b1 K H a xs ∧ SqB b2 K H b ys) (YPair (fun i => xs[i]?) (fun i => ys[i]?)) := by
  subst hn
  refine ⟨fun i _ hi q => ⟨xs, ys, q.1, q.2, by omega, by omega⟩, fun _ q => ⟨xs, ys, q.1, q.2, rfl⟩, fun i H v H' _ q y => ?_⟩
  obtain ⟨T, x, y, h1, h2, h3, h4, h5⟩ := y
  exact ⟨T, x, y, h1, h2, h3, h4 xs q.1, h5 ys q.2⟩
def YTrip (xs ys zs : Nat → Option V) : Nat → Hp → V → Hp → Prop := fun i H v H' => ∃ T x y z, v = .ref T ∧ H T = none ∧ H' = upd H T (.tup [x, y, z]) ∧ xs i = some x ∧ ys i = some y ∧ zs i = some z
theorem walk_zipB3 {a b c : Addr} {xs ys zs : List V} {n : Nat} (hn : n = min xs.length (min ys.length zs.length)) : Walk (ItzB3 b1 b2 b3 K a b c) n (fun H => SqB b1 K H a xs ∧ SqB b2 K H b ys ∧ SqB b3 K H c zs) (YTrip (fun i => xs[i]?) (fun i => ys[i]?) (fun i => zs[i]?)) := by
  subst hn
  refine ⟨fun i _ hi q => ⟨xs, ys, zs, q.1, q.2.1, q.2.2, by omega, by omega, by omega⟩, fun _ q => ⟨xs, ys, zs, q.1, q.2.1, q.2.2, rfl⟩, fun i H v H' _ q y => ?_⟩
  obtain ⟨T, x, y, z, h1, h2, h3, h4, h5, h6⟩ := y
  exact ⟨T, x, y, z, h1, h2, h3, h4 xs q.1, h5 ys q.2.1, h6 zs q.2.2⟩
theorem itOk_trip {F1 : Hp} {J : It} {its : List D} {f1 f2 f3 : Nat → Option V} (w : Walk J its.length (fun H2 => Same F1 H2) (YTrip f1 f2 f3)) (h : ∀ i v1 v2 v3, i < its.length → f1 i = some v1 → f2 i = some v2 → f3 i = some v3 → ∃ d1 d2 d3, its[i]? = some (.tup [d1, d2, d3]) ∧ Dat K S F1 d1 v1 ∧ Dat K S F1 d2 v2 ∧ Dat K S F1 d3 v3) : ItOk K S F1 J its := by
  refine ⟨_, w, fun i H2 v H3 F2 hi s1 s2 dr y => ?_⟩
  obtain ⟨T, v1, v2, v3, rfl, nT, rfl, e1, e2, e3⟩ := y
  obtain ⟨d1, d2, d3, h1, h2, h3, h4⟩ := h i v1 v2 v3 hi e1 e2 e3
  have nF : F2 T = none := s2.free nT
  have sm : Same F1 (upd F2 T (.tup [v1, v2, v3])) := fun b o q => upd_new (s1 _ _ q) nF
  exact ⟨_, upd F2 T (.tup [v1, v2, v3]), h1, ⟨T, _, rfl, st_of upd_same, v1, _, rfl, Dat.mono sm d1 h2, v2, _, rfl, Dat.mono sm d2 h3, v3, _, rfl, Dat.mono sm d3 h4, rfl⟩, (Ag.refl s2 dr).newF dr nT⟩
theorem ei_zipB (h : EvA K S tr ρ fun zs => ∃ xs ys, zs = [seqB b1 xs, seqB b2 ys] ∧ Ψ (zipD xs ys)) : EvI K S (iA (rZipB b1 b2 K) tr) ρ Ψ := fun σ F H e s dr R q =>
  h σ F H e s dr _ fun vs zs F1 H1 ⟨xs, ys, hx, hΨ⟩ dd g1 => by
    subst hx
    obtain ⟨v, us, rfl, h1, v', us', rfl, h1', h2⟩ := dd
    cases h2
    obtain ⟨a, ws, rfl, h3, h4⟩ := dat_seqB h1
    obtain ⟨b, ws', rfl, h3', h4'⟩ := dat_seqB h1'
    refine ⟨a, b, ws, ws', rfl, h3 _ g1.ok, h3' _ g1.ok, q _ _ F1 H1 hΨ g1 (itOk_pair (f1 := fun i => ws[i]?) (f2 := fun i => ws'[i]?) ((walk_zipB (by rw [zipD_len, h4.length, h4'.length])).mono (fun H hH => ⟨h3 H hH, h3' H hH⟩) fun _ _ _ _ _ _ y => y) fun i v1 v2 hi e1 e2 => ?_)⟩
    obtain ⟨d1, h5, h6⟩ := h4.get' e1
    obtain ⟨d2, h7, h8⟩ := h4'.get' e2
    exact ⟨d1, d2, zipD_at h5 h7, h6, h8⟩
theorem ei_zipB3 (h : EvA K S tr ρ fun zs => ∃ xs ys ts, zs = [seqB b1 xs, seqB b2 ys, seqB b3 ts] ∧ Ψ (zip3D xs ys ts)) : EvI K S (iA (rZipB3 b1 b2 b3 K) tr) ρ Ψ := fun σ F H e s dr R q =>
  h σ F H e s dr _ fun vs zs F1 H1 ⟨xs, ys, ts, hx, hΨ⟩ dd g1 => by
    subst hx
    obtain ⟨v, us, rfl, h1, v', us', rfl, h1', v'', us'', rfl, h1'', h2⟩ := dd
    cases h2
    obtain ⟨a, ws, rfl, h3, h4⟩ := dat_seqB h1
    obtain ⟨b, ws', rfl, h3', h4'⟩ := dat_seqB h1'
    obtain ⟨c, ws'', rfl, h3'', h4''⟩ := dat_seqB h1''
    refine ⟨a, b, c, ws, ws', ws'', rfl, h3 _ g1.ok, h3' _ g1.ok, h3'' _ g1.ok, q _ _ F1 H1 hΨ g1 (itOk_trip (f1 := fun i => ws[i]?) (f2 := fun i => ws'[i]?) (f3 := fun i => ws''[i]?) ((walk_zipB3 (by rw [zip3D_len, h4.length, h4'.length, h4''.length])).mono (fun H hH => ⟨h3 H hH, h3' H hH, h3'' H hH⟩) fun _ _ _ _ _ _ y => y) fun i v1 v2 v3 hi e1 e2 e3 => ?_)⟩
    obtain ⟨d1, h5, h6⟩ := h4.get' e1
    obtain ⟨d2, h7, h8⟩ := h4'.get' e2
    obtain ⟨d3, h9, h10⟩ := h4''.get' e3
    exact ⟨d1, d2, d3, zip3D_at h5 h7 h9, h6, h8, h10⟩
end
section
variable {K : PySem.W.Frag} {S : Sx} {ρ : List Sl} {O : Oc} {i j : Nat} {ta tb : TE}
/-- x, y = a value, a new list -/
theorem ex_parVN (hij : i ≠ j) (hi : i < ρ.length) (hj : j < ρ.length) (h : EvD K S ta ρ fun x => EvN K S tb ρ fun es => O.nx ((ρ.set i (.val x)).set j (.own es))) :
    ExD K S (tPar i j (tCons ta (tCons tb tNil))) ρ O := fun F0 H0 σ F H e o a d0 E f =>
  h σ F H e a.ok a.dr _ fun v x F1 H1 hd dx g1 => hd σ F1 H1 (e.ag g1) g1.ok g1.dr _ fun q us es F2 H2 hO n2 nF2 hl2 dd2 g2 => by
    refine ⟨v, .ref q, rfl, ?_⟩
    have g := g1.trans g2 a.dr
    have e1 := (e.ag g).set (i := i) (Dat.mono g2.fs x dx)
    exact f.nx _ _ F2 H2 hO (EnvOk.new e1 (by rw [List.length_set, e.len]; exact hj) (fun k s hk => (EnvOk.set (i := i) (e.ag g1) dx).fresh n2 k s hk) ⟨q, us, rfl, ⟨nF2, g1.dr.1.ne n2⟩, hl2, dd2⟩) ((o.set).new ((a.trans g1 d0).backN n2)) (a.trans g d0)
end
end
/-! None or not. -/
section
set_option maxRecDepth 100000
set_option maxHeartbeats 2000000
/-- is None, is not None -/
def D.nn : D → Bool
  | .bl _ => true | .int _ => true | .str _ => true | .tup _ => true | .lst _ => true | .ins _ _ _ => true | .dk _ _ => true
  | _ => false
theorem Dat.nn {K : PySem.W.Frag} {S : Sx} {F : Hp} {v : V} : ∀ {d : D}, d.nn = true → Dat K S F d v → v ≠ .non
  | .bl _, _, h => by cases h; exact fun z => nomatch z
  | .int _, _, h => by cases h; exact fun z => nomatch z
  | .str _, _, h => by cases h; exact fun z => nomatch z
  | .tup _, _, ⟨a, _, e, _⟩ => by rw [e]; exact fun z => nomatch z
  | .lst _, _, ⟨a, _, e, _⟩ => by rw [e]; exact fun z => nomatch z
  | .ins _ _ _, _, ⟨a, _, _, e, _⟩ => by rw [e]; exact fun z => nomatch z
  | .dk _ _, _, ⟨a, _, e, _⟩ => by rw [e]; exact fun z => nomatch z
section
variable {K : PySem.W.Frag} {S : Sx} {Φ : D → Prop} {d : D}
theorem od_isN0 (k : Φ (.bl true)) : OpD K S (fun x y H Q => y = V.non ∧ Q (V.bl (decide (x = V.non))) H) .non .non Φ := fun u w F H s dr h1 h2 Q q => by
  cases h1; cases h2
  exact ⟨rfl, by rw [decide_eq_true rfl]; exact q _ _ F H k rfl (Ag.refl s dr)⟩
theorem od_notN0 (k : Φ (.bl false)) : OpD K S (fun x y H Q => y = V.non ∧ Q (V.bl (!decide (x = V.non))) H) .non .non Φ := fun u w F H s dr h1 h2 Q q => by
  cases h1; cases h2
  exact ⟨rfl, by rw [decide_eq_true rfl]; exact q _ _ F H k rfl (Ag.refl s dr)⟩
theorem od_isN1 (h : d.nn = true) (k : Φ (.bl false)) : OpD K S (fun x y H Q => y = V.non ∧ Q (V.bl (decide (x = V.non))) H) d .non Φ := fun u w F H s dr h1 h2 Q q => by
  cases h2
  exact ⟨rfl, by rw [decide_eq_false (Dat.nn h h1)]; exact q _ _ F H k rfl (Ag.refl s dr)⟩
theorem od_notN1 (h : d.nn = true) (k : Φ (.bl true)) : OpD K S (fun x y H Q => y = V.non ∧ Q (V.bl (!decide (x = V.non))) H) d .non Φ := fun u w F H s dr h1 h2 Q q => by
  cases h2
  exact ⟨rfl, by rw [decide_eq_false (Dat.nn h h1)]; exact q _ _ F H k rfl (Ag.refl s dr)⟩
end
end
/-! Errors of own classes with two fields. -/
section
set_option maxRecDepth 100000
set_option maxHeartbeats 4000000
open PySem PySem.Spec PyProof.Rows L2
/-- the body: super().__init__(f, g); self.f = f; self.g = g -/
abbrev xiBody2 (f g : Str) (p0 p1 p2 p3 q3 p4 p5 p6 p7 p8 p9 p10 p11 p12 p13 : Pos) : List Stmt :=
  [.Expr (.Call (.Attribute (.Call (.Name "super" p0) [] [] p1) "__init__" p2) [.Name f p3, .Name g q3] [] p4) p5, .Assign [.Attribute (.Name "self" p6) f p7] (.Name f p8) p9, .Assign [.Attribute (.Name "self" p10) g p11] (.Name g p12) p13]
abbrev xiCx2 (P : Program) (w : World) (K : PySem.W.Frag) (mg : Str → Option Value) (base : Heap) (f g q : Str) (scope : Scope) (fI cda cc : Addr) (A : Around) (outer : List Env) (s : Shared) (H : Hp) : Cx where
  prog := P
  w := w
  K := K
  mg := mg
  base := base
  A := A.deeper (xiEnv q scope s.heap.objs.size fI cda cc)
  N := ["self", f, g]
  s_0 := s
  H_0 := H
  env := xiEnv q scope s.heap.objs.size fI cda cc
  outer := outer
  stack := xiEnv q scope s.heap.objs.size fI cda cc :: outer
  ex := []
  fn := fun _ => false
  calm := true
  pn := []
  xe := fun _ _ => False
/-- the names of such an __init__ -/
structure XiS2 (f g : Str) (scope : Scope) : Prop where
  kind : scope.kind = .function
  co : scope.isCoroutine = false
  gen : scope.isGenerator = false
  cell : ∀ y ∈ scope.names, y.2 ≠ .cell
  free : ∀ y ∈ scope.names, y.2 = .free → y.1 = "__class__"
  sup : scope.names.lookup ("super" : Str) = some .globalImplicit
  cls : scope.names.lookup ("__class__" : Str) = some .free
  slf : scope.names.lookup ("self" : Str) = some .local
  fld : scope.names.lookup f = some .local
  fld2 : scope.names.lookup g = some .local
  ne : f ≠ "self"
  ne2 : g ≠ "self"
  nfg : f ≠ g
section
variable {P : Program} {w : World} {K : PySem.W.Frag} {mg : Str → Option Value} {base : Heap} {C fI cc cda : Addr} {f g q : Str} {scope : Scope}
theorem xi_inv2 {A : Around} {outer : List Env} {s : Shared} {H : Hp} {h₁ : Heap} {tk : Nat} {a : Addr} {v z0 : V} {u u2 : Value} {oc : Value} {od : Option Addr} {osl : Array (Option Value)} (S : XiS2 f g scope) (hr : Room 1 A) (e0 : Env0 P w K mg base A outer s H)
    (hcc : K.lookup cc = some ⟨oc, od, .cell (some (.ref C)), osl⟩) (r : RelV v u) (r2 : RelV z0 u2) (hns : h₁.Ns s.heap.objs.size fun y => (([("self", Value.ref a), (f, u), (g, u2)] : List (Str × Value)).reverse).lookup y) (kp : ∀ b o, s.heap.get? b = some o → h₁.get? b = some o) :
    Inv (xiCx2 P w K mg base f g q scope fI cda cc A outer s H) [] [some (.ref a), some v, some z0] H { s with heap := h₁, toks := tk } := by
  have KB : base.get? cc = some _ := e0.mod.kin _ _ hcc
  obtain ⟨gc, hc0⟩ := e0.bs _ _ KB
  have ccl : ∀ {y : Str} {c : Addr}, ([(("__class__" : Str), cc)] : List (Str × Addr)).lookup y = some c → y = "__class__" ∧ c = cc := fun {y c} e => by
    rw [List.lookup_cons] at e
    by_cases h : y = "__class__"
    · subst h
      simp at e
      exact ⟨rfl, e.symm⟩
    · have : (y == ("__class__" : Str)) = false := by simpa using h
      rw [this] at e
      cases e
  have noA : ∀ b : Addr, b ∉ (xiCx2 P w K mg base f g q scope fI cda cc A outer s H).ex := fun b z => absurd (show b ∈ ([] : List Addr) from z) (by simp)
  have vis : ∀ {y : Str}, scope.names.lookup y = some .cell → False := fun {y} h => S.cell _ (PySem.mem_of_lookup h) rfl
  refine ⟨⟨e0.mod, S.kind, rfl, rfl, Nat.le_refl _, fun y z c e1 e2 => (ccl e1).1.trans (ccl e2).1.symm, fun y hy => ?_, fun y c z _ => ?_, fun _ => hr.hd, Around.frames_deeper e0.frames, .inr ⟨rfl, rfl⟩, fun b z => absurd z (noA b), e0.bs, e0.bsz, fun b _ _ => noA b,
      fun b z => absurd z (noA b), e0.funs, e0.frf⟩, rfl, e0.bare, Un.kept kp, ⟨_, hns, fun i y z e1 e2 e3 => ?_⟩, fun y c e => ?_, e0.hok.fresh (Nat.le_refl _), fun y c e => ?_, fun p hp => absurd (show p ∈ ([] : List (Addr × Obj)) ++ [] from hp) (by simp), e0.hok.kept kp, rfl⟩
  · rcases hy with hy | hy
    · exact (vis hy).elim
    · have := S.free _ (PySem.mem_of_lookup hy) rfl
      have e : y = "__class__" := this
      subst e
      exact ⟨cc, by rfl⟩
  · have z' : false = true := z
    cases z'
  · match i, e1, e2 with
    | 0, e1, e2 =>
      cases e1; cases e2
      refine ⟨.ref a, rfl, .inl ⟨S.slf, ?_⟩⟩
      show ([(g, u2), (f, u), ("self", Value.ref a)] : List (Str × Value)).lookup ("self" : Str) = _
      have h1 : (("self" : Str) == g) = false := by simpa using fun z => S.ne2 z.symm
      have h2 : (("self" : Str) == f) = false := by simpa using fun z => S.ne z.symm
      rw [List.lookup_cons, h1, List.lookup_cons, h2]
      rfl
    | 1, e1, e2 =>
      cases e1; cases e2
      refine ⟨u, r, .inl ⟨S.fld, ?_⟩⟩
      show ([(g, u2), (f, u), ("self", Value.ref a)] : List (Str × Value)).lookup f = _
      have h1 : (f == g) = false := by simpa using S.nfg
      rw [List.lookup_cons, h1, List.lookup_cons]
      simp
    | 2, e1, e2 =>
      cases e1; cases e2
      refine ⟨u2, r2, .inl ⟨S.fld2, ?_⟩⟩
      show ([(g, u2), (f, u), ("self", Value.ref a)] : List (Str × Value)).lookup g = _
      rw [List.lookup_cons]
      simp
    | i + 3, e1, e2 => cases e1
  · obtain ⟨_, rfl⟩ := ccl e
    exact ⟨_, _, kp _ _ gc, rfl⟩
  · obtain ⟨_, rfl⟩ := ccl e
    exact hc0
/-- the promise of such an __init__ -/
def spXi2 (C : Addr) (f g : Str) : Sp := fun vs H Q _ => ∃ (a : Addr) (v z0 : V), vs = [.ref a, v, z0] ∧ H a = some (exo a C none) ∧ ∀ dx, H dx = none → dx ≠ a → Q .non (upd (upd (upd H dx (exd dx [(f, v)])) a (exo a C (some dx))) dx (exd dx [(g, z0), (f, v)]))
theorem xi_fn2 {params : Arguments} {p0 p1 p2 p3 q3 p4 p5 p6 p7 p8 p9 p10 p11 p12 p13 : Pos} {dV kV doc pm ct oc oc2 oc3 : Value} {an od od2 od3 : Option Addr} {osl osl2 osl3 : Array (Option Value)} {vs : Array Value} {file : Str} {tf : Tok} {ar : Arg}
    (S : XiS2 f g scope) (T : OexC K C) (hno : PySem.W.findIn K (.ref C) f = some none) (hno2 : PySem.W.findIn K (.ref C) g = some none)
    (lk : K.lookup fI = some ⟨oc, od, .func (PySem.W.ksFn "__init__" q params (xiBody2 f g p0 p1 p2 p3 q3 p4 p5 p6 p7 p8 p9 p10 p11 p12 p13) scope dV kV doc pm an (.ref cda) ct cc), osl⟩) (hcd : PySem.W.codeIn K (.ref cda) q = true)
    (hcc : K.lookup cc = some ⟨oc2, od2, .cell (some (.ref C)), osl2⟩) (hco : K.lookup cda = some ⟨oc3, od3, .fields vs, osl3⟩) (hvs : vs[2]? = some (.str file tf)) (hfile : ((P.main.file : Str) == file) = true)
    (htop : (P.main.scope.names.lookup ("super" : Str)).isSome = false) (hmg : mg "super" = none) (hsi : PySem.W.ks_superIn K C C "__init__" = some (some (.builtin "ValueError.__init__"))) (hop : PySem.W.nsIn K cStatics "thirdparty.any" = some none)
    (hsV : PySem.W.subIn K (.ref C) (.type "ValueError") = some true) (hsC : PySem.W.mroIn K C (.ref C) = some true) (hp : (params.posonlyargs ++ params.args).head? = some ar) (har : ar.arg = "self") {pl : Env → Sem Bool}
    (hev : ∀ env : Env, eval (.Call (.Attribute (.Call (.Name "super" p0) [] [] p1) "__init__" p2) [.Name f p3, .Name g q3] [] p4) env = (do
      let ov ← attributeBase (.Call (.Name "super" p0) [] [] p1) "__init__" env (eval (.Call (.Name "super" p0) [] [] p1) env)
      standAt p2.atName
      let (g', first) ← holding [ov] (getMethod ov "__init__" (pl env))
      callWith p4 g' first (backTo p4 (starEach [.Name f p3, .Name g q3] env)) []))
    (hsw : ∀ env : Env, swapsWith (.Call (.Attribute (.Call (.Name "super" p0) [] [] p1) "__init__" p2) [.Name f p3, .Name g q3] [] p4) none p5.line env = pure false) (hsw2 : ∀ env : Env, swapsWith (.Name f p8) (some (.Attribute (.Name "self" p6) f p7)) p9.line env = pure false) (hsw3 : ∀ env : Env, swapsWith (.Name g p12) (some (.Attribute (.Name "self" p10) g p11)) p13.line env = pure false)
    (hdb : (f == ("__debug__" : Str)) = false) (hcdx : (f == ("__classdict__" : Str)) = false) (hdb2 : (g == ("__debug__" : Str)) = false) (hcdx2 : (g == ("__classdict__" : Str)) = false) :
    FnOk P w K mg base CX0 1 fI (PySem.W.ksFn "__init__" q params (xiBody2 f g p0 p1 p2 p3 q3 p4 p5 p6 p7 p8 p9 p10 p11 p12 p13) scope dV kV doc pm an (.ref cda) ct cc) ["self", f, g] (spXi2 C f g) := by
  refine ⟨fun vs H Q E h => by obtain ⟨_, _, _, rfl, _⟩ := h; rfl, fun A outer s H args us vs' Q E hr e0 hb r h => ?_⟩
  obtain ⟨a, v, z0, rfl, ea, k⟩ := h
  cases r with
  | cons r1 r2 =>
    cases r2 with
    | @cons _ u _ _ rv r3 =>
     cases r3 with
     | @cons _ u2 _ _ rv2 r4 =>
      cases r4
      cases r1
      have KX : K.In s.heap := e0.mod.kin.keeps fun b o e => (e0.bs b o e).1
      have lim : s.heap.NoLimit := e0.mod.nolimit.keeps fun b o e => (e0.bs b o e).1
      refine ks_codeAny_call_defAt (binds := [("self", .ref a), (f, u), (g, u2)]) hr.depth (KX _ _ lk) rfl lim (PySem.W.codeRec_of KX hcd) rfl hb S.cell (fun y hy => ?_) (fun h₁ hns kp => ?_) S.co S.gen S.kind
      · simp only [List.mem_cons, List.not_mem_nil, or_false] at hy
        rcases hy with rfl | rfl | rfl
        · exact S.slf
        · exact S.fld
        · exact S.fld2
      have I := xi_inv2 (q := q) (fI := fI) (cda := cda) (tk := s.toks + 3) S hr e0 hcc rv rv2 hns kp
      have KX1 : K.In h₁ := KX.keeps kp
      obtain ⟨nm, q', N, bs, bm, sn, sub, ab, col, dd, k0, k1, k2, k3, k5, hC, hbm⟩ := T.cls
      obtain ⟨t1, ho⟩ := exo_at I.hok ea
      have hC1 := KX1 _ _ hC
      obtain ⟨mb, hmb, hbb⟩ := e0.mod.blt
      show _root_.PySem.wpAt (model P w) (xiCx2 P w K mg base f g q scope fI cda cc A outer s H).A (.func _ (xiCx2 P w K mg base f g q scope fI cda cc A outer s H).env) (execs _ (xiCx2 P w K mg base f g q scope fI cda cc A outer s H).env) _ _ _
      refine ks_wpAt_execs_cons (ks_wpAt_Expr_any (ks_wpAt_MethodCall (pl := pl (xiCx2 P w K mg base f g q scope fI cda cc A outer s H).env) ?_ (hev _)) (by unfold interactive; rw [show (xiCx2 P w K mg base f g q scope fI cda cc A outer s H).env.scope.kind = .function from S.kind]; rfl) (hsw _))
      refine ks_wpAt_super_base (f := fI) (cc := cda) S.sup S.cls (by decide) rfl (KX1 _ _ lk) rfl hp rfl (KX1 _ _ hco) rfl hvs hfile htop ?_
      refine PySem.W.ks_loadName_global S.kind S.sup (Calls.loadGlobal_builtin (env := (xiCx2 P w K mg base f g q scope fI cda cc A outer s H).env) (I.mod.glob.keeps I.bk) hmg (hmb.keeps I.bk) ((hbb _ (by decide +kernel)).trans (by rfl)) ⟨rfl, ?_⟩)
      refine wpAny_loadName_free S.kind S.cls rfl ⟨_, KX1 _ _ hcc, rfl⟩ ?_
      rw [har]
      have hself : (fun y => (([("self", Value.ref a), (f, u), (g, u2)] : List (Str × Value)).reverse).lookup y) "self" = some (.ref a) := by
        show ([(g, u2), (f, u), ("self", Value.ref a)] : List (Str × Value)).lookup ("self" : Str) = _
        have h1 : (("self" : Str) == g) = false := by simpa using fun z => S.ne2 z.symm
        have h2 : (("self" : Str) == f) = false := by simpa using fun z => S.ne z.symm
        rw [List.lookup_cons, h1, List.lookup_cons, h2]
        rfl
      have hfld : (fun y => (([("self", Value.ref a), (f, u), (g, u2)] : List (Str × Value)).reverse).lookup y) f = some u := by
        show ([(g, u2), (f, u), ("self", Value.ref a)] : List (Str × Value)).lookup f = _
        have h1 : (f == g) = false := by simpa using S.nfg
        rw [List.lookup_cons, h1, List.lookup_cons]
        simp
      have hfld2 : (fun y => (([("self", Value.ref a), (f, u), (g, u2)] : List (Str × Value)).reverse).lookup y) g = some u2 := by
        show ([(g, u2), (f, u), ("self", Value.ref a)] : List (Str × Value)).lookup g = _
        rw [List.lookup_cons]
        simp
      refine wpAny_loadName_local S.kind S.slf hns hself ?_
      refine ks_wpAny_isType_cls hC1 rfl ⟨rfl, ?_⟩
      refine ks_wpAny_call_super hC1 rfl ho rfl (fun c e => nomatch e) (PySem.W.looks_mroIn KX1 hsC) (fun h2 hso kp2 => ?_)
      have KX2 : K.In h2 := KX1.keeps kp2
      have hcl : PySem.W.clsIn K C = some { name := nm, bases := bs, mro := .ref C :: bm, ns := N, qualname := q', hasDict := true, slotNames := sn, subclasses := sub, abstract := ab, collection := col, hasDel := false } := by
        unfold PySem.W.clsIn
        rw [hC]
      have hm : PySem.W.alongIn K "__init__" (((Value.ref C :: bm).dropWhile (· != .ref C)).drop 1) = some (some (.builtin "ValueError.__init__")) := by
        have z := hsi
        unfold PySem.W.ks_superIn at z
        rw [hcl] at z
        exact z
      have ho2 := kp2 _ _ ho
      have J2 : PySem.W.InstAt h2 a (PySem.HandSPX.excO C t1) C none := ⟨ho2, rfl, rfl, trivial⟩
      refine PySem.W.kxs_getMethod PySem.W.kxs_ValueError hso (PySem.W.looks_opaque KX2 hop) (l₀ := .ref C :: bm) (fun A Q E s k q => wpAny_bind ((PySem.W.looks_clsIn KX2 hcl) A _ E s k (wpAny_pure q))) rfl KX2 hm (J2.type.andThen (PySem.W.looks_subIn KX2 hsV)) (PySem.W.ks_ne KX2 J2 hcl) (by decide) ?_
      have kp3 : ∀ b o, h₁.get? b = some o → (h2.push (PySem.W.kxs_mw "ValueError.__init__" a)).get? b = some o := fun b o e => Heap.get?_push_of_some _ (kp2 b o e)
      have I3 := I.kept (t' := s.toks + 3 + 1) kp3
      have hu : (h2.push (PySem.W.kxs_mw "ValueError.__init__" a)).get? h2.objs.size = some (PySem.W.kxs_mw "ValueError.__init__" a) := Heap.get?_push_size _ rfl
      refine PySem.W.kxs_callWith (i := "ValueError.__init__") (x := a) (by rfl) (Calls.evalArgs_plain ?_)
      show wpAny _ _ (spliced ((false, eval (.Name f p3) _) :: backTo p4 (starEach [.Name g q3] _))) _ _ _
      refine Calls.spliced_cons (wpAny_Name (wpAny_loadName_local S.kind S.fld (hns.keeps kp3) hfld ?_) hdb)
      show wpAny _ _ (spliced ((false, eval (.Name g q3) _) :: backTo p4 (starEach [] _))) _ _ _
      refine Calls.spliced_cons (wpAny_Name (wpAny_loadName_local S.kind S.fld2 (hns.keeps kp3) hfld2 ?_) hdb2)
      refine Calls.spliced_nil ⟨hu, ?_⟩
      show wpAny _ _ (call (.ref h2.objs.size) [u, u2]) _ _ _
      refine xi_call (C := C) (KX2.keeps (fun b o e => Heap.get?_push_of_some _ e) _ _ hC) (Heap.get?_push_of_some _ ho2) hu (by show 2 ≤ sizeLine; rw [sizeLine_eq]; omega) fun h4 t2 kp4 ho4 => ?_
      have J := I3.write (t' := s.toks + 3 + 1) (x := a) (e := a) (o := exo a C none) (by rw [ea]; exact True.intro) (.inl rfl) kp4 ⟨_, ho4⟩ (exo_ok ho4)
      have eu : upd H a (exo a C none) = H := by
        funext b
        by_cases hb : b = a
        · rw [hb, upd_same, ea]
        · rw [upd_ne hb]
      rw [eu] at J
      refine PySem.wpAt_of_wpAny ?_
      have PO : PS (xiCx2 P w K mg base f g q scope fI cda cc A outer s H) (.Assign [.Attribute (.Name "self" p6) f p7] (.Name f p8) p9) (tOst K f (tVar 0) (tVar 1)) :=
        ps_ost (X := xiCx2 P w K mg base f g q scope fI cda cc A outer s H) (pe_var (i := 0) rfl (.inl S.slf)) (pe_var (i := 1) rfl (.inl S.fld) hdb hcdx) (hsw2 _)
      have PO2 : PS (xiCx2 P w K mg base f g q scope fI cda cc A outer s H) (.Assign [.Attribute (.Name "self" p10) g p11] (.Name g p12) p13) (tOst K g (tVar 0) (tVar 2)) :=
        ps_ost (X := xiCx2 P w K mg base f g q scope fI cda cc A outer s H) (pe_var (i := 0) rfl (.inl S.slf)) (pe_var (i := 2) rfl (.inl S.fld2) hdb2 hcdx2) (hsw3 _)
      refine wpAny_mono ((pss_cons PO (pss_one PO2)).run [] _ [some (.ref a), some v, some z0] H { nx := fun _ H' => Q .non H', rt := Q } J ?_) (fun fl s' hq => ?_) (fun e s' hq => (show False from hq).elim)
      · refine ⟨v, rfl, .ref a, rfl, a, C, rfl, T, hno, .inl ⟨ea, fun dx n ne => ?_⟩⟩
        refine ⟨z0, rfl, .ref a, rfl, a, C, rfl, T, hno2, .inr ⟨dx, [(f, v)], upd_same, by rw [upd_ne ne, upd_same], by show 1 ≤ 900; decide, k dx n ne⟩⟩
      · have fin : ∀ {σ' : L2.St} {H' : Hp} {v' : V} {u' : Value}, Inv (xiCx2 P w K mg base f g q scope fI cda cc A outer s H) [] σ' H' s' → RelV v' u' → Q v' H' → CE outer P w H s Q u' s' :=
          fun {σ' H' v' u'} J rv q => ⟨v', H', J.os, J.bare, J.base, J.hok, rv, q⟩
        cases fl with
        | ret u' => obtain ⟨v', σ', H', J', rv', q'⟩ := hq; exact fin J' rv' q'
        | next => obtain ⟨σ', H', J', q'⟩ := hq; exact fin (v' := .non) (u' := .none) J' rfl q'
        | brk => obtain ⟨_, _, _, z⟩ := hq; exact z.elim
        | cont => obtain ⟨_, _, _, z⟩ := hq; exact z.elim
/-- what is known of an own error class whose __init__ keeps two fields -/
structure Xc2 (P : Program) (w : World) (K : PySem.W.Frag) (mg : Str → Option Value) (base : Heap) (x : Str) (C : Addr) (f f2 : Str) : Prop where
  g : mg x = some (.ref C)
  oc : OexC K C
  ini : ∃ (fI : Addr) (fd : FuncData), PySem.W.findIn K (.ref C) "__init__" = some (some (.ref fI)) ∧ PySem.W.typeIn K (.ref fI) = some (.type "function") ∧ Binds K fd ["self", f, f2] [] ∧ FnOk P w K mg base CX0 1 fI fd ["self", f, f2] (spXi2 C f f2)
  xf : XfC K C
  nf : PySem.W.findIn K (.ref C) f = some none
  ng : PySem.W.findIn K (.ref C) f2 = some none
  te : PySem.W.exmOne K (.ref C) (.ref C) = some true
theorem xc2_of {x : Str} {st : Stmt} {p0 p1 p2 p3 q3 p4 p5 p6 p7 p8 p9 p10 p11 p12 p13 : Pos} {ar : Arg} {pl : Env → Sem Bool} (D : XiD P K mg x C f q st) (ng : PySem.W.findIn K (.ref C) g = some none)
    (hb : defBody st = xiBody2 f g p0 p1 p2 p3 q3 p4 p5 p6 p7 p8 p9 p10 p11 p12 p13) (S : XiS2 f g (defScope st)) (hp : ((defArgs st).posonlyargs ++ (defArgs st).args).head? = some ar) (har : ar.arg = "self")
    (hbind : ∀ (b : List Stmt) (kV doc pm : Value) (an : Option Addr) (cdv ct : Value) (cc : Addr) (us : List Value), us.length = 3 → bindArgs (PySem.W.ksFn "__init__" q (defArgs st) b (defScope st) .none kV doc pm an cdv ct cc) ⟨us, []⟩ = pure ((["self", f, g] : List Str).zip us))
    (hev : ∀ env : Env, eval (.Call (.Attribute (.Call (.Name "super" p0) [] [] p1) "__init__" p2) [.Name f p3, .Name g q3] [] p4) env = (do
      let ov ← attributeBase (.Call (.Name "super" p0) [] [] p1) "__init__" env (eval (.Call (.Name "super" p0) [] [] p1) env)
      standAt p2.atName
      let (g', first) ← holding [ov] (getMethod ov "__init__" (pl env))
      callWith p4 g' first (backTo p4 (starEach [.Name f p3, .Name g q3] env)) []))
    (hsw : ∀ env : Env, swapsWith (.Call (.Attribute (.Call (.Name "super" p0) [] [] p1) "__init__" p2) [.Name f p3, .Name g q3] [] p4) none p5.line env = pure false) (hsw2 : ∀ env : Env, swapsWith (.Name f p8) (some (.Attribute (.Name "self" p6) f p7)) p9.line env = pure false) (hsw3 : ∀ env : Env, swapsWith (.Name g p12) (some (.Attribute (.Name "self" p10) g p11)) p13.line env = pure false)
    (hdb : (f == ("__debug__" : Str)) = false) (hcdx : (f == ("__classdict__" : Str)) = false) (hdb2 : (g == ("__debug__" : Str)) = false) (hcdx2 : (g == ("__classdict__" : Str)) = false) : Xc2 P w K mg base x C f g := by
  obtain ⟨fI, cc, cda, kV, doc, pm, ct, oc, oc2, oc3, an, od, od2, od3, osl, osl2, osl3, vs, file, tf, h1, h2, lk, hcd, hcc, hco, hvs, hfl⟩ := D.fn
  rw [hb] at lk
  exact ⟨D.g, D.oc, ⟨fI, _, h1, h2, .all fun us hl => hbind _ kV doc pm an _ ct cc us hl, xi_fn2 S D.oc D.nf ng lk hcd hcc hco hvs hfl D.top D.sup D.si D.op D.sV D.sC hp har hev hsw hsw2 hsw3 hdb hcdx hdb2 hcdx2⟩, D.xf, D.nf, ng, D.te⟩
/-- raise X(e, d) -/
def tRe2 (C : Addr) (f g : Str) (E : XK) (te tu : TE) : TS := fun _ σ H => tMkO C (spXi2 C f g) [] (tCons te (tCons tu tNil)) σ H fun cls d H' => E cls d H'
end
section
variable {X : Cx} {j : Nat} {x f g : Str} {C : Addr} {p pos pos2 : Pos} {e d : Expr} {te tu : TE} {E : XK}
theorem ps_re2 (hc : X.calm = true) (T : Xc2 X.prog X.w X.K X.mg X.base x C f g) (hr : Room j X.A) (tk : TkE X E) (he : PE X e te) (hd : PE X d tu) (hk : 2 ≤ j := by decide) (hg : Gl X x := by rfl) (hdb : (x == ("__debug__" : Str)) = false := by decide)
    (hst : starEach [e, d] X.env = (false, eval e X.env) :: starEach [d] X.env := by rfl) (hst2 : starEach [d] X.env = (false, eval d X.env) :: starEach [] X.env := by rfl) (hpl : (backTo pos (starEach [d] X.env)).any (·.1) = false := by rfl) : PS X (.Raise (some (.Call (.Name x p) [e, d] [] pos)) none pos2) (tRe2 C f g E te tu) := by
  obtain ⟨fI, fd, h1, h2, h3, h4⟩ := T.ini
  exact ps_raise hc tk (pmk_oex (p := p) (pos := pos) T.oc h1 h2 h4 (hr.mono hk) h3 .nil (fun _ _ _ _ _ _ _ z => False.elim z) hg T.g (pa_cons he (pa_cons hd pa_nil hst2) hst) hdb hst hpl)
end
section
variable {K : PySem.W.Frag} {S : Sx} {ρ : List Sl} {Ψ : Ex → Prop} {O : Oc} {te tu : TE} {E : XK} {C : Addr} {f g : Str} {n : Nat}
theorem ex_re2 (hx : XP K S E Ψ) (h : EvD K S te ρ fun d => EvD K S tu ρ fun d2 => Ψ ⟨C, [g, f], [d2, d]⟩) : ExD K S (tRe2 C f g E te tu) ρ O := fun F0 H0 σ F H e o a d0 En fi =>
  h σ F H e a.ok a.dr _ fun v d F1 H1 hd dd g1 => hd σ F1 H1 (e.ag g1) g1.ok g1.dr _ fun v2 d2 F2 H2 hd2 dd2 g2 => by
    show [v, v2].length ≤ 1000 ∧ ∀ b, H2 b = none → spXi2 C f g (.ref b :: ([v, v2] ++ [])) (upd H2 b (exo b C none)) _ _
    refine ⟨Nat.le_of_ble_eq_true rfl, fun b nb => ⟨b, v, v2, rfl, upd_same, fun dx n ne => ⟨rfl, dx, [(g, v2), (f, v)], ?_, upd_same, new_none n, ?_⟩⟩⟩
    · rw [upd_ne (Ne.symm ne), upd_same]
    have nd : H2 dx = none := new_none n
    have eq : upd (del (upd (upd (upd (upd H2 b (exo b C none)) dx (exd dx [(f, v)])) b (exo b C (some dx))) dx (exd dx [(g, v2), (f, v)])) b) dx (.xd [(g, v2), (f, v)]) = upd H2 dx (.xd [(g, v2), (f, v)]) := by
      funext c
      by_cases q : c = dx
      · rw [q, upd_same, upd_same]
      · rw [upd_ne q, upd_ne q]
        by_cases q2 : c = b
        · rw [q2, del_same, nb]
        · rw [del_ne q2, upd_ne q, upd_ne q2, upd_ne q, upd_ne q2]
    rw [eq]
    have g12 := g1.trans g2 a.dr
    have g3 := g12.newF (o := .xd [(g, v2), (f, v)]) a.dr nd
    have nF : F2 dx = none := g2.ok.free nd
    have m : Same F2 (upd F2 dx (.xd [(g, v2), (f, v)])) := fun c u z => upd_new z nF
    exact hx _ _ ⟨C, [g, f], [d2, d]⟩ (some dx) (g3.dr.now g3.ok) hd2 ⟨[(g, v2), (f, v)], upd_same, rfl, v2, _, rfl, Dat.mono m d2 dd2, Dats.one (Dat.mono (g2.fs.trans m) d dd)⟩
/-- except X as e: found = (word, e.f, e.g) -/
theorem su_f2 {c : Value} {word : Str} {i j : Nat} {d d2 : D} (hij : i ≠ j) (hi : i < n) (hfg : f ≠ g) (k : O.nx ((List.replicate n .un).set j (.val (.tup [.str word, d, d2])))) :
    SuG K S ⟨c, some i, fun a cls dct => tAsg (tTup (tCons (tC (.str word)) (tCons (tXf a cls dct C f (tVar i)) (tCons (tXf a cls dct C g (tVar i)) tNil)))) (gName j)⟩ n ⟨C, [g, f], [d2, d]⟩ O := fun F0 H0 σ F H dct a hσ ok na g9 d0 En fi => by
  cases dct with
  | none => exact absurd ok.1 (by simp)
  | some dx =>
    obtain ⟨fs, h1, h2, h3⟩ := ok
    match fs, h1, h2, h3 with
    | [(g', v2), (f', v)], h1, h2, h3 =>
      have e : g' = g := (List.cons.inj h2).1
      have e' : f' = f := (List.cons.inj (List.cons.inj h2).2).1
      subst e e'
      obtain ⟨w2, _, e1, dv2, w1, _, e3, dv, e4⟩ := h3
      cases e1
      cases e3
      have hs : (σ.set i (some (V.ref a)))[i]? = some (some (V.ref a)) := List.getElem?_set_self (by rw [hσ]; exact hi)
      have hf' : (f' == g') = false := by simpa using hfg
      refine ⟨.ref a, hs, rfl, rfl, dx, _, v, rfl, g9.ok _ _ h1, by rw [List.lookup_cons, hf']; simp [List.lookup_cons], ?_⟩
      refine ⟨.ref a, hs, rfl, rfl, dx, _, v2, rfl, g9.ok _ _ h1, by simp [List.lookup_cons], ⟨by show 3 ≤ sizeLine; decide, fun p np => ?_⟩⟩
      have g2 := g9.newF (o := .tup [.str word, v, v2]) d0 np
      have nF : F p = none := g9.ok.free np
      have m : Same F (upd F p (.tup [.str word, v, v2])) := fun c u z => upd_new z nF
      show En.nx (((σ.set i (some (.ref a))).set j (some (.ref p))).set i none) (upd H p (.tup [.str word, v, v2]))
      rw [List.set_comm _ _ (Ne.symm hij), List.set_set]
      exact fi.nx _ _ _ _ k ((env_un (by rw [List.length_set, hσ])).set (d := .tup [.str word, d, d2]) ⟨p, _, rfl, st_of upd_same, _, _, rfl, rfl, _, _, rfl, Dat.mono m d dv, _, _, rfl, Dat.mono m d2 dv2, rfl⟩) (own_un.set) g2
end
end
/-! Texts split and joined. -/
section
set_option maxRecDepth 100000
set_option maxHeartbeats 2000000
open PySem PySem.Spec PyProof.Rows L2
/-! ### plain -/
/-- a text of one sign -/
def ch (c : Nat) : Str := ⟨#[c]⟩
/-- the sign is not in the text -/
def NoC (c : Nat) (x : Str) : Prop := c ∉ x.cps.toList
theorem cps_inj {a b : Str} (h : a.cps.toList = b.cps.toList) : a = b := PySem.Str.ext' (Array.toList_inj.mp h)
theorem cps_app (a b : Str) : (a ++ b).cps.toList = a.cps.toList ++ b.cps.toList := by rw [PySem.Str.cps_append, Array.toList_append]
theorem app_uniq {c : Nat} : ∀ {a b x y : List Nat}, c ∉ a → c ∉ b → a ++ c :: x = b ++ c :: y → a = b ∧ x = y
  | [], [], x, y, _, _, h => ⟨rfl, (List.cons.inj h).2⟩
  | [], d :: b, x, y, _, h2, h => absurd (by rw [(List.cons.inj h).1]; exact List.mem_cons_self) h2
  | d :: a, [], x, y, h1, _, h => absurd (by rw [← (List.cons.inj h).1]; exact List.mem_cons_self) h1
  | d :: a, e :: b, x, y, h1, h2, h => by
    obtain ⟨e1, e2⟩ := List.cons.inj h
    obtain ⟨e3, e4⟩ := app_uniq (fun m => h1 (List.mem_cons_of_mem _ m)) (fun m => h2 (List.mem_cons_of_mem _ m)) e2
    exact ⟨by rw [e1, e3], e4⟩
theorem join_two (c : Nat) (x y : Str) (r : List Str) : (Str.join (ch c) (x :: y :: r)).cps.toList = x.cps.toList ++ c :: (Str.join (ch c) (y :: r)).cps.toList := by
  show (x ++ ch c ++ Str.join (ch c) (y :: r)).cps.toList = _
  rw [cps_app, cps_app, List.append_assoc]
  rfl
theorem join_uniq {c : Nat} : ∀ {xs ys : List Str}, xs ≠ [] → ys ≠ [] → (∀ p ∈ xs, NoC c p) → (∀ p ∈ ys, NoC c p) → Str.join (ch c) xs = Str.join (ch c) ys → xs = ys
  | [], _, h, _, _, _, _ => absurd rfl h
  | _, [], _, h, _, _, _ => absurd rfl h
  | [x], [y], _, _, _, _, h => by rw [show x = y from h]
  | [x], y :: y2 :: r, _, _, h1, _, h => by
    have e : (Str.join (ch c) [x]).cps.toList = (Str.join (ch c) (y :: y2 :: r)).cps.toList := by rw [h]
    rw [join_two c y y2 r, show (Str.join (ch c) [x]) = x from rfl] at e
    exact absurd (by rw [e]; simp) (h1 x List.mem_cons_self)
  | x :: x2 :: r, [y], _, _, _, h2, h => by
    have e : (Str.join (ch c) (x :: x2 :: r)).cps.toList = (Str.join (ch c) [y]).cps.toList := by rw [h]
    rw [join_two c x x2 r, show (Str.join (ch c) [y]) = y from rfl] at e
    exact absurd (by rw [← e]; simp) (h2 y List.mem_cons_self)
  | x :: x2 :: r, y :: y2 :: r', _, _, h1, h2, h => by
    have e : (Str.join (ch c) (x :: x2 :: r)).cps.toList = (Str.join (ch c) (y :: y2 :: r')).cps.toList := by rw [h]
    rw [join_two c x x2 r, join_two c y y2 r'] at e
    obtain ⟨e1, e2⟩ := app_uniq (h1 x List.mem_cons_self) (h2 y List.mem_cons_self) e
    rw [cps_inj e1, join_uniq (List.cons_ne_nil x2 r) (List.cons_ne_nil y2 r') (fun p hp => h1 p (List.mem_cons_of_mem _ hp)) (fun p hp => h2 p (List.mem_cons_of_mem _ hp)) (cps_inj e2)]
theorem split_ne (x y : Str) : Txt.split x y ≠ [] := fun h => by
  have := split_pos x y
  rw [h] at this
  exact absurd this (by decide)
/-- what was joined is split again -/
theorem split_join {c : Nat} {ps : List Str} (h0 : ps ≠ []) (h : ∀ p ∈ ps, NoC c p) : Txt.split (Str.join (ch c) ps) (ch c) = ps :=
  join_uniq (split_ne _ _) h0 (StrLaws.split_free _ c) h (StrLaws.join_split _ _)
theorem txt_join (a : Str) (ys : List Str) : Txt.join a ys = Str.join a ys := StrLaws.glued_eq_join a ys
/-! ### data -/
abbrev rSplit : V → List V → Hp → VK → Prop := fun x xs H Q => ∃ a b, x = .str a ∧ xs = [.str b] ∧ (b.length == 0) = false ∧ a.length + 2 ≤ sizeLine ∧ rNewStrs (Txt.split a b) H Q
abbrev rJoin (K : PySem.W.Frag) : V → List V → Hp → VK → Prop := fun x xs H Q => ∃ a p, ∃ ys : List Str, x = .str a ∧ xs = [.ref p] ∧ (SqL K H p (ys.map V.str) ∨ SqT K H p (ys.map V.str)) ∧ (ys.map (·.length)).sum + ys.length * a.length ≤ 16777216 ∧ Q (.str (Txt.join a ys)) H
theorem e_join (K : PySem.W.Frag) {X : Cx} {o e : Expr} {to te : TE} {apos pos : Pos} (ho : PE X o to) (he : PE X e te) (hs : starEach [e] X.env = [(false, eval e X.env)] := by rfl) (hbase : attributeBase o "join" X.env (eval o X.env) = eval o X.env := by rfl) (hline : (apos.endLine == pos.line) = true := by rfl) (h : X.K = K := by rfl) :
    PE X (.Call (.Attribute o "join" apos) [e] [] pos) (tM1 (rJoin K) to te) := h ▸ pe_join ho he hs hbase hline
section
variable {K : PySem.W.Frag} {S : Sx} {ρ : List Sl} {Φ : D → Prop} {Ψ : List D → Prop} {te to : TE} {tr : TA}
theorem evN_split (h : EvD K S to ρ fun x => ∃ a, x = .str a ∧ EvD K S te ρ fun y => ∃ b, y = .str b ∧ (b.length == 0) = false ∧ a.length + 2 ≤ sizeLine ∧ Ψ (dS (Txt.split a b))) : EvN K S (tM1 rSplit to te) ρ Ψ := fun σ F H e s dr Q q =>
  h σ F H e s dr _ fun v x F1 H1 ⟨a, ex, hy⟩ dx g1 => by
    subst ex
    cases dx
    refine ⟨⟨a, rfl⟩, hy σ F1 H1 (e.ag g1) g1.ok g1.dr _ fun u y F2 H2 ⟨b, ey, hb, hl, hΨ⟩ dy g2 => ?_⟩
    subst ey
    cases dy
    refine ⟨a, b, rfl, rfl, hb, hl, fun p np => ?_⟩
    have g := g1.trans g2 dr
    have nF : F2 p = none := g2.ok.free np
    exact q p _ _ F2 _ hΨ (g.backN (.of np)) nF upd_same (dats_dS.mpr rfl) (g.newH dr np)
theorem ev_split (h : EvD K S to ρ fun x => ∃ a, x = .str a ∧ EvD K S te ρ fun y => ∃ b, y = .str b ∧ (b.length == 0) = false ∧ a.length + 2 ≤ sizeLine ∧ Φ (.lst (dS (Txt.split a b)))) : EvD K S (tM1 rSplit to te) ρ Φ := ev_new (evN_split h)
theorem ev_join (h : EvD K S to ρ fun x => ∃ a, x = .str a ∧ EvD K S te ρ fun y => ∃ ys : List Str, (y = .lst (dS ys) ∨ y = .tup (dS ys)) ∧ (ys.map (·.length)).sum + ys.length * a.length ≤ 16777216 ∧ Φ (.str (Str.join a ys))) : EvD K S (tM1 (rJoin K) to te) ρ Φ := fun σ F H e s dr Q q =>
  h σ F H e s dr _ fun v x F1 H1 ⟨a, ex, hy⟩ dx g1 => by
    subst ex
    cases dx
    refine ⟨⟨a, rfl⟩, hy σ F1 H1 (e.ag g1) g1.ok g1.dr _ fun u y F2 H2 ⟨ys, ey, hl, hΦ⟩ dy g2 => ?_⟩
    have g := g1.trans g2 dr
    rcases ey with rfl | rfl
    · obtain ⟨p, vs, rfl, h3, h4⟩ := dy
      rw [dats_dS.mp h4] at h3
      exact ⟨a, p, ys, rfl, rfl, .inl (sl_of (g2.ok _ _ h3)), hl, by rw [txt_join]; exact q _ _ F2 H2 hΦ rfl g⟩
    · obtain ⟨p, vs, rfl, h3, h4⟩ := dy
      rw [dats_dS.mp h4] at h3
      exact ⟨a, p, ys, rfl, rfl, .inr (st_sm g2.ok h3), hl, by rw [txt_join]; exact q _ _ F2 H2 hΦ rfl g⟩
end
end
/-! Texts: numbers, signs, slices, repetition. -/
section
set_option maxRecDepth 100000
set_option maxHeartbeats 2000000
open PySem PySem.Spec PyProof.Rows L2
/-! ### the hand layer -/
abbrev rMulS : R2 := fun x y H Q => ∃ (a : Str) (n : Nat), x = .str a ∧ y = .int (n : Int) ∧ n ≤ 100000 ∧ a.length * n ≤ 16777216 ∧ a.length ≤ 100 ∧ Q (.str (Txt.mul a (n : Int))) H
section
variable {X : Cx}
theorem o_muls : OpR X (binaryOp .Mult) rMulS := by
  intro pins s σ H x y u v Q I rx ry h
  obtain ⟨a, n, rfl, rfl, hn, hl, ha, q⟩ := h
  obtain ⟨t, rfl⟩ := rx
  obtain ⟨t2, rfl⟩ := ry
  exact SB.mul (mulOk_of 100 100000 ha (by omega) (by omega) (by decide) (by decide)) fun t' k => ⟨.str _, H, I.tok k, ⟨t', rfl⟩, q⟩
end
/-! ### data -/
section
variable {K : PySem.W.Frag} {S : Sx} {ρ : List Sl} {Φ : D → Prop} {Ψ : List D → Prop} {te to : TE} {tr : TA}
theorem od_muls {z : Str} {n : Nat} (hn : n ≤ 100000) (hl : z.length * n ≤ 16777216) (ha : z.length ≤ 100) (k : Φ (.str (Txt.mul z (n : Int)))) : OpD K S rMulS (.str z) (.int (n : Int)) Φ := fun u w F H s dr h1 h2 Q q => by
  cases h1; cases h2
  exact ⟨z, n, rfl, rfl, hn, hl, ha, q _ _ F H k rfl (Ag.refl s dr)⟩
theorem ev_slS {tl th : TO} (h : EvD K S te ρ fun x => ∃ z : Str, x = .str z ∧ z.length < 100000 ∧ EvO K S tl ρ fun lo => EvO K S th ρ fun hi => Φ (.str (cutS z lo hi))) : EvD K S (tSl rSlS te tl th) ρ Φ := fun σ F H e s dr Q q =>
  h σ F H e s dr _ fun v x F1 H1 ⟨z, hx, hz, hl⟩ dd g1 => by
    subst hx
    cases dd
    refine hl σ F1 H1 (e.ag g1) g1.ok g1.dr _ fun lo F2 H2 h2 g2 => h2 σ F2 H2 ((e.ag g1).ag g2) g2.ok g2.dr _ fun hi F3 H3 h3 g3 => ?_
    exact ⟨z, rfl, szl hz, q _ _ F3 H3 h3 rfl ((g1.trans g2 dr).trans g3 dr)⟩
end
end
/-! Numbers as texts. -/
section
set_option maxRecDepth 100000
set_option maxHeartbeats 2000000
open PySem PySem.Spec PyProof.Rows L2
theorem cps_empty : ("" : Str).cps.toList = [] := by decide +kernel
end
/-! Lines of texts. -/
section
set_option maxRecDepth 100000
set_option maxHeartbeats 2000000
open PySem PySem.Spec PyProof.Rows L2
theorem tl_len (z : Str) : z.length = z.cps.toList.length := by simp [Str.length]
/-! ### runs without line feeds -/
def Ru (n : Nat) (l : List Nat) : Prop := ∀ i m, i + m ≤ l.length → (∀ j, i ≤ j → j < i + m → l[j]? ≠ some 10) → m ≤ n
theorem Ru.le {n m : Nat} {l : List Nat} (h : Ru n l) (hm : n ≤ m) : Ru m l := fun i k h1 h2 => Nat.le_trans (h i k h1 h2) hm
theorem Ru.app {n m : Nat} {x y : List Nat} (hx : Ru n x) (hy : Ru m y) : Ru (n + m) (x ++ y) := by
  intro i k h1 h2
  rw [List.length_append] at h1
  by_cases c1 : i + k ≤ x.length
  · have := hx i k c1 fun j a b => by
      have := h2 j a b
      rwa [List.getElem?_append_left (by omega)] at this
    omega
  · by_cases c2 : x.length ≤ i
    · have := hy (i - x.length) k (by omega) fun j a b => by
        have := h2 (j + x.length) (by omega) (by omega)
        rwa [List.getElem?_append_right (by omega), Nat.add_sub_cancel] at this
      omega
    · have a1 := hx i (x.length - i) (by omega) fun j a b => by
        have := h2 j a (by omega)
        rwa [List.getElem?_append_left (by omega)] at this
      have a2 := hy 0 (i + k - x.length) (by omega) fun j a b => by
        have := h2 (j + x.length) (by omega) (by omega)
        rwa [List.getElem?_append_right (by omega), Nat.add_sub_cancel] at this
      omega
theorem Ru.take {n k : Nat} {x : List Nat} (h : Ru n x) : Ru n (x.take k) := by
  intro i m h1 h2
  rw [List.length_take] at h1
  exact h i m (by omega) fun j a b => by
    have := h2 j a b
    rwa [List.getElem?_take_of_lt (by omega)] at this
theorem Ru.drop {n k : Nat} {x : List Nat} (h : Ru n x) : Ru n (x.drop k) := by
  intro i m h1 h2
  rw [List.length_drop] at h1
  by_cases hm : m = 0
  · omega
  exact h (k + i) m (by omega) fun j a b => by
    have := h2 (j - k) (by omega) (by omega)
    rwa [List.getElem?_drop, show k + (j - k) = j by omega] at this
theorem ru_len {n : Nat} {x : List Nat} (h : x.length ≤ n) : Ru n x := fun i m h1 _ => by omega
/-- every line has at most n signs -/
def LL (n : Nat) (z : Str) : Prop := ∀ p ∈ Txt.split z (ch 10), p.length ≤ n
theorem join_cps1 (c : Nat) (x : Str) : (Str.join (ch c) [x]).cps.toList = x.cps.toList := rfl
theorem factor {c : Nat} : ∀ {ps : List Str} {p : Str}, p ∈ ps → ∃ a b, (Str.join (ch c) ps).cps.toList = a ++ p.cps.toList ++ b
  | [x], p, h => by
    rw [List.mem_singleton.mp h]
    exact ⟨[], [], by simp [join_cps1]⟩
  | x :: y :: r, p, h => by
    rw [join_two]
    rcases List.mem_cons.mp h with rfl | h
    · exact ⟨[], c :: (Str.join (ch c) (y :: r)).cps.toList, by simp⟩
    · obtain ⟨a, b, e⟩ := factor (c := c) h
      rw [e]
      exact ⟨x.cps.toList ++ c :: a, b, by simp⟩
theorem ru_join {n : Nat} : ∀ {ps : List Str}, (∀ p ∈ ps, p.length ≤ n) → Ru n (Str.join (ch 10) ps).cps.toList
  | [], _ => ru_len (by rw [show (Str.join (ch 10) []).cps.toList = [] from cps_empty]; exact Nat.zero_le _)
  | [x], h => ru_len (by rw [join_cps1, ← tl_len]; exact h x List.mem_cons_self)
  | x :: y :: r, h => by
    rw [join_two]
    have hx := h x List.mem_cons_self
    rw [tl_len] at hx
    have ih := ru_join (ps := y :: r) fun p hp => h p (List.mem_cons_of_mem _ hp)
    intro i m h1 h2
    rw [List.length_append, List.length_cons] at h1
    by_cases c1 : i + m ≤ x.cps.toList.length
    · omega
    · by_cases c2 : x.cps.toList.length + 1 ≤ i
      · exact ih (i - (x.cps.toList.length + 1)) m (by omega) fun j a b => by
          have := h2 (j + (x.cps.toList.length + 1)) (by omega) (by omega)
          rwa [List.getElem?_append_right (by omega), show j + (x.cps.toList.length + 1) - x.cps.toList.length = j + 1 by omega, List.getElem?_cons_succ] at this
      · exfalso
        refine h2 x.cps.toList.length (by omega) (by omega) ?_
        rw [List.getElem?_append_right (Nat.le_refl _), Nat.sub_self]
        rfl
theorem LL.ru {n : Nat} {z : Str} (h : LL n z) : Ru n z.cps.toList := by
  have := ru_join h
  rwa [StrLaws.join_split] at this
theorem split_free10 {z p : Str} {c : Nat} (h : p ∈ Txt.split z (ch c)) : NoC c p := StrLaws.split_free z c p h
theorem LL.of {n : Nat} {z : Str} (h : Ru n z.cps.toList) : LL n z := by
  intro p hp
  obtain ⟨a, b, e⟩ := factor (c := 10) hp
  rw [StrLaws.join_split] at e
  rw [tl_len]
  refine h a.length p.cps.toList.length (by rw [e, List.length_append, List.length_append]; omega) fun j h1 h2 => ?_
  rw [e, List.append_assoc, List.getElem?_append_right h1, List.getElem?_append_left (by omega)]
  intro q
  exact split_free10 hp (List.mem_of_getElem? q)
theorem LL.le {n m : Nat} {z : Str} (h : LL n z) (hm : n ≤ m) : LL m z := fun p hp => Nat.le_trans (h p hp) hm
theorem LL.lines {n : Nat} {ps : List Str} (h0 : ps ≠ []) (hc : ∀ p ∈ ps, NoC 10 p) (h : ∀ p ∈ ps, p.length ≤ n) : LL n (Str.join (ch 10) ps) := by
  intro p hp
  rw [split_join h0 hc] at hp
  exact h p hp
/-! ### lengths -/
theorem join_len1 {c : Nat} : ∀ {ps : List Str}, ps ≠ [] → (Str.join (ch c) ps).length + 1 = (ps.map (·.length)).sum + ps.length
  | [x], _ => by rw [List.map_cons, List.map_nil, List.sum_cons, List.sum_nil, List.length_singleton, Nat.add_zero]; rfl
  | x :: y :: r, _ => by
    have ih := join_len1 (c := c) (ps := y :: r) (List.cons_ne_nil _ _)
    rw [tl_len] at ih
    rw [tl_len, join_two, List.length_append, List.length_cons, List.map_cons, List.sum_cons, List.length_cons, ← tl_len]
    omega
theorem split_len (z : Str) (c : Nat) : ((Txt.split z (ch c)).map (·.length)).sum + (Txt.split z (ch c)).length = z.length + 1 := by
  have := join_len1 (c := c) (split_ne z (ch c))
  rw [StrLaws.join_split] at this
  exact this.symm
theorem split_mem_len {z p : Str} {c : Nat} (h : p ∈ Txt.split z (ch c)) : p.length ≤ z.length := by
  obtain ⟨a, b, e⟩ := factor (c := c) h
  rw [StrLaws.join_split] at e
  rw [tl_len, tl_len, e, List.length_append, List.length_append]
  omega
theorem split_count (z : Str) (c : Nat) : (Txt.split z (ch c)).length ≤ z.length + 1 := by have := split_len z c; omega
/-! ### texts joined by nothing -/
theorem join_nil_cps : ∀ (ps : List Str), (Str.join "" ps).cps.toList = (ps.map fun p => p.cps.toList).flatten
  | [] => cps_empty
  | [x] => by simp [Str.join]
  | x :: y :: r => by
    show (x ++ "" ++ Str.join "" (y :: r)).cps.toList = _
    rw [cps_app, cps_app, cps_empty, join_nil_cps (y :: r)]
    simp
end
/-! Two names at once: a new list, a value. -/
section
set_option maxRecDepth 100000
set_option maxHeartbeats 2000000
variable {K : PySem.W.Frag} {S : Sx} {ρ : List Sl} {O : Oc} {i j : Nat} {ta tb : TE}
/-- x, y = a new list, a value -/
theorem ex_parNV (hij : i ≠ j) (hi : i < ρ.length) (hj : j < ρ.length) (h : EvN K S ta ρ fun es => EvD K S tb ρ fun x => O.nx ((ρ.set i (.own es)).set j (.val x))) :
    ExD K S (tPar i j (tCons ta (tCons tb tNil))) ρ O := fun F0 H0 σ F H e o a d0 E f =>
  h σ F H e a.ok a.dr _ fun q us es F1 H1 hd n1 nF1 hl1 dd1 g1 => hd σ F1 H1 (e.ag g1) g1.ok g1.dr _ fun v x F2 H2 hO dx g2 => by
    refine ⟨.ref q, v, rfl, ?_⟩
    have g := g1.trans g2 a.dr
    have nq : ∀ s, S.ds = some s → q ≠ s.st ∧ q ≠ s.c := a.dr.1.ne n1
    have hl2 : H2 q = some (.lst us) := g2.keep (fun s hs => (nq s hs).1) hl1
    have nF2 : F2 q = none := g2.keepF hl1 nF1
    have e1 := EnvOk.new (i := i) (s₀ := .own es) (e.ag g) (by rw [e.len]; exact hi) (fun k s hk => e.fresh n1 k s hk) ⟨q, us, rfl, ⟨nF2, nq⟩, hl2, Dats.mono g2.fs es dd1⟩
    exact f.nx _ _ F2 H2 hO (e1.set (i := j) dx) (((o.new (a.backN n1)).set)) (a.trans g d0)
end
/-! Written things compared; tuples joined. -/
section
set_option maxRecDepth 100000
set_option maxHeartbeats 2000000
open PySem PySem.Spec PyProof.Rows L2
section
variable {K : PySem.W.Frag} {S : Sx} {Φ : D → Prop} {x y : D}
theorem o_catA {X : Cx} (K : PySem.W.Frag) (h : X.K = K := by rfl) : OpR X (binaryOp .Add) (rCatA K) := by
  subst h
  exact op_catA
/-- t + u -/
theorem od_catA {xs ys : List D} (hl : xs.length + ys.length < 100000) (k : Φ (.tup (xs ++ ys))) : OpD K S (rCatA K) (.tup xs) (.tup ys) Φ := fun u w F H s dr h1 h2 Q q => by
  obtain ⟨a, vs, rfl, h3, h4⟩ := h1
  obtain ⟨b, ws, rfl, h5, h6⟩ := h2
  refine ⟨a, b, vs, ws, rfl, rfl, st_sm s h3, st_sm s h5, by rw [h4.length, h6.length]; exact Nat.le_of_lt (Nat.lt_of_lt_of_le hl (by decide)), fun hx => ?_, fun hx hy => ?_, fun hx hy p np => ?_⟩
  · have e : xs = [] := List.eq_nil_of_length_eq_zero (by rw [← h4.length, hx]; rfl)
    exact q (.ref b) _ F H k ⟨b, ws, rfl, h5, by rw [e]; exact h6⟩ (Ag.refl s dr)
  · have e : ys = [] := List.eq_nil_of_length_eq_zero (by rw [← h6.length, hy]; rfl)
    exact q (.ref a) _ F H k ⟨a, vs, rfl, h3, by rw [e, List.append_nil]; exact h4⟩ (Ag.refl s dr)
  · have nF : F p = none := s.free np
    exact q (.ref p) _ _ _ k ⟨p, _, rfl, st_of upd_same, Dats.mono (fun b w z => upd_new z nF) _ (h4.app h6)⟩ ((Ag.refl s dr).newF dr np)
end
end
/-! Class methods, called of the class, by place and by names; a class that a local name holds. -/
section
set_option maxRecDepth 100000
set_option maxHeartbeats 2000000
open PySem PySem.Spec PyProof.Rows L2
/-- the class method m of the class at C: its def at g -/
structure CmM (K : PySem.W.Frag) (C : Addr) (m : Str) (g : Addr) : Prop where
  rd : ClX.CRead K C (.type "type")
  at_ : ∃ p, ClX.CMet K C (.type "type") m p g
def DefCm (K : PySem.W.Frag) (C : Addr) (m q : Str) (st : Stmt) : Prop := ∃ (g : Addr) (fd : FuncData), CmM K C m g ∧ FunD K m q (defArgs st) (defBody st) (defScope st) [] [] g fd
section
variable (P : Program) (w : World) (K : PySem.W.Frag) (mg : Str → Option Value) (base : Heap)
/-- for all ways to call it -/
def CalCmA (CX : CXT) (k : Nat) (C : Addr) (m q : Str) (st : Stmt) (ps : List Str) (sp : Sp) : Prop := ∃ (g : Addr) (fd : FuncData), CmM K C m g ∧ FunD K m q (defArgs st) (defBody st) (defScope st) [] [] g fd ∧ FnOk P w K mg base CX k g fd ps sp
def CalCm (CX : CXT) (k : Nat) (C : Addr) (m : Str) (ps : List Str) (sp : Sp) : Prop := ∃ (g : Addr) (fd : FuncData), CmM K C m g ∧ Binds K fd ps [] ∧ FnOk P w K mg base CX k g fd ps sp
end
section
variable {P : Program} {w : World} {K : PySem.W.Frag} {mg : Str → Option Value} {base : Heap}
theorem CalCmA.ofD {C : Addr} {m q : Str} {st : Stmt} {N ps : List Str} {k : Nat} {f : FX} (D : DefCm K C m q st) (S : FnScope N ps (defScope st)) (len : ∀ ds Φ Ψ, f ds Φ Ψ → ds.length = ps.length)
    (hbody : ∀ (fa : Addr) (cdv : Value) (A : Around) (outer : List Env) (s : Shared) (H : Hp) (E : XK), Room k (A.deeper (envOfC q (defScope st) s.heap.objs.size fa cdv)) →
      ∃ t, PSs (cxX P w K mg base N q (defScope st) fa cdv A outer s H E) (defBody st) t ∧ ∀ S Ψ, XP K S E Ψ → ∀ ds Φ, f ds Φ Ψ → ExD K S t (ini N ds) { nx := fun _ => Φ .non, rt := Φ }) : CalCmA P w K mg base (L2.CX P w) (k + 1) C m q st ps (spX K f) := by
  obtain ⟨fa, fd, hm, F⟩ := D
  refine ⟨fa, fd, hm, F, F.ok S (fun vs H Q E h => ?_) fun cdv A outer s H vs Q E hr h => ?_⟩
  · obtain ⟨_, _, ds, Φ, Ψ, _, _, hd, hf, _⟩ := h
    rw [hd.length]
    exact len ds Φ Ψ hf
  · obtain ⟨t, h1, h2⟩ := hbody fa cdv A outer s H E hr
    exact ⟨t, h1, body_ofX h h2⟩
theorem CalCmA.c {CX : CXT} {C : Addr} {m q : Str} {st : Stmt} {ps : List Str} {k : Nat} {sp : Sp} (c : CalCmA P w K mg base CX k C m q st ps sp)
    (hb : ∀ (kV doc pm : Value) (an : Option Addr) (cdv ct : Value) (us : List Value), us.length = ps.length → bindArgs (PySem.W.fnOf m q (defArgs st) (defBody st) (defScope st) .none kV doc pm an cdv ct) ⟨us, []⟩ = pure (ps.zip us)) : CalCm P w K mg base CX k C m ps sp := by
  obtain ⟨f, fd, hm, F, h⟩ := c
  exact ⟨f, fd, hm, F.bindsN hb, h⟩
end
section
variable {X : Cx} {CX : CXT} {k j i : Nat} {C : Addr} {sp : Sp} {E : XK} {o e : Expr} {es : List Expr} {kws : List Keyword} {x m : Str} {ps : List Str} {p pos apos : Pos} {ta : TE} {t : TA}
theorem pe_cm {pl : Sem Bool} (he : PE X o ta) (c : CalCm X.prog X.w X.K X.mg X.base CX k C m ps sp) (hr : Room j X.A) (hk : k ≤ j) (hx : Passes CX X E) (ha : PA X (e :: es) t)
    (hst : starEach (e :: es) X.env = (false, eval e X.env) :: starEach es X.env := by rfl) (hpl : (backTo pos (starEach es X.env)).any (·.1) = false := by rfl)
    (ht : eval (.Call (.Attribute o m apos) (e :: es) [] pos) X.env = (do
      let ov ← eval o X.env
      standAt apos.atName
      let (f, first) ← holding [ov] (getMethod ov m pl)
      callWith pos f first (backTo pos (starEach (e :: es) X.env)) (backToKw pos (keywordEach [] X.env))) := by rfl) :
    PE X (.Call (.Attribute o m apos) (e :: es) [] pos) (ClX.tCMeth C sp E ta t) := by
  obtain ⟨g, fd, hm, hb, F⟩ := c
  obtain ⟨p, hp⟩ := hm.at_
  have F2 : FnR X.prog X.w X.K X.mg X.base CX k g sp := (F.raw hb .nil).imp fun vs H Q E h => by rw [List.append_nil]; exact h
  exact ClX.pe_cmeth he hm.rd hp F2 (hr.mono hk) hx ha hst hpl ht
/-- x(..), the local name x holds the class at C -/
def tMakeL (i : Nat) (C : Addr) (sp : Sp) (E : XK) (t : TA) : TE := fun σ H Q => σ[i]? = some (some (.ref C)) ∧ tMake C sp [] E t σ H Q
theorem pe_mkL (i : Nat) {y : Str} (c : CalCX X.prog X.w X.K X.mg X.base k y C ps sp) (hr : Room j X.A) (hk : k + 1 ≤ j) (tk : TkE X E) (ha : PA X (e :: es) t) (hN : X.N[i]? = some x := by rfl) (hv : Vis X.env.scope x := by first | exact Or.inl rfl | exact Or.inr (Or.inl rfl) | exact Or.inr (Or.inr rfl))
    (hdb : (x == ("__debug__" : Str)) = false := by decide) (hcd : (x == ("__classdict__" : Str)) = false := by decide) (he : starEach (e :: es) X.env = (false, eval e X.env) :: starEach es X.env := by rfl) (hpl : (backTo pos (starEach es X.env)).any (·.1) = false := by rfl) :
    PE X (.Call (.Name x p) (e :: es) [] pos) (tMakeL i C sp E t) := by
  obtain ⟨h1, h2, h3, f, fd, h4, h5, h6⟩ := c
  have M : Mk X.K C f := ⟨h2, h4.at_, h4.fn, h3⟩
  refine ⟨fun pins s σ H Q I h => ?_⟩
  obtain ⟨hs, ht⟩ := h
  refine wpAny_Call_Name_kw (thn ((pe_var (pos := p) hN hv hdb hcd).run pins s σ H (fun v H1 => v = .ref C ∧ H1 = H) I ⟨.ref C, hs, rfl, rfl⟩) fun u s1 ⟨v, H1, I1, r1, q1⟩ => ?_)
  obtain ⟨rfl, rfl⟩ := q1
  cases r1
  refine PySem.W.callWith_K (h₀ := X.base) I.ok.mod.kin M.kp (thn (ha.run pos pins s1 σ _ _ I1 ht) fun us s2 ⟨vs, H2, I2, r, q⟩ => ⟨I2.kIn, ?_⟩) he hpl
  exact run_make M h6 (hr.mono hk) h5 .nil tk.pass I2 r q
end
section
variable {K : PySem.W.Frag} {S : Sx} {ρ : List Sl} {Φ : D → Prop} {Ψ : Ex → Prop} {te : TE} {tr : TA} {E : XK} {C : Addr} {i : Nat}
theorem ev_cmX {f : FX} (hx : XP K S E Ψ) (h : EvD K S te ρ fun x => x = .raw (.ref C) ∧ EvA K S tr ρ fun xs => f (.raw (.ref C) :: xs) Φ Ψ) : EvD K S (ClX.tCMeth C (spX K f) E te tr) ρ Φ := fun σ F H e s dr Q q =>
  h σ F H e s dr _ fun v x F1 H1 ⟨hi, hA⟩ dd g1 => by
    subst hi
    cases dd
    refine ⟨rfl, hA σ F1 H1 (e.ag g1) g1.ok g1.dr _ fun vs xs F2 H2 hf dd2 g2 => ?_⟩
    exact ⟨S, F2, .raw (.ref C) :: xs, Φ, Ψ, g2.ok, g2.dr, ⟨_, _, rfl, rfl, dd2⟩, hf, fun v d F' H' hd dd' g3 => q v d F' H' hd dd' ((g1.trans g2 dr).trans g3 dr), fun x dct F' H' hp ok g3 => hx F' H' x dct (g3.dr.now g3.ok) hp ok⟩
theorem ev_mkL {f : FIX} (h0 : ρ[i]? = some (.val (.raw (.ref C)))) (h : EvD K S (tMake C (spIX K C f) [] E tr) ρ Φ) : EvD K S (tMakeL i C (spIX K C f) E tr) ρ Φ := fun σ F H e s dr Q q => by
  obtain ⟨v, h1, h2⟩ := e.val h0
  cases h2
  exact ⟨h1, h σ F H e s dr Q q⟩
end
end
/-! A lambda handed to a def that calls it and catches what it raises. -/
section
set_option maxRecDepth 100000
set_option maxHeartbeats 4000000
open PySem PySem.Spec PyProof.Rows L2
/-- the call of what was handed: f the function object, c its code object -/
def tAct (f c : Addr) (q : Str) (tl : XK → Hp → VK → Prop) (E : XK) : TE := fun σ H Q => σ[0]? = some (some (.ref f)) ∧ H c = some (LamX.CodeO c q) ∧ tl E H Q
section
variable (P : Program) (w : World) (K : PySem.W.Frag) (mg : Str → Option Value) (base : Heap)
/-- in a def that got a lambda the handed thing is called by the name a -/
def Acts (A : Around) (stk : List Env) (N : List Str) (x : Str) (sg : Scope) (g : Addr) (cd : Value) (s : Shared) (H : Hp) (a q : Str) (f c : Addr) (tl : XK → Hp → VK → Prop) : Prop :=
  ∀ (W : WX) (pn : List (Addr × Obj)) (xe : Value → Shared → Prop) (E : XK) (p1 p2 : Pos), Takes ((cxR P w K mg base N x sg g cd A stk s H).tr pn xe) W → (∀ cls d σ H', E cls d H' → W cls d σ H') → PE ((cxR P w K mg base N x sg g cd A stk s H).tr pn xe) (.Call (.Name a p1) [] [] p2) (tAct f c q tl E)
def GivesR (A : Around) (stk : List Env) (k : Nat) (N : List Str) (x : Str) (sg : Scope) (g : Addr) (cd : Value) (bg : List Stmt) (a q : Str) (TT : (XK → Hp → VK → Prop) → Hp → VK → Prop) : Prop :=
  ∀ (f c : Addr) (s : Shared) (H : Hp) (Q : VK) (tl : XK → Hp → VK → Prop), Room (k + 1) (A.deeper (envOfC x sg s.heap.objs.size g cd)) → Acts P w K mg base A stk N x sg g cd s H a q f c tl → H c = some (LamX.CodeO c q) → TT tl H Q →
    ∃ t, PSs (cxR P w K mg base N x sg g cd A stk s H) bg t ∧ t { nx := fun _ H' => Q .non H', rt := Q } (L2.start N [.ref f]) H
/-- the def x, which calls what its parameter a gets, makes TT of it -/
def CalT (j : Nat) (x a : Str) (TT : (XK → Hp → VK → Prop) → Hp → VK → Prop) : Prop :=
  ∃ (g : Addr) (pg : Arguments) (bg : List Stmt) (sg : Scope) (dV kV doc pm : Value) (an : Option Addr) (cdv ct oc : Value) (od : Option Addr) (osl : Array (Option Value)) (N : List Str), mg x = some (.ref g) ∧ PySem.W.keepIn K (.ref g) = true ∧
    K.lookup g = some ⟨oc, od, .func (PySem.W.fnOf x x pg bg sg dV kV doc pm an cdv ct), osl⟩ ∧ PySem.W.codeIn K cdv x = true ∧ Binds K (PySem.W.fnOf x x pg bg sg dV kV doc pm an cdv ct) [a] [] ∧ FnScope N [a] sg ∧ N[0]? = some a ∧ Vis sg a ∧
    ∀ (A : Around) (stk : List Env) (k : Nat) (q : Str), j ≤ k + 1 → GivesR P w K mg base A stk k N x sg g cdv bg a q TT
end
section
variable {X : Cx} {T : List (Addr × Str)} {TT : (XK → Hp → VK → Prop) → Hp → VK → Prop} {x a : Str} {c P : Addr} {j k : Nat} {params : Arguments} {body : Expr} {scope : Scope} {t : XK → TE} {p lpos pos : Pos}
/-- x(lambda: body) -/
theorem pe_lam (C : CalT X.prog X.w X.K X.mg X.base j x a TT) (hj : j ≤ k + 1) (TB : LamX.TabB X.base X.mg c P) (hmT : (P, X.env.qual ++ "<lambda>") ∈ T) (hu : ∀ p ∈ T, p.1 = P → p.2 = X.env.qual ++ "<lambda>") (hr : Room (k + 2) X.A) (L : LamX.LamS X.env.scope scope)
    (hbody : ∀ (A : Around) (outer : List Env) (s : Shared) (H : Hp) (E : XK) (f c' : Addr), Room k (A.deeper (LamX.lamEnv X scope s.heap.objs.size f c')) → PE (LamX.lamCx X A outer s H E scope f c') body (t E))
    (hcode : X.env.code = .ref c := by rfl) (hdef : defaultsOf params X.env = ([], []) := by rfl) (hbind : ∀ (q : Str) (cl : List (Str × Addr)) (pm cv ctv : Value), bindArgs (PySem.W.kla_fn "<lambda>" q params body scope cl pm cv ctv) ⟨[], []⟩ = pure [] := by intro _ _ _ _ _; rfl)
    (hg : Gl X x := by rfl) (hdb : (x == ("__debug__" : Str)) = false := by decide) (hd : (a == ("__debug__" : Str)) = false := by decide) (hcd : (a == ("__classdict__" : Str)) = false := by decide) :
    PE X (.Call (.Name x p) [.Lambda params body scope lpos] [] pos) (LamX.tLam T TT t) := by
  obtain ⟨g, pg, bg, sg, dV, kV, doc, pm, an, cdv, ct, oc, od, osl, N, hm, hk, lk, hcg, hb, Sg, hN, hv, hG⟩ := C
  refine ⟨fun pins s σ H Q I h => ?_⟩
  obtain ⟨hT, h⟩ := h
  refine wpAny_Call_Name_kw (ld_glob I hg hm ?_ hdb)
  refine PySem.W.callWith_K (h₀ := X.base) I.ok.mod.kin hk ?_ (by rfl) (by rfl)
  show wpAny _ _ (spliced ((false, eval (.Lambda params body scope lpos) X.env) :: backTo pos (starEach [] X.env))) _ _ s
  refine Calls.spliced_cons (LamX.lam_make2 I TB hcode hmT hu hT hdef (L.has I.ok) fun f c' pm' ctv H1 s' I1 eN T1 hf hfn hfr hco => Calls.spliced_nil ⟨I1.kIn, ?_⟩)
  have rc : codeAny (model X.prog X.w) X.A (.call (.ref g) ⟨[.ref f], []⟩) (CR CX0 X.stack X.prog X.w H1 s' Q E0) s' :=
    LamX.run_ofS (N := N) (ps := [a]) (us := [.ref f]) (vs := [.ref f]) lk hcg Sg hr I1.env0 (hb s' [.ref f] I1.kIn rfl) (.cons rfl .nil) rfl fun hr2 => by
      obtain ⟨t', ht, hq⟩ := hG X.A X.stack k _ hj f c' s' H1 Q (fun E H' Q' => t E σ H' Q') hr2 (fun W pn xe E p1 p2 tk hW => LamX.pe_act (i := 0) (CXg := CX0) (Eg := E0) I1 L hf hfn hfr (hbind _ _ _ _ _) tk hW hr2 (fun A outer s H hr3 => hbody A outer s H E f c' hr3) hN hv hd hcd) hco (h H1 eN T1)
      exact ⟨t', PSs.nox ht, hq⟩
  refine wpAny_call (codeAny_mono rc fun r s2 hq => ?_)
  cases r with
  | error e => exact (show False from hq).elim
  | ok fl =>
    cases fl with
    | ret u => exact I1.after hq
    | next => exact False.elim hq
    | brk => exact False.elim hq
    | cont => exact False.elim hq
end
/-! ### at the level of data -/
/-- what a def makes of a handed thing: Φa what that returns, Ψa what it raises -/
abbrev FT := (D → Prop) → (Ex → Prop) → (D → Prop) → Prop
def TTd (K : PySem.W.Frag) (fT : FT) : (XK → Hp → VK → Prop) → Hp → VK → Prop := fun tl H Q => ∃ S F Φa Ψa Φ, fT Φa Ψa Φ ∧ Same F H ∧ DrI S F H ∧
  (∀ F1 H1, Ag S F H F1 H1 → ∀ (E : XK) (Q' : VK), (∀ v d F' H', Φa d → Dat K S F' d v → Ag S F1 H1 F' H' → Q' v H') → (∀ x dct F' H', Ψa x → ExOk K S F' x dct → Ag S F1 H1 F' H' → E (.ref x.C) dct H') → tl E H1 Q') ∧
  ∀ v d F' H', Φ d → Dat K S F' d v → Ag S F H F' H' → Q v H'
def AskD (K : PySem.W.Frag) (S : Sx) (f c : Addr) (q : Str) (tl : XK → Hp → VK → Prop) (Φa : D → Prop) (Ψa : Ex → Prop) : Prop :=
  ∀ (S' : Sx) (E : XK) (Φ : D → Prop) (Ψ : Ex → Prop) (ρ : List Sl), S'.ds = S.ds → S'.tb = S.tb → (∀ F H, S'.W F H → S.W F H) → ρ[0]? = some (.val (.raw (.ref f))) → XP K S' E Ψ → (∀ d, Φa d → Φ d) → (∀ x, Ψa x → Ψ x) → EvD K S' (tAct f c q tl E) ρ Φ
section
variable {K : PySem.W.Frag} {S S' : Sx} {F H F' H' : Hp}
theorem DrS.castS (h1 : S.ds = S'.ds) (h2 : S.tb = S'.tb) (d : DrS S F H) : DrS S' F H := ⟨fun s e => d.1 s (h1.trans e), h2 ▸ d.2.1, d.2.2⟩
theorem Ag0.castS (h1 : S.ds = S'.ds) (h2 : S.tb = S'.tb) (a : Ag0 S F H F' H') : Ag0 S' F H F' H' := ⟨a.fs, a.ok, fun b o n => a.ch b o fun s e => n s (h1.symm.trans e), a.nw, a.st.castS h1 h2⟩
theorem ask_of {f c : Addr} {q : Str} {tl : XK → Hp → VK → Prop} {Φa : D → Prop} {Ψa : Ex → Prop} (d : DrI S F H) (hc : H c = some (LamX.CodeO c q))
    (h : ∀ F1 H1, Ag S F H F1 H1 → ∀ (E : XK) (Q' : VK), (∀ v d F' H', Φa d → Dat K S F' d v → Ag S F1 H1 F' H' → Q' v H') → (∀ x dct F' H', Ψa x → ExOk K S F' x dct → Ag S F1 H1 F' H' → E (.ref x.C) dct H') → tl E H1 Q') :
    AskD K (S.wi fun F1 H1 => Ag0 S F H F1 H1) f c q tl Φa Ψa := fun S' E Φ Ψ ρ h1 h2 hw h0 hX k1 k2 σ F1 H1 e s dr Q qq => by
  have e1 : S.ds = S'.ds := h1.symm
  have e2 : S.tb = S'.tb := h2.symm
  have a : Ag S F H F1 H1 := (hw F1 H1 (dr.now s)).up d
  obtain ⟨v, g1, g2⟩ := e.val h0
  have g2' : v = .ref f := g2
  subst g2'
  have hcn : ∀ z, S.ds = some z → c ≠ z.st := fun z ez w => by
    obtain ⟨_, _, _, _, q1, _⟩ := (d.1.1 z ez).1
    rw [← w, hc] at q1
    cases q1
  refine ⟨g1, a.ch c _ hcn hc LamX.codeO_ne, h F1 H1 a E Q (fun v d F' H' hd dd g => qq v d F' H' (k1 d hd) (Dat.cast e1 d dd) ((g.toAg0.castS e1 e2).up dr)) (fun x dct F' H' hx ok g => ?_)⟩
  have g' := (g.toAg0.castS e1 e2).up dr
  exact hX F' H' x dct (g'.dr.now g'.ok) (k2 x hx) (ok.cast e1)
end
section
variable {P : Program} {w : World} {K : PySem.W.Frag} {mg : Str → Option Value} {base : Heap}
theorem CalT.ofD {x a : Str} {st : Stmt} {N : List Str} {j : Nat} {fT : FT} (D : Def K mg x st) (S : FnScope N [a] (defScope st)) (hN : N[0]? = some a) (hv : Vis (defScope st) a)
    (hb : ∀ (kV doc pm : Value) (an : Option Addr) (cdv ct : Value) (us : List Value), us.length = 1 → bindArgs (PySem.W.fnOf x x (defArgs st) (defBody st) (defScope st) .none kV doc pm an cdv ct) ⟨us, []⟩ = pure ([a].zip us))
    (hbody : ∀ (A : Around) (stk : List Env) (k : Nat) (q : Str) (g : Addr) (cdv : Value) (s : Shared) (H : Hp) (f c : Addr) (tl : XK → Hp → VK → Prop), Room (k + 1) (A.deeper (envOfC x (defScope st) s.heap.objs.size g cdv)) → j ≤ k + 1 → Acts P w K mg base A stk N x (defScope st) g cdv s H a q f c tl →
      ∃ t, PSs (cxR P w K mg base N x (defScope st) g cdv A stk s H) (defBody st) t ∧ ∀ S Φa Ψa Φ, AskD K S f c q tl Φa Ψa → fT Φa Ψa Φ → ExD K S t (ini N [.raw (.ref f)]) { nx := fun _ => Φ .non, rt := Φ }) : CalT P w K mg base j x a (TTd K fT) := by
  obtain ⟨g, fd, hm, F⟩ := D
  obtain ⟨oc, od, dV, kV, doc, pm, an, cdv, ct, osl, rfl, lk, hcd, hD, hK⟩ := id F.ex
  refine ⟨g, _, _, _, dV, kV, doc, pm, an, cdv, ct, oc, od, osl, N, hm, F.kp, lk, hcd, F.bindsN (ps := [a]) hb, S, hN, hv, fun A stk k q hj f c s H Q tl hr act hc h => ?_⟩
  obtain ⟨S2, F2, Φa, Ψa, Φ, hf, sm, dr, ask, post⟩ := h
  obtain ⟨t, h1, h2⟩ := hbody A stk k q g cdv s H f c tl hr hj act
  refine ⟨t, h1, ?_⟩
  have d2 : DrI (S2.wi fun F1 H1 => Ag0 S2 F2 H F1 H1) F2 H := ⟨dr.1, fun F' H' a => a.wi⟩
  have hd : Dats K (S2.wi fun F1 H1 => Ag0 S2 F2 H F1 H1) F2 [.raw (.ref f)] [.ref f] := Dats.one rfl
  exact h2 _ Φa Ψa Φ (ask_of dr hc ask) hf F2 H _ F2 H (env_ini hd) own_ini (Ag.refl sm d2) d2 _ ⟨fun σ ρ F' H' h1 _ _ a => post .non .non F' H' h1 rfl (a.unwi dr), fun v d F' H' h1 h2 a => post v d F' H' h1 h2.unwi (a.unwi dr), fun _ _ _ _ h => h.elim, fun _ _ _ _ h => h.elim, fun _ _ _ _ _ h => h.elim, fun _ _ _ _ _ h => h.elim⟩
/-- x(lambda: body) -/
theorem ev_lam {S : Sx} {ρ : List Sl} {Φ : D → Prop} {T : List (Addr × Str)} {fT : FT} {t : XK → TE} (hT : S.tb = T) (Φa : D → Prop) (Ψa : Ex → Prop) (hf : fT Φa Ψa Φ) (h : ∀ (S' : Sx) (E : XK), S'.ds = S.ds → S'.tb = T → XP K S' E Ψa → EvD K S' (t E) ρ Φa) : EvD K S (LamX.tLam T (TTd K fT) t) ρ Φ := fun σ F H e s dr Q q => by
  subst hT
  refine ⟨dr.1.2.1, fun H1 eN T1 => ?_⟩
  have s1 : Same F H1 := fun b o z => eN b o (s b o z) (dr.1.2.2 b o z)
  have g0 : Ag0 S F H F H1 := ⟨Same.refl F, s1, fun b o _ z no => eN b o z no, fun _ z => .inl z, ⟨fun z ez => ?_, T1, dr.1.2.2⟩⟩
  · have g := g0.up dr
    refine ⟨S, F, Φa, Ψa, Φ, hf, s1, g.dr, fun F1 H2 g1 E Q' hq hx => ?_, fun v d F' H' hd dd g1 => q v d F' H' hd dd (g.trans g1 dr)⟩
    have d2 : DrI (S.wi (WX0 K S E Ψa)) F1 H2 := dr_wi (K := K) g1.dr hx
    exact h (S.wi (WX0 K S E Ψa)) E rfl rfl xp_wi σ F1 H2 (e.ag (g.trans g1 dr)).towi g1.ok d2 Q' fun v d F' H' hd dd g2 => hq v d F' H' hd dd.unwi (g2.unwi g1.dr)
  · obtain ⟨⟨n, r, b, cells, h1, h2, h3⟩, h4⟩ := dr.1.1 z ez
    exact ⟨⟨n, r, b, cells, eN _ _ h1 noT_l, eN _ _ h2 noT_l, h3⟩, h4⟩
end
end
/-! Defs that hold lambdas. -/
section
set_option maxRecDepth 100000
set_option maxHeartbeats 4000000
open PySem PySem.Spec PyProof.Rows L2
/-- the code object c of the def x, its table P, among all tables T -/
structure LamT (base : Heap) (mg : Str → Option Value) (T : List (Addr × Str)) (x : Str) (c P : Addr) : Prop where
  tb : LamX.TabB base mg c P
  mem : (P, (x ++ ".<locals>.") ++ "<lambda>") ∈ T
  uni : ∀ p ∈ T, p.1 = P → p.2 = (x ++ ".<locals>.") ++ "<lambda>"
/-- the def x holds lambdas -/
def DefL (K : PySem.W.Frag) (mg : Str → Option Value) (base : Heap) (T : List (Addr × Str)) (x : Str) (st : Stmt) : Prop :=
  ∃ (f : Addr) (fd : FuncData) (c P : Addr), mg x = some (.ref f) ∧ FunD K x x (defArgs st) (defBody st) (defScope st) [] [] f fd ∧ fd.code = .ref c ∧ LamT base mg T x c P
def spT (K : PySem.W.Frag) (T : List (Addr × Str)) (f : FD) : Sp := fun vs H Q _ => ∃ S F ds Φ, S.tb = T ∧ Same F H ∧ DrI S F H ∧ Dats K S F ds vs ∧ f ds Φ ∧ ∀ v d F' H', Φ d → Dat K S F' d v → Ag S F H F' H' → Q v H'
section
variable {P : Program} {w : World} {K : PySem.W.Frag} {mg : Str → Option Value} {base : Heap} {T : List (Addr × Str)}
theorem ev_callT {S : Sx} {ρ : List Sl} {Φ : D → Prop} {tr : TA} {f : FD} (hT : S.tb = T) (h : EvA K S tr ρ fun xs => f xs Φ) : EvD K S (tCall (spT K T f) [] E0 tr) ρ Φ := fun σ F H e s dr Q q =>
  h σ F H e s dr _ fun vs xs F1 H1 hf dd g1 => by
    rw [List.append_nil]
    exact ⟨S, F1, xs, Φ, hT, g1.ok, g1.dr, dd, hf, fun v d F' H' hd dd' g2 => q v d F' H' hd dd' (g1.trans g2 dr)⟩
theorem tkLam {X : Cx} {A : Around} {outer : List Env} {s : Shared} {H : Hp} {E : XK} {scope : Scope} {f c' : Addr} : TkE (LamX.lamCx X A outer s H E scope f c') E := takes_of (X := LamX.lamCx X A outer s H E scope f c') rfl rfl rfl rfl
theorem fnL {x : Str} {st : Stmt} {N ps : List Str} {k : Nat} {sp : Sp} {f c : Addr} {fd : FuncData} (F : FunD K x x (defArgs st) (defBody st) (defScope st) [] [] f fd) (hc : fd.code = .ref c) (S : FnScope N ps (defScope st)) (len : ∀ vs H Q E, sp vs H Q E → vs.length = ps.length)
    (hbody : ∀ (A : Around) (outer : List Env) (s : Shared) (H : Hp) (vs : List V) (Q : VK) (E : XK), Room k (A.deeper (envOfC x (defScope st) s.heap.objs.size f (.ref c))) → sp vs H Q E →
      ∃ t, PSs (cxR P w K mg base N x (defScope st) f (.ref c) A outer s H) (defBody st) t ∧ t { nx := fun _ H' => Q .non H', rt := Q } (start N vs) H) : FnOk P w K mg base CX0 (k + 1) f fd ps sp := by
  obtain ⟨oc, od, dV, kV, doc, pm, an, cdv, ct, osl, rfl, lk, hcd, _, _⟩ := F.ex
  cases hc
  refine fn_of lk hcd S len fun A outer s H vs Q E hr hsp => ?_
  obtain ⟨t, h1, h2⟩ := hbody A outer s H vs Q E hr hsp
  exact ⟨t, PSs.nox h1, h2⟩
/-- the law itself, where it holds lambdas -/
theorem law_ofL {st : Stmt} {N : List Str} {k : Nat} {f c Pt : Addr} {fd : FuncData} (F : FunD K "law" "law" (defArgs st) (defBody st) (defScope st) [] [] f fd) (hc : fd.code = .ref c) (L : LamT base mg T "law" c Pt) (S : FnScope N ["_law_script"] (defScope st)) (n : Nat) (hn : N.length = n + 2)
    (hbody : ∀ (f : Addr) (A : Around) (outer : List Env) (s : Shared) (H : Hp), Room k (A.deeper (envOfC "law" (defScope st) s.heap.objs.size f (.ref c))) →
      ∃ t, PSs (cxR P w K mg base N "law" (defScope st) f (.ref c) A outer s H) (defBody st) (tSeq (tAsg (tCall (spFresh K) [] E0 (tCons (tVar 0) tNil)) (gName 1)) t) ∧ ∀ S : Sx, S.tb = T → ExD K S t (.un :: .val .drw :: List.replicate n .un) { nx := fun _ => False, rt := fun d => d = .bl true }) :
    FnOk P w K mg base CX0 (k + 1) f fd ["_law_script"] (spLawT K T) := by
  refine fnL F hc S (fun vs H Q E h => by obtain ⟨_, _, rfl, _⟩ := h; rfl) fun A outer s H vs Q E hr h => ?_
  obtain ⟨t, h1, h2⟩ := hbody f A outer s H hr
  refine ⟨_, h1, ?_⟩
  obtain ⟨a, ns, rfl, hS, hl, hT, k⟩ := h
  have e : L2.start N [V.ref a] = some (.ref a) :: none :: List.replicate n none := by
    unfold L2.start
    rw [hn]
    rfl
  rw [e]
  refine k_seq (k_set (k_call (k_cons (k_var rfl (k_nil ?_)))))
  exact ⟨a, ns, rfl, hS, hl, fun S H1 sm _ _ d => ex_start d (hT.ext sm) (h2 (.of S T) rfl) k⟩
end
end
/-! Slices of lists with a step. -/
section
set_option maxRecDepth 100000
set_option maxHeartbeats 2000000
open PySem PySem.Spec PyProof.Rows L2
def stpL {α : Type} (xs : List α) (lo hi st : Option Int) : List α := (sliceRange (sliceBounds lo hi st xs.length).1 (sliceBounds lo hi st xs.length).2.1 (sliceBounds lo hi st xs.length).2.2).filterMap (xs[·]?)
def tStp (K : PySem.W.Frag) (te : TE) (tl th ts : TO) : TE := fun σ H Q => te σ H fun x H1 => ∃ a, x = .ref a ∧ tl σ H1 fun lo H2 => th σ H2 fun hi H3 => ts σ H3 fun st H4 => ∃ xs, SqL K H4 a xs ∧ st ≠ some 0 ∧ xs.length ≤ 100000 ∧ (stpL xs lo hi st).length ≤ 100000 ∧ ∀ p, H4 p = none → Q (.ref p) (upd H4 p (.lst (stpL xs lo hi st)))
theorem vals_pick : ∀ {xs : List V} {us : List Value} (ix : List Nat), Vals xs us → Vals (ix.filterMap (xs[·]?)) (ix.filterMap (us[·]?))
  | _, _, [], _ => .nil
  | xs, us, i :: ix, h => by
    have ih := vals_pick ix h
    rw [List.filterMap_cons, List.filterMap_cons]
    cases e : xs[i]? with
    | none =>
      have : us[i]? = none := by rw [List.getElem?_eq_none_iff] at e ⊢; rw [← h.length]; exact e
      rw [this]
      exact ih
    | some x =>
      obtain ⟨u, hu, r⟩ := h.get e
      rw [hu]
      exact .cons r ih
section
variable {X : Cx}
theorem pe_stp (K : PySem.W.Frag) {e : Expr} {te : TE} {tl th ts : TO} {lo hi : Option Expr} {st : Expr} {p3 pos : Pos} (he : PE X e te) (hl : PO X lo tl) (hh : PO X hi th) (hs : PO X (some st) ts) (hK : X.K = K := by rfl) : PE X (.Subscript e (.Slice lo hi (some st) p3) pos) (tStp K te tl th ts) := by
  subst hK
  refine ⟨fun pins s σ H Q I h => ?_⟩
  refine Subscript_ (thn (he.run pins s σ H _ I h) fun v s1 ⟨x, H1, I1, r1, q1⟩ => ?_)
  obtain ⟨a, ex, q⟩ := q1
  subst ex
  cases r1
  refine wpAny_Slice (thn (hl.run pins s1 σ H1 _ I1 q) fun vl s2 ⟨l, H2, I2, pl, q2⟩ => ?_)
  refine thn (hh.run pins s2 σ H2 _ I2 q2) fun vu s3 ⟨u, H3, I3, pu, q3⟩ => ?_
  refine thn (hs.run pins s3 σ H3 _ I3 q3) fun vs s4 ⟨o, H4, I4, ps, q4⟩ => ?_
  obtain ⟨xs, hx, ho, hn, hn2, q⟩ := q4
  have I5 : Inv X pins σ H4 { s4 with heap := s4.heap.push { cls := .type "slice", data := .fields #[vl, vu, vs] } } := I4.kept (t' := s4.toks) fun b ob q => Heap.get?_push_of_some _ q
  obtain ⟨its, r, ht, hz⟩ := I5.list hx
  have hlen := r.length
  show wpAny (model X.prog X.w) X.A (subscriptTail e (.Slice lo hi (some st) p3) (.ref a) (.ref s4.heap.objs.size)) (EP X pins σ Q) X.xe { s4 with heap := s4.heap.push { cls := .type "slice", data := .fields #[vl, vu, vs] } }
  refine tail_any (ops := [.ref a, .ref s4.heap.objs.size]) ht.isList.typeIs (PySem.slot_list_getitem.lookup) ?_ (by with_unfolding_all rfl)
  refine wpAny_getItem_list_slice ht.isList (Heap.IsSliceOf.new _ vl vu vs) pl pu ps ho ?_ (by rw [List.size_toArray]; omega)
  refine ⟨.ref _, _, I5.laid (t' := s4.toks) (o := .lst (stpL xs l u o)) (fun b ob q => Heap.get?_push_of_some _ q) (Nat.le_refl _) ?_, rfl, q _ (I5.hok.fresh (Nat.le_refl _))⟩
  have e : slicePick its.toArray l u o = ((sliceRange (sliceBounds l u o xs.length).1 (sliceBounds l u o xs.length).2.1 (sliceBounds l u o xs.length).2.2).filterMap (its[·]?)).toArray := by
    unfold slicePick
    rw [List.size_toArray, ← hlen]
    simp
  rw [e]
  exact ⟨Nat.le_trans hn2 (by decide), _, 0, vals_pick _ r, Heap.get?_push_size _ rfl⟩
end
section
variable {K : PySem.W.Frag} {S : Sx} {ρ : List Sl} {Φ : D → Prop} {te : TE} {tl th ts : TO}
theorem dats_pick {F : Hp} {ds : List D} {vs : List V} (h : Dats K S F ds vs) : ∀ ix : List Nat, Dats K S F (ix.filterMap (ds[·]?)) (ix.filterMap (vs[·]?))
  | [] => rfl
  | i :: ix => by
    have ih := dats_pick h ix
    rw [List.filterMap_cons, List.filterMap_cons]
    cases e : ds[i]? with
    | none =>
      have : vs[i]? = none := by rw [List.getElem?_eq_none_iff] at e ⊢; rw [h.length]; exact e
      rw [this]
      exact ih
    | some d =>
      obtain ⟨v, hv, r⟩ := h.get e
      rw [hv]
      exact ⟨v, _, rfl, r, ih⟩
/-- x[lo:hi:st], a new list -/
theorem evN_stp {Ψ : List D → Prop} (h : EvD K S te ρ fun x => ∃ ds, x = .lst ds ∧ EvO K S tl ρ fun lo => EvO K S th ρ fun hi => EvO K S ts ρ fun st => st ≠ some 0 ∧ ds.length ≤ 100000 ∧ (stpL ds lo hi st).length ≤ 100000 ∧ Ψ (stpL ds lo hi st)) : EvN K S (tStp K te tl th ts) ρ Ψ := fun σ F H e s dr Q q =>
  h σ F H e s dr _ fun v x F1 H1 ⟨ds, hx, hl⟩ dd g1 => by
    subst hx
    obtain ⟨a, vs, rfl, h1, h2⟩ := dd
    refine ⟨a, rfl, hl σ F1 H1 (e.ag g1) g1.ok g1.dr _ fun lo F2 H2 hh g2 => ?_⟩
    have g12 := g1.trans g2 dr
    refine hh σ F2 H2 (e.ag g12) g2.ok g2.dr _ fun hi F3 H3 hs g3 => ?_
    have g13 := g12.trans g3 dr
    refine hs σ F3 H3 (e.ag g13) g3.ok g3.dr _ fun st F4 H4 ⟨h0, hn, hn2, hΨ⟩ g4 => ?_
    have g14 := g13.trans g4 dr
    have s14 : Same F1 F4 := (g2.fs.trans g3.fs).trans g4.fs
    have hlen := h2.length
    refine ⟨vs, sl_of (g4.ok _ _ (s14 _ _ h1)), h0, by rw [hlen]; exact hn, ?_, fun p np => ?_⟩
    · have e1 := (dats_pick h2 (sliceRange (sliceBounds lo hi st vs.length).1 (sliceBounds lo hi st vs.length).2.1 (sliceBounds lo hi st vs.length).2.2)).length
      show (stpL vs lo hi st).length ≤ 100000
      unfold stpL at hn2 ⊢
      rw [e1, hlen]
      exact hn2
    · refine q p _ (stpL ds lo hi st) F4 _ hΨ (g14.back np) (g14.ok.free np) upd_same ?_ (g14.newH dr np)
      have := dats_pick (Dats.mono s14 ds h2) (sliceRange (sliceBounds lo hi st vs.length).1 (sliceBounds lo hi st vs.length).2.1 (sliceBounds lo hi st vs.length).2.2)
      unfold stpL
      rw [← hlen]
      exact this
end
end
/-! tuple * int, once or more. -/
section
set_option maxRecDepth 100000
set_option maxHeartbeats 4000000
open PySem PySem.Spec PyProof.Rows L2
theorem tuple_mulW1 (l : Addr) (items : Array Value) (n : Nat) (dd : Option Addr) (sl : Array (Option Value)) (x : Int) (u : Tok) (c0 : (decide (x < -(2 ^ 63)) || decide (x ≥ 2 ^ 63)) = false) (c1 : (items.isEmpty || x == 1) = true) :
    Meets (Builtin.«tuple.__mul__» ⟨[.ref l, .int x u], []⟩) (fun _ R s => s.heap.get? l = some { cls := .type "tuple", dict := dd, data := .seq items n, slots := sl } ∧ R (.ok (.ret (Value.ref l))) s) :=
  .of_wp fun prog w A R s h => by
    obtain ⟨hp, g, d, tk, os⟩ := s
    obtain ⟨hl, h⟩ := h
    have f1 := AutoSeq1.idx_int
    wp_walk using wpAny_loadPart' hl
    repeat (first
      | (refine wpAny_ite_false (decide_eq_false (by rw [c0]; exact Bool.false_ne_true)) ?_; wp_walk using wpAny_loadPart' hl)
      | (refine wpAny_ite_true (decide_eq_true c1) ?_; wp_walk using wpAny_loadPart' hl))
    exact ⟨_, rfl, h⟩
def rRepA (K : PySem.W.Frag) : R2 := fun x y H Q => ∃ l k xs, x = .ref l ∧ y = .int k ∧ SqT K H l xs ∧ xs ≠ [] ∧ 1 ≤ k ∧ k ≤ 1000 ∧ xs.length ≤ 1000 ∧ (k = 1 → Q (.ref l) H) ∧ (2 ≤ k → ∀ p, H p = none → Q (.ref p) (upd H p (.tup (List.replicate k.toNat xs).flatten)))
section
variable {X : Cx}
theorem op_repA : OpR X (binaryOp .Mult) (rRepA X.K) := by
  intro pins s σ H x y v u Q I rx ry h
  obtain ⟨l, k, xs, rfl, rfl, hT, hne, h1, h2, hz, q1, q2⟩ := h
  by_cases hk : 2 ≤ k
  · exact op_repT pins s σ H _ _ v u Q I rx ry ⟨l, k, xs, rfl, rfl, hT, hne, hk, h2, hz, q2 hk⟩
  obtain rfl : k = 1 := by omega
  cases rx
  obtain ⟨t, rfl⟩ := ry
  obtain ⟨its, r, ⟨⟨cls, dd, data, sl⟩, ho, hc, n, hd⟩, hs⟩ := I.tuple hT
  simp only at hc hd
  subst hc hd
  have c0 : (decide ((1 : Int) < -(2 ^ 63)) || decide ((1 : Int) ≥ 2 ^ 63)) = false := by decide
  have c1 : (its.toArray.isEmpty || (1 : Int) == 1) = true := by rw [Bool.or_eq_true]; exact .inr rfl
  exact wpAny_binaryOp_repeat_ref (T := "tuple") (U := "int") (by decide) ⟨_, ho, rfl⟩ (fun s' => typeIs_int s' 1 t) noFill_tuple_mul F.fills_int_mul F.slot_int_rmul repeat_tuple F.slot_int_index.lookup
    (call_meets F.slot_int_rmul (typeIs_int s 1 t) F.entry_int_rmul (F.args_int_rmul_2 _ _) (int_rmul_tuple 1 t l its.toArray n dd sl)
      ⟨ho, rfl, ⟨_, ho, rfl⟩, call_meets F.slot_tuple_mul ⟨_, ho, rfl⟩ F.entry_tuple_mul (F.args_tuple_mul_2 _ _) (tuple_mulW1 l its.toArray n dd sl 1 t c0 c1) ⟨ho, ⟨.ref l, _, I.tok _, rfl, q1 rfl⟩⟩⟩)
theorem o_repA {X : Cx} (K : PySem.W.Frag) (h : X.K = K := by rfl) : OpR X (binaryOp .Mult) (rRepA K) := by
  subst h
  exact op_repA
end
section
variable {K : PySem.W.Frag} {S : Sx} {Φ : D → Prop}
theorem od_repA {xs : List D} {n : Nat} (hn : 1 ≤ n) (hn2 : n ≤ 1000) (hne : xs ≠ []) (hl : xs.length ≤ 1000) (k : Φ (.tup (List.replicate n xs).flatten)) : OpD K S (rRepA K) (.tup xs) (.int (n : Int)) Φ := fun u w F H s dr h1 h2 Q q => by
  obtain ⟨a, vs, rfl, h3, h4⟩ := h1
  cases h2
  have hvl := h4.length
  refine ⟨a, n, vs, rfl, rfl, st_sm s h3, fun e => hne (List.eq_nil_of_length_eq_zero (by rw [← hvl, e]; rfl)), by omega, by omega, by omega, fun e => ?_, fun e p np => ?_⟩
  · obtain rfl : n = 1 := by omega
    refine q (.ref a) _ F H k ⟨a, vs, rfl, h3, ?_⟩ (Ag.refl s dr)
    show Dats K S F (xs ++ []) vs
    rw [List.append_nil]
    exact h4
  · have nF : F p = none := s.free np
    refine q (.ref p) _ _ _ k ⟨p, _, rfl, st_of upd_same, Dats.mono (fun b w z => upd_new z nF) _ ?_⟩ ((Ag.refl s dr).newF dr np)
    rw [show ((n : Int)).toNat = n from Int.toNat_natCast n]
    clear k e hn hn2
    induction n with
    | zero => exact rfl
    | succ m ih => exact h4.app ih
end
end
/-! For the head: defs with lambdas. -/
section
set_option maxRecDepth 100000
set_option maxHeartbeats 0
open PySem PySem.Spec PyProof.Rows L2
theorem lamT_of {K : PySem.W.Frag} {tf : List He.Defn} {base : Heap} {mg : Str → Option Value} {x : Str} (hp : (x, none) ∈ tf) (u : tabUni K tf = true) (tb : ∀ p ∈ tf.map (He.cT K), LamX.TabB base mg p.1 p.2) : LamT base mg (tabL K tf) x (He.cT K (x, none)).1 (He.cT K (x, none)).2 :=
  ⟨tb _ (List.mem_map.mpr ⟨_, hp, rfl⟩), List.mem_map.mpr ⟨_, hp, rfl⟩, tabUni_ok u hp⟩
end
/-! For the head: own errors with a field. -/
section
set_option maxRecDepth 100000
set_option maxHeartbeats 0
open PySem PySem.Spec PyProof.Rows L2
theorem oexB_ok {K : PySem.W.Frag} {C : Addr} (q : oexB K C = true) : ∃ nm q N bs bm sn sub ab col dd k0 k1 k2 k3 k5, K.lookup C = some (excClassObj nm q C N bs bm true sn sub ab col dd k0 k1 k2 k3 k5 "ValueError.__new__") ∧ PySem.HandSPX.refsVE bm = true := by
  unfold oexB at q
  split at q
  · rename_i dd cd sl ho
    split at q
    · rename_i C' bm k0 k1 k2 k3 n k5 hm hs
      simp only [Bool.and_eq_true, beq_iff_eq, Bool.not_eq_true'] at q
      obtain ⟨⟨⟨⟨rfl, rfl⟩, hdel⟩, hdi⟩, ht⟩ := q
      obtain ⟨nm, bs, mro, ns, qn, hd, sn, sub, ab, col, del⟩ := cd
      dsimp only at hm hdel hdi
      subst hm hdel hdi
      have hsl : sl = #[k0, k1, k2, k3, some (.builtin "ValueError.__new__"), k5] := by
        obtain ⟨l⟩ := sl
        simp only at hs
        rw [hs]
      subst hsl
      exact ⟨nm, qn, ns, bs, bm, sn, sub, ab, col, dd, k0, k1, k2, k3, k5, ho, ht⟩
    · cases q
  · cases q
theorem xiD_of {P : Program} {K : PySem.W.Frag} {mg : Str → Option Value} {x f q : Str} {st : Stmt} (hg : mg x = some (.ref (He.ga K x))) (sup : mg "super" = none) (top : (P.main.scope.names.lookup ("super" : Str)).isSome = false)
    (e : fnC K (He.ma K (He.ga K x) "__init__") = some (("__init__" : Str), q, defArgs st, .stmts (defBody st), defScope st, mainGlobals, [], builtinsNs)) (ok : xiB K (He.ga K x) f q P.main.file = true) : XiD P K mg x (He.ga K x) f q st := by
  unfold xiB at ok
  simp only [Bool.and_eq_true, decide_eq_true_eq] at ok
  obtain ⟨⟨⟨⟨⟨⟨⟨⟨⟨⟨⟨⟨⟨⟨o1, o2⟩, o3⟩, o4⟩, o5⟩, o6⟩, o7⟩, o8⟩, o9⟩, o10⟩, o11⟩, o12⟩, o13⟩, o14⟩, o15⟩ := ok
  refine ⟨hg, ⟨oexB_ok o1, o2, o3, o4, o5⟩, xfB_ok o6, o7, o8, ?_, top, sup, o11, o12, o13, o14⟩
  unfold fnC at e
  unfold okC at o15
  cases l : K.lookup (He.ma K (He.ga K x) "__init__") with
  | none =>
    rw [l] at e
    cases e
  | some o =>
    obtain ⟨oc, od, dt, osl⟩ := o
    rw [l] at o15 e
    cases dt with
    | func fd =>
      obtain ⟨n1, n2, n3, n4, n5, n6, n7, n8, n9, n10, n11, n12, n13, n14, n15⟩ := fd
      have e2 : (some (n1, n2, n3, n4, n5, n6, [], n15) : He.FnW) = some (("__init__" : Str), q, defArgs st, .stmts (defBody st), defScope st, mainGlobals, [], builtinsNs) := e
      simp only [Option.some.injEq, Prod.mk.injEq] at e2
      obtain ⟨h1, h2, h3, h4, h5, h6, _, h8⟩ := e2
      have o16 : okD' K (He.ga K x) q P.main.file n7 n8 n13 = true := o15
      unfold okD' at o16
      simp only [Bool.and_eq_true, decide_eq_true_eq] at o16
      obtain ⟨⟨⟨k1, k2⟩, k3⟩, k4⟩ := o16
      split at k3
      · rename_i n c
        simp only [Bool.and_eq_true, beq_iff_eq] at k3
        obtain ⟨k3, k5⟩ := k3
        split at k5
        · rename_i oc2 od2 C' osl2 lc
          have k5' : C' = He.ga K x := by simpa using k5
          split at k4
          · rename_i cd
            split at k4
            · rename_i oc3 od3 vs osl3 lcd
              split at k4
              · rename_i fl tf hv
                subst h1 h2 h3 h4 h5 h6 h8 k2 k3 k5'
                exact ⟨_, c, cd, n9, n10, n11, n14, oc, oc2, oc3, n12, od, od2, od3, osl, osl2, osl3, vs, fl, tf, o9, o10, l, k1, lc, lcd, hv, k4⟩
              · cases k4
            · cases k4
          · cases k4
        · cases k5
      · cases k3
    | _ => cases e
end
/-! For the head: class methods, their promises. -/
section
set_option maxRecDepth 100000
set_option maxHeartbeats 0
open PySem PySem.Spec PyProof.Rows L2
theorem g_cmeth {K : PySem.W.Frag} {x m q : Str} {st : Stmt} (h1 : cmB K x m = true) (h2 : okA K (cmA K x m) q = true) (h3 : fnA K (cmA K x m) = some (m, q, defArgs st, .stmts (defBody st), defScope st, mainGlobals, [], builtinsNs)) : DefCm K (He.ga K x) m q st := by
  obtain ⟨fd, F⟩ := funA h3 h2
  obtain ⟨a, a3⟩ := He.ba h1
  obtain ⟨a1, a2⟩ := He.ba a
  exact ⟨_, fd, ⟨reads_c a1, _, He5.cmet_of a2 a3⟩, F⟩
end
/-! Words, integers and rows at the level of data; one of some things. -/
end Lf
namespace Lf
open PySem L2
local macro_rules | `(tactic| walk_at "nq") => `(tactic| first | with_reducible assumption | with_reducible exact Ne.symm (by assumption) | with_reducible exact ne_of_none (by assumption) (by assumption) | with_reducible exact Ne.symm (ne_of_none (by assumption) (by assumption)))
local macro_rules | `(tactic| walk_at "gt") => `(tactic| first | with_reducible assumption | with_reducible exact upd_same | ((with_reducible refine' upd_new ?ha ?hb); (case hb => with_reducible assumption); (case ha => walk_at "gt")) | ((with_reducible refine' upd_old ?ha ?hb); (case hb => walk_at "nq"); (case ha => walk_at "gt")) | ((with_reducible refine' sm_get ?hb ?ha); (case hb => with_reducible assumption); (case ha => walk_at "gt")) | ((with_reducible refine' fr_get ?hb ?ha ?hc); (case hb => with_reducible assumption); (case hc => walk_at "nq"); (case ha => walk_at "gt")))
local macro_rules | `(tactic| walk_at "sl") => `(tactic| first | with_reducible assumption | ((with_reducible refine' sl_of ?ha); (case ha => walk_at "gt")) | ((with_reducible refine' sl_new ?ha ?hb); (case hb => with_reducible assumption); (case ha => walk_at "sl")) | ((with_reducible refine' sl_sm ?hb ?ha); (case hb => with_reducible assumption); (case ha => walk_at "sl")) | ((with_reducible refine' sl_fr ?hb ?hc ?ha); (case hb => with_reducible assumption); (case hc => walk_at "nq"); (case ha => walk_at "sl")))
local macro_rules | `(tactic| walk_at "st") => `(tactic| first | with_reducible assumption | ((with_reducible refine' st_of ?ha); (case ha => walk_at "gt")) | ((with_reducible refine' st_new ?ha ?hb); (case hb => with_reducible assumption); (case ha => walk_at "st")) | ((with_reducible refine' st_sm ?hb ?ha); (case hb => with_reducible assumption); (case ha => walk_at "st")) | ((with_reducible refine' st_fr ?hb ?hc ?ha); (case hb => with_reducible assumption); (case hc => walk_at "nq"); (case ha => walk_at "st")))
local macro_rules | `(tactic| walk_at "sa") => `(tactic| first | with_reducible assumption | ((with_reducible refine' sa_l ?ha); (case ha => walk_at "gt")) | ((with_reducible refine' sa_t ?ha); (case ha => walk_at "gt")) | ((with_reducible refine' sa_new ?ha ?hb); (case hb => with_reducible assumption); (case ha => walk_at "sa")) | ((with_reducible refine' sa_sm ?hb ?ha); (case hb => with_reducible assumption); (case ha => walk_at "sa")) | ((with_reducible refine' sa_fr ?hb ?hc ?ha); (case hb => with_reducible assumption); (case hc => walk_at "nq"); (case ha => walk_at "sa")) | ((with_reducible refine' Or.inl ?ha); (case ha => walk_at "sl")) | ((with_reducible refine' Or.inr ?ha); (case ha => walk_at "st")))
local macro_rules | `(tactic| walk_at "ln") => `(tactic| first | decide | omega | exact Nat.le_of_ble_eq_true rfl | (simp only [List.length_append, List.length_map, List.length_cons, List.length_nil, List.length_flatMap]; omega))
local macro_rules | `(tactic| walk_at "ty") => `(tactic| first | with_reducible assumption | with_reducible exact .base (.int _) | with_reducible exact .base (.str _) | with_reducible exact .base (.bl _) | with_reducible exact .base .non | ((with_reducible refine' TyX.base (TyOf.lst ?ha)); (case ha => walk_at "gt")) | ((with_reducible refine' TyX.base (TyOf.tup ?ha)); (case ha => walk_at "gt")) | ((with_reducible refine' TyX.base (TyOf.dK ?ha)); (case ha => walk_at "gt")) | ((with_reducible refine' ty_new ?ha ?hb); (case hb => with_reducible assumption); (case ha => walk_at "ty")) | ((with_reducible refine' ty_sm ?hb ?ha); (case hb => with_reducible assumption); (case ha => walk_at "ty")))
local macro_rules | `(tactic| walk_at "kb") => `(tactic| first | with_reducible assumption | exact kb_str_str | exact kb_int_str | exact kb_list_str | exact kb_tuple_str | exact kb_bool_str | exact kb_NoneType_str | exact kb_dict_str | exact kb_str_int | exact kb_int_int | exact kb_list_int | exact kb_tuple_int | exact kb_bool_int | exact kb_NoneType_int | exact kb_dict_int | exact kb_str_bool | exact kb_int_bool | exact kb_list_bool | exact kb_tuple_bool | exact kb_bool_bool | exact kb_NoneType_bool | exact kb_dict_bool | exact kb_str_list | exact kb_int_list | exact kb_list_list | exact kb_tuple_list | exact kb_bool_list | exact kb_NoneType_list | exact kb_dict_list | exact kb_str_tuple | exact kb_int_tuple | exact kb_list_tuple | exact kb_tuple_tuple | exact kb_bool_tuple | exact kb_NoneType_tuple | exact kb_dict_tuple | exact kb_str_dict | exact kb_int_dict | exact kb_list_dict | exact kb_tuple_dict | exact kb_bool_dict | exact kb_NoneType_dict | exact kb_dict_dict)
local macro_rules | `(tactic| walk_at "wk") => `(tactic| first | with_reducible assumption | ((with_reducible refine' WkAt.new ?ha ?hb); (case hb => with_reducible assumption); (case ha => walk_at "wk")) | ((with_reducible refine' WkAt.sm ?hb ?ha); (case hb => with_reducible assumption); (case ha => walk_at "wk")) | ((with_reducible refine' WkAt.dr ?hb ?hc ?ha); (case hb => with_reducible assumption); (case hc => with_reducible assumption); (case ha => walk_at "wk")))
local macro_rules | `(tactic| walk_at "ed") => `(tactic| first | with_reducible assumption | ((with_reducible refine' EdAt.new ?ha ?hb); (case hb => with_reducible assumption); (case ha => walk_at "ed")) | ((with_reducible refine' EdAt.sm ?hb ?ha); (case hb => with_reducible assumption); (case ha => walk_at "ed")) | ((with_reducible refine' EdAt.dr ?hb ?hc ?ha); (case hb => with_reducible assumption); (case hc => with_reducible assumption); (case ha => walk_at "ed")))
local macro_rules | `(tactic| walk_at "pl") => `(tactic| first | with_reducible assumption | ((with_reducible refine' PlAt.new ?ha ?hb); (case hb => with_reducible assumption); (case ha => walk_at "pl")) | ((with_reducible refine' PlAt.sm ?hb ?ha); (case hb => with_reducible assumption); (case ha => walk_at "pl")) | ((with_reducible refine' PlAt.dr ?hb ?hc ?ha); (case hb => with_reducible assumption); (case hc => with_reducible assumption); (case ha => walk_at "pl")))
local macro_rules | `(tactic| walk_at "fl") => `(tactic| first | with_reducible assumption | ((with_reducible refine' WkAt.rows ?hT ?hW); (case hT => assumption); (case hW => walk_at "wk")) | ((with_reducible refine' WkAt.name ?hT ?hW); (case hT => assumption); (case hW => walk_at "wk")) | ((with_reducible refine' EdAt.work ?hT ?hW); (case hT => assumption); (case hW => walk_at "ed")) | ((with_reducible refine' EdAt.nums ?hT ?hW); (case hT => assumption); (case hW => walk_at "ed")) | ((with_reducible refine' PlAt.edition ?hT ?hW); (case hT => assumption); (case hW => walk_at "pl")) | ((with_reducible refine' PlAt.count ?hT ?hW); (case hT => assumption); (case hW => walk_at "pl")))
local macro_rules | `(tactic| walk_at "mt") => `(tactic| first | with_reducible assumption | ((with_reducible refine' WkAt.mt ?hn1 ?hn2 ?hW); (case hW => walk_at "wk"); (case hn1 => decide +kernel); (case hn2 => decide +kernel)) | ((with_reducible refine' EdAt.mt ?hn1 ?hn2 ?hW); (case hW => walk_at "ed"); (case hn1 => decide +kernel); (case hn2 => decide +kernel)) | ((with_reducible refine' PlAt.mt ?hn1 ?hn2 ?hW); (case hW => walk_at "pl"); (case hn1 => decide +kernel); (case hn2 => decide +kernel)))
local macro_rules | `(tactic| walk_at "is") => `(tactic| first | with_reducible assumption | ((with_reducible refine' WkAt.is ?hW); (case hW => walk_at "wk")) | ((with_reducible refine' EdAt.is ?hW); (case hW => walk_at "ed")) | ((with_reducible refine' PlAt.is ?hW); (case hW => walk_at "pl")))
local macro_rules | `(tactic| walk_at "ic") => `(tactic| first
  | ((with_reducible show CMul _ _); first | exact Or.inl ⟨by decide, by decide⟩ | exact Or.inr ⟨by decide, by decide⟩ | exact Or.inl ⟨by omega, by omega⟩ | exact Or.inr ⟨by omega, by omega⟩)
  | ((with_reducible show CDiv _ _); first | exact ⟨by decide, by decide⟩ | exact ⟨by omega, by omega⟩)
  | ((with_reducible show CPow _ _); first | exact ⟨by decide, by decide, by decide⟩ | exact ⟨by decide, by decide, by omega⟩)
  | (show (0 : Int) < _; first | decide | omega))
local macro_rules | `(tactic| walk_at "s1") => `(tactic| first
  | with_reducible refine k_seq ?_
  | with_reducible refine k_set ?_
  | with_reducible refine k_asg ?_
  | with_reducible refine k_par ?_
  | with_reducible refine k_par2 ?_
  | with_reducible refine k_drop ?_
  | with_reducible refine k_ret ?_
  | with_reducible refine k_next ?_
  | with_reducible refine k_if ?_
  | ((with_reducible refine' k_aug ?hv ?_); (case hv => exact rfl))
  | with_reducible refine k_ipI ?_
  | with_reducible refine k_gname ?_
  | with_reducible refine k_gsub ?_
  | ((with_reducible refine' k_gtup ?hv ?hw ?_); (case hv => walk_at "st"); (case hw => rfl))
  | with_reducible refine k_gcons ?_
  | with_reducible refine k_gnil ?_
  | with_reducible refine k_test ?_
  | with_reducible refine k_B ?_
  | with_reducible refine k_blE ?_
  | with_reducible refine k_and ?_
  | with_reducible refine k_or ?_
  | with_reducible refine k_not ?_
  | with_reducible refine iteT ?_
  | with_reducible refine iteF ?_
  | with_reducible refine iteNT ?_
  | with_reducible refine iteNF ?_
  | ((with_reducible refine' k_var ?hv ?_); (case hv => exact rfl))
  | with_reducible refine k_c ?_
  | with_reducible refine k_op ?_
  | with_reducible refine k_un ?_
  | with_reducible refine k_U ?_
  | with_reducible refine k_I0 ?_
  | ((with_reducible refine' k_I ?hv ?_); (case hv => walk_at "ic"))
  | with_reducible refine k_eqI ?_
  | with_reducible refine k_neI ?_
  | with_reducible refine k_eqS ?_
  | with_reducible refine k_neS ?_
  | with_reducible refine k_eqB ?_
  | with_reducible refine k_neB ?_
  | with_reducible refine k_for ?_
  | with_reducible refine k_iE ?_
  | with_reducible refine k_iA ?_
  | ((with_reducible refine' k_itl ?hv ?_); (case hv => walk_at "sl"))
  | ((with_reducible refine' k_itt ?hv ?_); (case hv => walk_at "st"))
  | with_reducible refine k_its ?_
  | ((with_reducible refine' k_rg1n ?hv ?_); (case hv => first | decide | omega))
  | ((with_reducible refine' k_rg1 ?hv ?hw ?_); (case hv => first | decide | omega); (case hw => first | decide | omega))
  | ((with_reducible refine' k_inS ?hv ?_); (case hv => walk_at "sa"))
  | ((with_reducible refine' k_inI ?hv ?_); (case hv => walk_at "sa"))
  | ((with_reducible refine' k_ninS ?hv ?_); (case hv => walk_at "sa"))
  | ((with_reducible refine' k_ninI ?hv ?_); (case hv => walk_at "sa"))
  | ((with_reducible refine' k_zipl ?hv ?hw ?_); (case hv => walk_at "sl"); (case hw => walk_at "sl"))
  | with_reducible refine k_nil ?_
  | with_reducible refine k_cons ?_
  | with_reducible refine k_cb ?_
  | with_reducible refine k_call ?_
  | with_reducible refine k_lst ?_
  | with_reducible refine k_tup ?_
  | with_reducible refine k_ifx ?_
  | with_reducible refine k_andv ?_
  | with_reducible refine k_orv ?_
  | with_reducible refine k_notv ?_
  | with_reducible refine k_inti ?_
  | with_reducible refine k_intb ?_
  | with_reducible refine k_sl ?_
  | with_reducible refine k_nopart ?_
  | with_reducible refine k_part ?_
  | with_reducible refine k_parti ?_
  | ((with_reducible refine' k_lenl ?hv ?_); (case hv => walk_at "sl"))
  | ((with_reducible refine' k_lent ?hv ?_); (case hv => walk_at "st"))
  | ((with_reducible refine' k_lens ?hv ?_); (case hv => exact szl (by walk_at "ln")))
  | ((with_reducible refine' k_lena ?hv ?_); (case hv => walk_at "sa"))
  | ((with_reducible refine' k_ixl ?hv ?hn ?_); (case hv => walk_at "sl"); (case hn => first | rfl | assumption))
  | ((with_reducible refine' k_ixt ?hv ?hn ?_); (case hv => walk_at "st"); (case hn => first | rfl | assumption))
  | ((with_reducible refine' k_ixa ?hv ?hn ?_); (case hv => walk_at "sa"); (case hn => first | rfl | assumption))
  | with_reducible refine k_chain ?_
  | ((with_reducible refine' k_isi ?hv ?hw ?_); (case hv => walk_at "ty"); (case hw => walk_at "kb"))
  | ((with_reducible refine' k_isi2 ?hb ?hp ?hv ?hw ?hx ?_); (case hp => walk_at "gt"); (case hv => walk_at "ty"); (case hw => walk_at "kb"); (case hx => walk_at "kb"); (case hb => first | exact or_t | exact or_f))
  | ((with_reducible refine' k_all ?hv ?_); (case hv => walk_at "gt"))
  | ((with_reducible refine' k_any ?hv ?_); (case hv => walk_at "gt"))
  | with_reducible refine k_insign ?_
  | with_reducible refine k_fldR ?_
  | ((with_reducible refine' k_fl ?hv ?_); (case hv => walk_at "fl"))
  | with_reducible refine k_sfld ?_
  | with_reducible refine k_meth ?_
  | ((with_reducible refine' k_mt ?hv ?_); (case hv => walk_at "mt"))
  | with_reducible refine k_make ?_
  | ((with_reducible refine' k_own ?hv ?hw ?_); (case hv => walk_at "is"); (case hw => walk_at "is"))
  | ((with_reducible refine' k_ownin ?hv ?_); (case hv => walk_at "is"))
  | ((with_reducible refine' k_lenO ?hv ?_); (case hv => walk_at "is"))
  | with_reducible refine k_prop ?_
  | ((with_reducible refine' k_pr ?hv ?_); (case hv => walk_at "is"))
  | ((with_reducible refine' k_ownI ?hv ?_); (case hv => walk_at "is"))
  | ((with_reducible refine' k_ownR ?hv ?_); (case hv => walk_at "is"))
  | with_reducible refine k_mx ?_
  | with_reducible refine k_mn ?_
  | with_reducible refine k_lrg ?_
  | with_reducible refine k_rgt ?_
  | with_reducible refine k_rgti ?_
  | with_reducible refine k_bm ?_
  | with_reducible refine k_bm0 ?_
  | with_reducible refine k_tys ?_
  | ((with_reducible refine' k_tyl ?hv ?_); (case hv => walk_at "sl"))
  | ((with_reducible refine' k_ext ?hv ?hw ?hn ?_); (case hv => walk_at "gt"); (case hw => walk_at "gt"); (case hn => walk_at "ln"))
  | ((with_reducible refine' k_app ?hv ?hn ?_); (case hv => walk_at "gt"); (case hn => walk_at "ln"))
  | ((with_reducible refine' k_popat ?hv ?hn ?hw ?_); (case hv => walk_at "gt"); (case hn => with_reducible assumption); (case hw => walk_at "ln"))
  | with_reducible refine k_lc ?_
  | with_reducible refine k_yes0 ?_
  | ((with_reducible show wipe _ _ = wipe _ _ ∧ _); refine ⟨rfl, ?_⟩)
  | ((with_reducible refine' k_adds ?hv ?_); (case hv => walk_at "ln"))
  | ((with_reducible refine' k_st1 ?hv ?_); (case hv => walk_at "gt"))
  | ((with_reducible refine' k_st2 ?hv ?_); (case hv => walk_at "gt"))
  | ((with_reducible refine' k_st3 ?hv ?_); (case hv => walk_at "gt"))
  | ((with_reducible refine' k_setl ?hv ?hn ?_); (case hv => walk_at "gt"); (case hn => rfl)))
local macro_rules | `(tactic| walk_at "put") => `(tactic| ((refine' ⟨_, ?ha, sz ?hb, ?_⟩); (case ha => walk_at "gt"); (case hb => walk_at "ln")))
local macro_rules | `(tactic| walk_at "go") => `(tactic| repeat (walk_at "s1"))
local macro_rules | `(tactic| walk_at "dv") => `(tactic| first | exact rfl | with_reducible assumption)
local macro_rules | `(tactic| walk_at "dt") => `(tactic| first | with_reducible assumption | with_reducible exact .int | with_reducible exact .str | with_reducible exact .bl | with_reducible exact .non | with_reducible exact .lst | with_reducible exact .tup | with_reducible exact .dk | ((with_reducible refine' TyD.ins ?hc); (case hc => with_reducible assumption)))
local macro_rules | `(tactic| walk_at "dm") => `(tactic| first | exact trivial | exact List.mem_cons_self | exact List.mem_cons_of_mem _ List.mem_cons_self | exact List.mem_cons_of_mem _ (List.mem_cons_of_mem _ List.mem_cons_self))
local macro_rules | `(tactic| walk_at "dy") => `(tactic| first | exact Or.inl rfl | exact Or.inr rfl)
local macro_rules | `(tactic| walk_at "xExD") => `(tactic| first
  | ((with_reducible refine' ex_re ?hX ?_); (case hX => assumption))
  | ((with_reducible refine' ex_re2 ?hX ?_); (case hX => assumption))
  | ((with_reducible refine' ex_rz ?hX ?_); (case hX => assumption)))
local macro_rules | `(tactic| walk_at "xOpD") => `(tactic| first
  | ((with_reducible refine' od_ownX ?hX ?_); (case hX => assumption))
  | ((with_reducible refine' od_ownIX ?hX ?_); (case hX => assumption)))
local macro_rules | `(tactic| walk_at "xEvD") => `(tactic| first
  | ((with_reducible refine' ev_callT ?hX ?_); (case hX => assumption))
  | ((with_reducible refine' ev_callX ?hX ?_); (case hX => assumption))
  | ((with_reducible refine' ev_methX ?hX ?_); (case hX => assumption))
  | ((with_reducible refine' ev_makeX ?hX ?_); (case hX => assumption))
  | ((with_reducible refine' ev_kwX ?hX ?_); (case hX => assumption))
  | ((with_reducible refine' ev_mkKwX ?hX ?_); (case hX => assumption)))
local macro_rules | `(tactic| walk_at "gEvD") => `(tactic| first
  | ((with_reducible refine' ev_var ?hv ?_); (case hv => exact rfl))
  | ((with_reducible refine' ev_varO ?hv ?_); (case hv => exact rfl))
  | with_reducible refine ev_ci ?_
  | with_reducible refine ev_cs ?_
  | with_reducible refine ev_cb ?_
  | with_reducible refine ev_cn ?_
  | ((with_reducible refine' ev_kt ?h ?_); (case h => with_reducible assumption))
  | with_reducible refine ev_cr ?_
  | with_reducible refine ev_ct ?_
  | with_reducible refine ev_new (evN_op (r := rCat) ?_)
  | with_reducible refine ev_new (evN_op (r := rRep) ?_)
  | ((with_reducible refine' ev_ixO ?hv ?_); (case hv => exact rfl))
  | with_reducible refine ev_op ?_
  | with_reducible refine ev_un ?_
  | with_reducible refine ev_isi2 ?_
  | with_reducible refine ev_isi4 ?_
  | ((with_reducible refine' ev_new (evN_listO ?hv ?_)); (case hv => exact rfl))
  | with_reducible refine ev_new (evN_cb1 (f := rListOf _) ?_)
  | ((with_reducible refine' ev_lenO ?hv ?_); (case hv => exact rfl))
  | with_reducible refine ev_cb1 ?_
  | with_reducible refine ev_lst ?_
  | with_reducible refine ev_dnew ?_
  | with_reducible refine ev_tup ?_
  | with_reducible refine ev_if ?_
  | with_reducible refine ev_and ?_
  | with_reducible refine ev_or ?_
  | with_reducible refine ev_not ?_
  | with_reducible refine ev_chain ?_
  | ((with_reducible refine' ev_new (evN_lcO ?hv ?_)); (case hv => exact rfl))
  | with_reducible refine ev_new (evN_lc ?_)
  | with_reducible refine ev_new (evN_sl ?_)
  | with_reducible refine ev_slT ?_
  | ((with_reducible refine' ev_fldS (n := 0) ?hv ?hc ?hn ?h1 ?h2 ?_); (case hv => exact rfl); (case hc => with_reducible assumption); (case hn => with_reducible assumption); (case h1 => decide +kernel); (case h2 => exact rfl))
  | ((with_reducible refine' ev_fldS (n := 1) ?hv ?hc ?hn ?h1 ?h2 ?_); (case hv => exact rfl); (case hc => with_reducible assumption); (case hn => with_reducible assumption); (case h1 => decide +kernel); (case h2 => exact rfl))
  | ((with_reducible refine' ev_fldS (n := 2) ?hv ?hc ?hn ?h1 ?h2 ?_); (case hv => exact rfl); (case hc => with_reducible assumption); (case hn => with_reducible assumption); (case h1 => decide +kernel); (case h2 => exact rfl))
  | ((with_reducible refine' ev_fldS (n := 3) ?hv ?hc ?hn ?h1 ?h2 ?_); (case hv => exact rfl); (case hc => with_reducible assumption); (case hn => with_reducible assumption); (case h1 => decide +kernel); (case h2 => exact rfl))
  | with_reducible refine ev_fld ?_
  | with_reducible refine ev_call ?_
  | with_reducible refine ev_kw ?_
  | with_reducible refine ev_mkKw ?_
  | with_reducible refine ev_meth ?_
  | with_reducible refine ev_prop ?_
  | with_reducible refine ev_make ?_)
local macro_rules | `(tactic| walk_at "gOpD") => `(tactic| first
  | with_reducible refine od_int ?_
  | with_reducible refine od_bl ?_
  | ((with_reducible refine' od_I ?hv ?_); (case hv => walk_at "ic"))
  | with_reducible refine od_ip ?_
  | with_reducible refine od_eqI ?_
  | with_reducible refine od_neI ?_
  | with_reducible refine od_eqS ?_
  | with_reducible refine od_neS ?_
  | with_reducible refine od_eqB ?_
  | with_reducible refine od_neB ?_
  | with_reducible refine od_isbl ?_
  | ((with_reducible refine' od_ixl ?hv ?_); (case hv => walk_at "dv"))
  | ((with_reducible refine' od_ixt ?hv ?_); (case hv => walk_at "dv"))
  | ((with_reducible refine' od_ixL ?hv ?_); (case hv => walk_at "dv"))
  | ((with_reducible refine' od_ixT ?hv ?_); (case hv => walk_at "dv"))
  | ((with_reducible refine' od_inN ?hv ?_); (case hv => walk_at "dy"))
  | ((with_reducible refine' od_inI ?hv ?_); (case hv => walk_at "dy"))
  | ((with_reducible refine' od_inS ?hv ?_); (case hv => walk_at "dy"))
  | with_reducible refine od_sign ?_
  | ((with_reducible refine' od_adds ?hv ?_); (case hv => walk_at "ln"))
  | with_reducible refine od_own ?_
  | with_reducible refine od_ownI ?_
  | with_reducible refine od_ownR ?_
  | with_reducible refine od_ownin ?_)
local macro_rules | `(tactic| walk_at "gExD") => `(tactic| first
  | with_reducible refine ex_seq ?_
  | ((with_reducible refine' ex_new (te := tLst tNil) ?hi ?_); (case hi => exact Nat.le_of_ble_eq_true rfl))
  | ((with_reducible refine' ex_newO ?hi ?_); (case hi => exact Nat.le_of_ble_eq_true rfl))
  | with_reducible refine ex_set ?_
  | with_reducible refine ex_asg ?_
  | ((with_reducible refine' ex_par ?hi ?_); (case hi => decide))
  | with_reducible refine ex_par3 ?_
  | ((with_reducible refine' ex_retO ?hv ?_); (case hv => exact rfl))
  | with_reducible refine ex_ret ?_
  | with_reducible refine ex_retN ?_
  | with_reducible refine ex_next ?_
  | with_reducible refine ex_break ?_
  | with_reducible refine ex_cont ?_
  | with_reducible refine ex_ifB ?_
  | ((with_reducible refine' ex_aug ?hv ?_); (case hv => exact rfl))
  | ((with_reducible refine' ex_app ?hv ?hl ?_); (case hv => exact rfl); (case hl => walk_at "ln"))
  | ((with_reducible refine' ex_insO ?hv ?hl ?_); (case hv => exact rfl); (case hl => walk_at "ln"))
  | ((with_reducible refine' ex_fld ?hv ?hc ?hn ?hl ?_); (case hv => exact rfl); (case hc => with_reducible assumption); (case hn => with_reducible assumption); (case hl => exact Nat.le_of_ble_eq_true rfl))
  | ((with_reducible refine' ex_extO ?hv ?_); (case hv => exact rfl))
  | ((with_reducible refine' ex_clrO ?hv ?_); (case hv => exact rfl))
  | with_reducible refine ex_drop ?_
  | with_reducible refine ex_for ?_)
local macro_rules | `(tactic| walk_at "gEvT") => `(tactic| first
  | with_reducible refine et_test ?_
  | with_reducible refine et_B ?_
  | with_reducible refine et_and ?_
  | with_reducible refine et_or ?_
  | with_reducible refine et_not ?_
  | with_reducible refine et_yes ?_)
local macro_rules | `(tactic| walk_at "gite") => `(tactic| first
  | with_reducible refine iteT ?_
  | with_reducible refine iteF ?_
  | with_reducible refine iteNT ?_
  | with_reducible refine iteNF ?_)
local macro_rules | `(tactic| walk_at "gUnD") => `(tactic| first
  | with_reducible refine ud_U ?_
  | ((with_reducible refine' fW_name ?hT ?_); (case hT => assumption))
  | ((with_reducible refine' fW_rows ?hT ?_); (case hT => assumption))
  | ((with_reducible refine' fE_work ?hT ?_); (case hT => assumption))
  | ((with_reducible refine' fE_nums ?hT ?_); (case hT => assumption))
  | ((with_reducible refine' fP_edition ?hT ?_); (case hT => assumption))
  | ((with_reducible refine' fP_count ?hT ?_); (case hT => assumption))
  | ((with_reducible refine' fK_work ?hT ?_); (case hT => assumption))
  | ((with_reducible refine' fK_rows ?hT ?_); (case hT => assumption))
  | ((with_reducible refine' fK_told ?hT ?_); (case hT => assumption))
  | ((with_reducible refine' fS_rule ?hT ?_); (case hT => assumption))
  | ((with_reducible refine' fS_tables ?hT ?_); (case hT => assumption))
  | ((with_reducible refine' fS_spots ?hT ?_); (case hT => assumption))
  | ((with_reducible refine' fS_held ?hT ?_); (case hT => assumption))
  | ((with_reducible refine' fS_stamps ?hT ?_); (case hT => assumption))
  | ((with_reducible refine' fS_row ?hT ?_); (case hT => assumption))
  | ((with_reducible refine' fS_top ?hT ?_); (case hT => assumption))
  | ((with_reducible refine' fS_come ?hT ?_); (case hT => assumption))
  | ((with_reducible refine' fR_parts ?hT ?_); (case hT => assumption))
  | ((with_reducible refine' fR_way ?hT ?_); (case hT => assumption)))
local macro_rules | `(tactic| walk_at "gCbD") => `(tactic| first
  | ((with_reducible refine' cd_isi ?ht ?hk ?_); (case ht => walk_at "dt"); (case hk => walk_at "kb"))
  | ((with_reducible refine' cd_isiO ?ht ?hk ?_); (case ht => walk_at "dt"); (case hk => first | with_reducible assumption | exact kit_same))
  | ((with_reducible refine' cd_lens ?hv ?_); (case hv => walk_at "ln"))
  | with_reducible refine cd_len ?_
  | with_reducible refine cd_all ?_
  | with_reducible refine cd_any ?_
  | with_reducible refine cd_int ?_
  | with_reducible refine cd_intb ?_
  | with_reducible refine cd_mx ?_
  | with_reducible refine cd_mn ?_
  | with_reducible refine cd_tuple ?_
  | with_reducible refine cd_lenO ?_)
local macro_rules | `(tactic| walk_at "gEvI") => `(tactic| first
  | with_reducible refine ei_seq ?_
  | with_reducible refine ei_str ?_
  | with_reducible refine ei_rg1 ?_
  | with_reducible refine ei_rg2 ?_
  | with_reducible refine ei_enum ?_
  | with_reducible refine ei_zip ?_
  | with_reducible refine ei_zipA ?_
  | with_reducible refine ei_zipB ?_
  | with_reducible refine ei_zipB3 ?_)
local macro_rules | `(tactic| walk_at "gEvN") => `(tactic| first
  | ((with_reducible refine' evN_listO ?hv ?_); (case hv => exact rfl))
  | ((with_reducible refine' evN_lcO ?hv ?_); (case hv => exact rfl))
  | with_reducible refine evN_lc ?_
  | with_reducible refine evN_sl ?_
  | with_reducible refine evN_op ?_
  | with_reducible refine evN_cb1 ?_
  | with_reducible refine evN_lst ?_)
local macro_rules | `(tactic| walk_at "d1") => `(tactic| first
  | ((with_reducible show EvD _ _ _ _ _); walk_at "gEvD")
  | ((with_reducible show OpD _ _ _ _ _ _); walk_at "gOpD")
  | with_reducible refine ev_nil ?_
  | with_reducible refine ev_cons ?_
  | ((with_reducible show ExD _ _ _ _ _); walk_at "gExD")
  | ((with_reducible show EvT _ _ _ _ _); walk_at "gEvT")
  | with_reducible refine isB_mk ?_
  | walk_at "gite"
  | ((with_reducible show UnD _ _ _ _ _); walk_at "gUnD")
  | ((with_reducible show CbD _ _ _ _ _); walk_at "gCbD")
  | ((with_reducible refine' tg_name ?hi ?_); (case hi => walk_at "dm"))
  | ((with_reducible refine' tg_tup ?hi ?_); (case hi => exact rfl))
  | ((with_reducible refine' tg_unl ?hi ?_); (case hi => exact rfl))
  | with_reducible refine tg_cons ?_
  | with_reducible refine tg_nil ?_
  | ((with_reducible show EvI _ _ _ _ _); walk_at "gEvI")
  | ((with_reducible refine' few_mk ?hl ?_); (case hl => exact Nat.le_of_ble_eq_true rfl))
  | ((with_reducible show EvN _ _ _ _ _); walk_at "gEvN")
  | ((with_reducible refine' on_cat ?hv ?_); (case hv => walk_at "ln"))
  | ((with_reducible refine' on_rep ?hv ?hw ?_); (case hv => walk_at "ln"); (case hw => walk_at "ln"))
  | with_reducible refine cn_list ?_
  | with_reducible refine eo_no ?_
  | with_reducible refine eo_part ?_
  | with_reducible refine seq_l ?_
  | with_reducible refine seq_t ?_
  | with_reducible refine ⟨insD_mk (by decide +kernel), ?_⟩)
local macro_rules | `(tactic| walk_at "dx") => `(tactic| first
  | ((with_reducible show EvD _ _ _ _ _); walk_at "xEvD")
  | ((with_reducible show OpD _ _ _ _ _ _); walk_at "xOpD")
  | ((with_reducible show ExD _ _ _ _ _); walk_at "xExD"))
local macro_rules | `(tactic| walk_at "dX") => `(tactic| repeat (first | walk_at "d1" | walk_at "dx"))
local macro_rules | `(tactic| walk_at "dg") => `(tactic| repeat (walk_at "d1"))
section
set_option maxRecDepth 100000
set_option maxHeartbeats 2000000

abbrev sis_word : Stmt := top 8
theorem scis_word : FnScope ["thing", "letter"] ["thing"] (defScope sis_word) := ⟨rfl, rfl, rfl, by decide +kernel, rfl, by decide +kernel, by decide +kernel⟩
abbrev sis_row : Stmt := top 9
theorem scis_row : FnScope ["thing"] ["thing"] (defScope sis_row) := ⟨rfl, rfl, rfl, by decide +kernel, rfl, by decide +kernel, by decide +kernel⟩
def letters : Str := "abcdefghijklmnopqrstuvwxyz"
/-- a word -/
def isW (z : Str) : Bool := decide (1 ≤ z.length) && (decide (z.length ≤ 8) && z.cps.toList.all fun c => decide (c ∈ letters.cps.toList))
theorem isW_len {z : Str} (h : isW z = true) : z.length < 100000 := by
  unfold isW at h
  rw [Bool.and_eq_true, Bool.and_eq_true] at h
  have := of_decide_eq_true h.2.1
  omega
theorem take_succ {α : Type} {l : List α} {i : Nat} {x : α} (h : l[i]? = some x) : l.take (i + 1) = l.take i ++ [x] := by rw [List.take_add_one, h]; rfl
section
variable {P : Program} {w : World} {K : PySem.W.Frag} {mg : Str → Option Value} {base : Heap}
theorem okD_one (B : Bn mg) (C_law_take : Cal P w K mg base 2 "_law_take" ["_law_state", "_law_many"] (spD K fTake)) (Df : Def K mg "_law_one" s_law_one) : Cal P w K mg base 3 "_law_one" ["_law_state", "_law_things"] (spD K fOne) := by
  refine Cal.ofD Df sc_law_one (fun _ _ _ _ _ _ us hl => match us, hl with | [_, _], _ => rfl) (fun ds Φ h => ?_) (fun fa cdv A outer s H hr => ⟨_, (pss_one (ps_ret (pe_ix (x_seq K) (pv 1) (pe_fn C_law_take hr (by decide) (pa_cons (pv 0) (pa_cons (pe_callB (n_len K) (by rfl) B.len PySem.boot_len (pa_cons (pv 1) pa_nil)) pa_nil))) (fun _ _ => rfl)))), fun S ds Φ h => ?_⟩)
  · obtain ⟨_, _, rfl, _⟩ := h; rfl
  · obtain ⟨x, xs, rfl, hx, h0, h1, k⟩ := h
    walk_at "dg"
    refine ⟨xs, hx, ?_⟩
    walk_at "dg"
    refine ⟨_, rfl, by omega, by omega, fun d hd => ?_⟩
    have hd' : d < xs.length := by omega
    have e : atI xs (d : Int) = some xs[d] := atI_nat (List.getElem?_eq_getElem hd')
    rcases hx with rfl | rfl
    · exact od_ixL e (k _ (List.getElem_mem hd'))
    · exact od_ixT e (k _ (List.getElem_mem hd'))
/-- the constants of the words -/
structure Cw (mg : Str → Option Value) : Prop where
  letters : ∃ t, mg "LETTERS" = some (.str letters t)
  longest : ∃ t, mg "LONGEST" = some (.int 8 t)
def fIsInt (K : PySem.W.Frag) : FD := fun ds Φ => ∃ x t b1 b2, ds = [x] ∧ TyD K x t ∧ PySem.W.kitOne K t (.type "int") = some b1 ∧ PySem.W.kitOne K t (.type "bool") = some b2 ∧ Φ (.bl (b1 && !b2))
theorem fIsInt.int {Φ : D → Prop} {n : Int} (k : Φ (.bl true)) : fIsInt K [.int n] Φ := ⟨_, _, true, false, rfl, .int, kb_int_int, kb_int_bool, k⟩
def fIsRow (K : PySem.W.Frag) : FD := fun ds Φ => ∃ x, ds = [x] ∧ is2 K "list" "tuple" x fun b => Φ (.bl b)
theorem fIsRow.lst {Φ : D → Prop} {xs : List D} (k : Φ (.bl true)) : fIsRow K [.lst xs] Φ := ⟨_, rfl, _, true, false, .lst, kb_list_list, kb_list_tuple, k⟩
theorem fIsRow.tup {Φ : D → Prop} {xs : List D} (k : Φ (.bl true)) : fIsRow K [.tup xs] Φ := ⟨_, rfl, _, false, true, .tup, kb_tuple_list, kb_tuple_tuple, k⟩
theorem fIsRow.seq {Φ : D → Prop} {x : D} {xs : List D} (h : x = .lst xs ∨ x = .tup xs) (k : Φ (.bl true)) : fIsRow K [x] Φ := by
  rcases h with rfl | rfl
  · exact .lst k
  · exact .tup k
theorem okD_is_row (B : Bn mg) (Df : Def K mg "is_row" sis_row) : Cal P w K mg base 1 "is_row" ["thing"] (spD K (fIsRow K)) := by
  refine Cal.ofD Df scis_row (fun _ _ _ _ _ _ us hl => match us, hl with | [_], _ => rfl) (fun ds Φ h => ?_) (fun fa cdv A outer s H hr => ⟨_, (pss_one (ps_ret (pe_callB (n_isiT K) (by rfl) B.isinstance (by decide +kernel) (pa_cons (pv 0) (pa_cons (pe_tup (pa_cons (pe_bltn (v := .ty "list") (by rfl) B.list (by decide +kernel) rfl) (pa_cons (pe_bltn (v := .ty "tuple") (by rfl) B.tuple (by decide +kernel) rfl) pa_nil))) pa_nil))))), fun S ds Φ h => ?_⟩)
  · obtain ⟨_, rfl, _⟩ := h; rfl
  · obtain ⟨x, rfl, h⟩ := h
    walk_at "dg"
    exact h
def fIsWord (K : PySem.W.Frag) : FD := fun ds Φ => ∃ x, ds = [x] ∧ ((∃ z, x = .str z ∧ z.length < 100000 ∧ Φ (.bl (isW z))) ∨ ∃ t, TyD K x t ∧ PySem.W.kitOne K t (.type "str") = some false ∧ Φ (.bl false))
theorem fIsWord.ok {Φ : D → Prop} {z : Str} (h : isW z = true) (k : Φ (.bl true)) : fIsWord K [.str z] Φ := ⟨_, rfl, .inl ⟨z, rfl, isW_len h, by rw [h]; exact k⟩⟩
theorem okD_is_word (B : Bn mg) (W : Cw mg) (Df : Def K mg "is_word" sis_word) : Cal P w K mg base 1 "is_word" ["thing"] (spD K (fIsWord K)) := by
  obtain ⟨⟨tL, cL⟩, ⟨tM, cM⟩⟩ := W
  refine Cal.ofD Df scis_word (fun _ _ _ _ _ _ us hl => match us, hl with | [_], _ => rfl) (fun ds Φ h => ?_) (fun fa cdv A outer s H hr => ⟨_, (pss_cons (ps_if (PW.pt (pw_or (pt_not (pt_val (pe_callB (n_isi K) (by rfl) B.isinstance (by decide +kernel) (pa_cons (pv 0) (pa_cons (pe_bltn (v := .ty "str") (by rfl) B.str (by decide +kernel) rfl) pa_nil))))) (pw_or1 (pt_not (pt_chain op_le op_le pe_int (pe_callB (n_len K) (by rfl) B.len PySem.boot_len (pa_cons (pv 0) pa_nil)) (pe_glob (v := .int 8) rfl cM ⟨_, rfl⟩)))))) (pss_one (ps_ret pe_bl)) pss_nil)
      (pss_one (ps_ret (pe_callB (n_all K rfl) (by rfl) B.all (by decide +kernel) (pa_cons (pe_lc (own := [("letter", 1)]) (g := (gName 1)) rfl scis_word.nd (p_str (pv 0)) (blkOk_by (own := [("letter", 1)]) (N := ["thing", "letter"]) (sc := defScope sis_word) (by decide +kernel)) (fun _ _ _ _ _ => (pg_name (i := 1) scis_word.nd rfl (Or.inl rfl) (.inr rfl))) (fun _ _ _ _ _ => pts_nil) (fun _ _ _ _ _ => (pe_cmpR o_insign (pv 1) (pe_glob (v := .str letters) rfl cL ⟨_, rfl⟩) rfl))) pa_nil))))), fun S ds Φ h => ?_⟩)
  · obtain ⟨_, rfl, _⟩ := h; rfl
  · obtain ⟨x, rfl, ⟨z, rfl, hz, k⟩ | ⟨t, ht, hk, k⟩⟩ := h
    · walk_at "dg"
      refine k_dec (fun h1 => ?_) (fun h1 => ?_)
      · walk_at "dg"
        refine k_ndec (fun h2 => ?_) (fun h2 => ?_)
        · walk_at "dg"
          refine ⟨z, rfl, lc_m z.cps.toList (fun c => .str ⟨#[c]⟩) (fun c => .bl (decide (c ∈ letters.cps.toList))) rfl ?_ (fun c hc => ?_) ?_⟩
          · have e : z.cps.toList.length = z.length := by simp [Str.length]
            omega
          · walk_at "dg"
            rfl
          · rw [show z.cps.toList.map (fun c => D.bl (decide (c ∈ letters.cps.toList))) = dB (z.cps.toList.map fun c => decide (c ∈ letters.cps.toList)) from (List.map_map).symm]
            walk_at "dg"
            have e2 : isW z = ((z.cps.toList.map fun c => decide (c ∈ letters.cps.toList)).all id) := by
              unfold isW
              rw [decide_eq_true (show 1 ≤ z.length by omega), decide_eq_true (show z.length ≤ 8 by omega), Bool.true_and, Bool.true_and, List.all_map]
              rfl
            rw [← e2]
            exact k
        · walk_at "dg"
          have e2 : isW z = false := by
            unfold isW
            rw [decide_eq_false (show ¬ z.length ≤ 8 by omega), Bool.false_and, Bool.and_false]
          rw [e2] at k
          exact k
      · walk_at "dg"
        have e2 : isW z = false := by
          unfold isW
          rw [decide_eq_false (show ¬ 1 ≤ z.length by omega), Bool.false_and]
        rw [e2] at k
        exact k
    · walk_at "dg"
      exact k
def fIsUpto (K : PySem.W.Frag) : FD := fun ds Φ => ∃ (x : D) (m : Int), ds = [x, .int m] ∧ ((∃ n : Int, x = .int n ∧ Φ (.bl (decide (0 ≤ n ∧ n ≤ m)))) ∨ ∃ t b1 b2, TyD K x t ∧ PySem.W.kitOne K t (.type "int") = some b1 ∧ PySem.W.kitOne K t (.type "bool") = some b2 ∧ (b1 && !b2) = false ∧ Φ (.bl false))
theorem fIsUpto.yes {Φ : D → Prop} {n m : Int} (h0 : 0 ≤ n) (h1 : n ≤ m) (k : Φ (.bl true)) : fIsUpto K [.int n, .int m] Φ := ⟨_, m, rfl, .inl ⟨n, rfl, by rw [decide_eq_true ⟨h0, h1⟩]; exact k⟩⟩
end
end
/-! Things that are no integers from 0 to a greatest one. -/
section
set_option maxRecDepth 100000
set_option maxHeartbeats 2000000
section
variable {K : PySem.W.Frag}
/-- x is no integer from 0 to m -/
def noUp (K : PySem.W.Frag) (m : Int) (x : D) : Prop := (∃ n : Int, x = .int n ∧ ¬ (0 ≤ n ∧ n ≤ m)) ∨ ∃ t b1 b2, TyD K x t ∧ PySem.W.kitOne K t (.type "int") = some b1 ∧ PySem.W.kitOne K t (.type "bool") = some b2 ∧ (b1 && !b2) = false
theorem noUp.ask {m : Int} {x : D} {Φ : D → Prop} (h : noUp K m x) (k : Φ (.bl false)) : fIsUpto K [x, .int m] Φ := by
  rcases h with ⟨n, rfl, h⟩ | ⟨t, b1, b2, h1, h2, h3, h4⟩
  · exact ⟨_, _, rfl, .inl ⟨n, rfl, by rw [decide_eq_false h]; exact k⟩⟩
  · exact ⟨_, _, rfl, .inr ⟨t, b1, b2, h1, h2, h3, h4, k⟩⟩
end
end
/-! The law's own look whether two things are the same. -/
section
set_option maxRecDepth 100000
set_option maxHeartbeats 2000000

abbrev s_law_same : Stmt := top 29
theorem sc_law_same : FnScope ["_law_found", "_law_due_here", "_law_a", "_law_b"] ["_law_found", "_law_due_here"] (defScope s_law_same) := ⟨rfl, rfl, rfl, by decide +kernel, rfl, by decide +kernel, by decide +kernel⟩
/-- a flat thing, or a row of things of a kind -/
def smB (okp : D → Bool) : D → Bool
  | .int _ => true | .bl _ => true | .str _ => true | .non => true | .dk _ ds => ds.all D.isS
  | .lst ds => ds.all okp && decide (ds.length < 100000)
  | .tup ds => ds.all okp && decide (ds.length < 100000)
  | _ => false
def okD : Nat → D → Bool
  | 0 => smB fun _ => false
  | n + 1 => smB (okD n)
def fSm (okp : D → Bool) : FD := fun ds Φ => ∃ x, ds = [x, x] ∧ smB okp x = true ∧ Φ (.bl true)
theorem fSm.mk {okp : D → Bool} {x y : D} {Φ : D → Prop} (e : x = y) (h : smB okp y = true) (k : Φ (.bl true)) : fSm okp [x, y] Φ := ⟨y, by rw [e], h, k⟩
theorem zip_same {α : Type} : ∀ {l : List α} {p : α × α}, p ∈ l.zip l → p.1 = p.2
  | [], _, h => by cases h
  | x :: l, p, h => by
    rw [List.zip_cons_cons] at h
    rcases List.mem_cons.mp h with e | e
    · rw [e]
    · exact zip_same e
theorem all_true {α : Type} (l : List α) : l.map (fun _ => D.bl true) = dB (l.map fun _ => true) := by unfold dB; rw [List.map_map]; rfl
theorem all_rep {α : Type} (l : List α) : (l.map fun _ => true).all id = true := by rw [List.all_map]; exact List.all_eq_true.mpr fun _ _ => rfl
section
variable {P : Program} {w : World} {K : PySem.W.Frag} {mg : Str → Option Value} {base : Heap}
theorem is2.mk {n m : String} {x : D} {Χ : Bool → Prop} {t : Value} {b1 b2 : Bool} (c : Bool) (h1 : TyD K x t) (h2 : PySem.W.kitOne K t (.type n) = some b1) (h3 : PySem.W.kitOne K t (.type m) = some b2) (e : (b1 || b2) = c) (k : Χ c) : is2 K n m x Χ := ⟨t, b1, b2, h1, h2, h3, e ▸ k⟩
theorem is4.mk {n m n' m' : String} {x : D} {Χ : Bool → Prop} {t : Value} {b1 b2 b3 b4 : Bool} (c : Bool) (h1 : TyD K x t) (h2 : PySem.W.kitOne K t (.type n) = some b1) (h3 : PySem.W.kitOne K t (.type m) = some b2) (h4 : PySem.W.kitOne K t (.type n') = some b3) (h5 : PySem.W.kitOne K t (.type m') = some b4) (e : (b1 || (b2 || (b3 || b4))) = c) (k : Χ c) : is4 K n m n' m' x Χ := ⟨t, b1, b2, b3, b4, h1, h2, h3, h4, h5, e ▸ k⟩
theorem od_eqNon {S : Sx} {Φ : D → Prop} (k : Φ (.bl true)) : OpD K S rEq .non .non Φ := fun u w F H s dr h1 h2 Q q => by
  cases h1; cases h2
  exact ⟨rfl, q _ _ F H k rfl (Ag.refl s dr)⟩
theorem same_step (B : Bn mg) {k : Nat} {g : FD} {okp : D → Bool} (C_law_same : Cal P w K mg base k "_law_same" ["_law_found", "_law_due_here"] (spD K g)) (hg : ∀ x Φ, okp x = true → Φ (.bl true) → g [x, x] Φ) (Df : Def K mg "_law_same" s_law_same) :
    Cal P w K mg base (k + 1) "_law_same" ["_law_found", "_law_due_here"] (spD K (fSm okp)) := by
  refine Cal.ofD Df sc_law_same (fun _ _ _ _ _ _ us hl => match us, hl with | [_, _], _ => rfl) (fun ds Φ h => ?_) (fun fa cdv A outer s H hr => ⟨_, (pss_cons (ps_if (pt_val (pe_callB (n_isiT K) (by rfl) B.isinstance (by decide +kernel) (pa_cons (pv 1) (pa_cons (pe_tup (pa_cons (pe_bltn (v := .ty "list") (by rfl) B.list (by decide +kernel) rfl) (pa_cons (pe_bltn (v := .ty "tuple") (by rfl) B.tuple (by decide +kernel) rfl) pa_nil))) pa_nil)))) (pss_cons (ps_if (PW.pt (pw_or (pt_cmpR op_ne (pe_callB (n_isi K) (by rfl) B.isinstance (by decide +kernel) (pa_cons (pv 0) (pa_cons (pe_bltn (v := .ty "list") (by rfl) B.list (by decide +kernel) rfl) pa_nil))) (pe_callB (n_isi K) (by rfl) B.isinstance (by decide +kernel) (pa_cons (pv 1) (pa_cons (pe_bltn (v := .ty "list") (by rfl) B.list (by decide +kernel) rfl) pa_nil))) (nomark _)) (pw_or1 (pt_cmpR op_ne (pe_callB (n_isi K) (by rfl) B.isinstance (by decide +kernel) (pa_cons (pv 0) (pa_cons (pe_bltn (v := .ty "tuple") (by rfl) B.tuple (by decide +kernel) rfl) pa_nil))) (pe_callB (n_isi K) (by rfl) B.isinstance (by decide +kernel) (pa_cons (pv 1) (pa_cons (pe_bltn (v := .ty "tuple") (by rfl) B.tuple (by decide +kernel) rfl) pa_nil))) (nomark _))))) (pss_one (ps_ret pe_bl)) pss_nil)
      (pss_one (ps_ret (pe_and (pe_cmpR op_eq (pe_callB (n_len K) (by rfl) B.len PySem.boot_len (pa_cons (pv 0) pa_nil)) (pe_callB (n_len K) (by rfl) B.len PySem.boot_len (pa_cons (pv 1) pa_nil)) (nomark _)) (pe_one (pe_callB (n_all K rfl) (by rfl) B.all (by decide +kernel) (pa_cons (pe_lc (own := [("_law_a", 2), ("_law_b", 3)]) (g := (gTup K 2 (gCons (gName 2) (gCons (gName 3) gNil)))) rfl sc_law_same.nd (q_zipA K B.zip (pa_cons (pv 0) (pa_cons (pv 1) pa_nil))) (blkOk_by (own := [("_law_a", 2), ("_law_b", 3)]) (N := ["_law_found", "_law_due_here", "_law_a", "_law_b"]) (sc := defScope s_law_same) (by decide +kernel)) (fun _ _ _ _ _ => (pg_tup rfl (pgs_cons (pg_name (i := 2) sc_law_same.nd rfl (Or.inl rfl) (.inr rfl)) (pgs_cons (pg_name (i := 3) sc_law_same.nd rfl (Or.inl rfl) (.inr rfl)) pgs_nil)))) (fun _ _ _ _ _ => pts_nil) (fun _ _ _ _ _ => (pe_fn C_law_same hr (Nat.le_refl _) (pa_cons (pv 2) (pa_cons (pv 3) pa_nil))))) pa_nil))))))) pss_nil)
      (pss_cons (ps_if (pt_val (pe_callB (n_isi K) (by rfl) B.isinstance (by decide +kernel) (pa_cons (pv 1) (pa_cons (pe_bltn (v := .ty "int") (by rfl) B.int (by decide +kernel) rfl) pa_nil)))) (pss_one (ps_ret (pe_and (pe_callB (n_isi K) (by rfl) B.isinstance (by decide +kernel) (pa_cons (pv 0) (pa_cons (pe_bltn (v := .ty "int") (by rfl) B.int (by decide +kernel) rfl) pa_nil))) (pe_and (pe_cmpR op_eq (pe_callB (n_isi K) (by rfl) B.isinstance (by decide +kernel) (pa_cons (pv 0) (pa_cons (pe_bltn (v := .ty "bool") (by rfl) B.bool (by decide +kernel) rfl) pa_nil))) (pe_callB (n_isi K) (by rfl) B.isinstance (by decide +kernel) (pa_cons (pv 1) (pa_cons (pe_bltn (v := .ty "bool") (by rfl) B.bool (by decide +kernel) rfl) pa_nil))) (nomark _)) (pe_one (pe_cmpR (o_or op_eq (o_eqE hr)) (pv 0) (pv 1) (nomark _))))))) pss_nil)
      (pss_one (ps_ret (pe_and (pe_cmpR o_isbl (pe_callB (n_isiT K) (by rfl) B.isinstance (by decide +kernel) (pa_cons (pv 0) (pa_cons (pe_tup (pa_cons (pe_bltn (v := .ty "bool") (by rfl) B.bool (by decide +kernel) rfl) (pa_cons (pe_bltn (v := .ty "int") (by rfl) B.int (by decide +kernel) rfl) (pa_cons (pe_bltn (v := .ty "list") (by rfl) B.list (by decide +kernel) rfl) (pa_cons (pe_bltn (v := .ty "tuple") (by rfl) B.tuple (by decide +kernel) rfl) pa_nil))))) pa_nil))) pe_bl (nomark _)) (pe_one (pe_cmpR (o_or op_eq (o_eqE hr)) (pv 0) (pv 1) (nomark _)))))))), fun S ds Φ h => ?_⟩)
  · obtain ⟨_, rfl, _⟩ := h; rfl
  · obtain ⟨x, rfl, hx, kk⟩ := h
    have row : ∀ ds : List D, (ds.all okp && decide (ds.length < 100000)) = true → (∀ z ∈ ds, okp z = true) ∧ ds.length < 100000 := fun ds h => by
      rw [Bool.and_eq_true] at h
      exact ⟨fun z hz => List.all_eq_true.mp h.1 z hz, of_decide_eq_true h.2⟩
    cases x with
    | int n =>
      walk_at "dg"
      refine is2.mk false .int kb_int_list kb_int_tuple rfl ?_
      walk_at "dg"
      rw [beq_self_eq_true]
      walk_at "dg"
      refine od_orL ?_
      walk_at "dg"
      rw [decide_eq_true rfl]
      exact kk
    | bl b =>
      walk_at "dg"
      refine is2.mk false .bl kb_bool_list kb_bool_tuple rfl ?_
      walk_at "dg"
      rw [beq_self_eq_true]
      walk_at "dg"
      refine od_orL ?_
      walk_at "dg"
      rw [beq_self_eq_true]
      exact kk
    | str z =>
      walk_at "dg"
      refine is2.mk false .str kb_str_list kb_str_tuple rfl ?_
      walk_at "dg"
      refine is4.mk false .str kb_str_bool kb_str_int kb_str_list kb_str_tuple rfl ?_
      walk_at "dg"
      rw [decide_eq_true rfl]
      walk_at "dg"
      refine od_orL ?_
      walk_at "dg"
      rw [decide_eq_true rfl]
      exact kk
    | dk ks vs =>
      walk_at "dg"
      refine is2.mk false .dk kb_dict_list kb_dict_tuple rfl ?_
      walk_at "dg"
      refine is4.mk false .dk kb_dict_bool kb_dict_int kb_dict_list kb_dict_tuple rfl ?_
      walk_at "dg"
      rw [decide_eq_true rfl]
      walk_at "dg"
      exact od_orR (od_eqE hx kk)
    | non =>
      walk_at "dg"
      refine is2.mk false .non kb_NoneType_list kb_NoneType_tuple rfl ?_
      walk_at "dg"
      refine is4.mk false .non kb_NoneType_bool kb_NoneType_int kb_NoneType_list kb_NoneType_tuple rfl ?_
      walk_at "dg"
      rw [decide_eq_true rfl]
      walk_at "dg"
      exact od_orL (od_eqNon kk)
    | lst ds =>
      obtain ⟨h1, h2⟩ := row ds hx
      walk_at "dg"
      refine is2.mk true .lst kb_list_list kb_list_tuple rfl ?_
      walk_at "dg"
      rw [if_neg (show ¬ (!(true == true)) = true by decide)]
      try walk_at "dg"
      rw [if_neg (show ¬ (!(false == false)) = true by decide)]
      walk_at "dg"
      rw [decide_eq_true rfl]
      walk_at "dg"
      refine ⟨ds, ds, .inl rfl, lc_m (ds.zip ds) (fun p => .tup [p.1, p.2]) (fun _ => .bl true) rfl (by rw [List.length_zip]; omega) (fun p hp => ?_) ?_⟩
      · have e := zip_same hp
        obtain ⟨p1, p2⟩ := p
        cases e
        walk_at "dg"
        exact hg p1 _ (h1 _ (List.of_mem_zip hp).1) rfl
      · walk_at "dg"
        rw [all_true]
        refine cd_all ?_
        rw [all_rep]
        exact kk
    | tup ds =>
      obtain ⟨h1, h2⟩ := row ds hx
      walk_at "dg"
      refine is2.mk true .tup kb_tuple_list kb_tuple_tuple rfl ?_
      walk_at "dg"
      rw [if_neg (show ¬ (!(false == false)) = true by decide)]
      try walk_at "dg"
      rw [if_neg (show ¬ (!(true == true)) = true by decide)]
      walk_at "dg"
      rw [decide_eq_true rfl]
      walk_at "dg"
      refine ⟨ds, ds, .inr rfl, lc_m (ds.zip ds) (fun p => .tup [p.1, p.2]) (fun _ => .bl true) rfl (by rw [List.length_zip]; omega) (fun p hp => ?_) ?_⟩
      · have e := zip_same hp
        obtain ⟨p1, p2⟩ := p
        cases e
        walk_at "dg"
        exact hg p1 _ (h1 _ (List.of_mem_zip hp).1) rfl
      · walk_at "dg"
        rw [all_true]
        refine cd_all ?_
        rw [all_rep]
        exact kk
    | _ => cases hx
/-- five levels deep -/
theorem okD_same (B : Bn mg) (Df : Def K mg "_law_same" s_law_same) : Cal P w K mg base 5 "_law_same" ["_law_found", "_law_due_here"] (spD K (fSm (okD 3))) := by
  have c0 := Cal.none (P := P) (w := w) (base := base) (ps := ["_law_found", "_law_due_here"]) Df (fun _ _ _ _ _ _ us hl => match us, hl with | [_, _], _ => rfl)
  have c1 := same_step (okp := fun _ => false) B c0 (fun _ _ h => by cases h) Df
  have c2 := same_step (okp := okD 0) B c1 (fun x Φ h k => ⟨x, rfl, h, k⟩) Df
  have c3 := same_step (okp := okD 1) B c2 (fun x Φ h k => ⟨x, rfl, h, k⟩) Df
  have c4 := same_step (okp := okD 2) B c3 (fun x Φ h k => ⟨x, rfl, h, k⟩) Df
  exact same_step (okp := okD 3) B c4 (fun x Φ h k => ⟨x, rfl, h, k⟩) Df
end
end
/-! Works and editions at the level of data. -/
section
set_option maxRecDepth 100000
set_option maxHeartbeats 2000000
/-- passages that a work can have -/
structure Good (ws : List Str) : Prop where
  ne : ws ≠ []
  nd : ws.Nodup
  wd : ∀ x ∈ ws, isW x = true
  le : ws.length ≤ 100
theorem isW_ok {z : Str} (h : isW z = true) : PyData.strOk z = true := by
  unfold isW at h
  rw [Bool.and_eq_true, Bool.and_eq_true] at h
  have h2 := List.all_eq_true.mp h.2.2
  unfold PyData.strOk
  rw [Array.all_eq_true']
  intro c hc
  have h3 := of_decide_eq_true (h2 c (Array.mem_toList_iff.mpr hc))
  have h4 : ∀ d ∈ letters.cps.toList, d < 1114112 := by decide +kernel
  exact decide_eq_true (h4 c h3)
theorem Good.ok {ws : List Str} (G : Good ws) : okS ws := fun x hx => isW_ok (G.wd x hx)
theorem pys_dS (ws : List Str) : D.pys (dS ws) = ws.map PyData.str := by
  induction ws with
  | nil => rfl
  | cons x l ih => show D.py (.str x) :: D.pys (dS l) = _; rw [ih]; rfl
theorem plains_dS (ws : List Str) : D.plains (dS ws) = true := by
  induction ws with
  | nil => rfl
  | cons x l ih => exact ih
theorem shape_lS {ws : List Str} (h : okS ws) : SeqAt.shaped (D.py (.lst (dS ws))) = true := by
  show SeqAt.shaped (.list (D.pys (dS ws))) = true
  rw [pys_dS]; exact shaped_l (lay_strs h) (by rw [dep_strs]; decide)
section
variable {K : PySem.W.Frag} {S : Sx} {Φ : D → Prop}
end
/-- where the classes stand, and what the module says of them -/
structure Cs where
  W : Addr
  E : Addr
structure Tw (K : PySem.W.Frag) (mg : Str → Option Value) (Z : Cs) : Prop where
  mgW : mg "Work" = some (.ref Z.W)
  mgE : mg "Edition" = some (.ref Z.E)
  caW : PySem.W.findIn K (.ref Z.W) "__class__" = some (some (.builtin "object.__class__"))
  caE : PySem.W.findIn K (.ref Z.E) "__class__" = some (some (.builtin "object.__class__"))
  cn : PySem.W.specialIn K (.builtin "object.__class__") "__get__" = some (some (.builtin "getset_descriptor.__get__"))
  ct : PySem.W.takesIn K (.builtin "object.__class__") = some true
  cmW : PySem.W.mroIn K Z.W (.type "object") = some true
  cmE : PySem.W.mroIn K Z.E (.type "object") = some true
  sfE : PySem.W.selfFirst K Z.E = true
  clW : Cls K Z.W
  nName : NoAttr K Z.W "name"
  nRows : NoAttr K Z.W "rows"
  clE : Cls K Z.E
  nWork : NoAttr K Z.E "work"
  nNums : NoAttr K Z.E "numbers"
abbrev dW (Z : Cs) (nm : Str) (ws : List Str) : D := .ins Z.W ["name", "rows"] [.str nm, .tup (dS ws)]
abbrev dE (Z : Cs) (nm : Str) (ws : List Str) (ns : List Nat) : D := .ins Z.E ["work", "numbers"] [dW Z nm ws, .tup (dN ns)]
theorem putD_ne {f n : Str} {d x : D} {ns : List Str} {xs : List D} (h : ¬ n = f) : putD f d (n :: ns) (x :: xs) = (n :: (putD f d ns xs).1, x :: (putD f d ns xs).2) := if_neg h
/-- the word with a number -/
def wd (ws : List Str) (n : Nat) : Str := ws.getD n Str.empty
theorem atI_lastD (ds : List D) (d : D) : atI (ds ++ [d]) (-1) = some d := by
  unfold atI ixN
  rw [List.length_append, List.length_singleton, if_neg (by omega), if_pos (by omega)]
  show (ds ++ [d])[(-1 + ((ds.length + 1 : Nat) : Int)).toNat]? = some d
  rw [show (-1 + ((ds.length + 1 : Nat) : Int)).toNat = ds.length by omega, List.getElem?_append_right (Nat.le_refl _), Nat.sub_self]
  rfl
section
variable {K : PySem.W.Frag} {mg : Str → Option Value} {Z : Cs} {S : Sx} {Φ : D → Prop} {nm : Str} {ws : List Str} {ns : List Nat}
theorem fW_name (T : Tw K mg Z) (k : Φ (.str nm)) : UnD K S (rFld K "name") (dW Z nm ws) Φ := ud_fld T.clW T.nName (n := 0) (by decide +kernel) rfl k
theorem fW_rows (T : Tw K mg Z) (k : Φ (.tup (dS ws))) : UnD K S (rFld K "rows") (dW Z nm ws) Φ := ud_fld T.clW T.nRows (n := 1) (by decide +kernel) rfl k
theorem fE_work (T : Tw K mg Z) (k : Φ (dW Z nm ws)) : UnD K S (rFld K "work") (dE Z nm ws ns) Φ := ud_fld T.clE T.nWork (n := 0) (by decide +kernel) rfl k
theorem fE_nums (T : Tw K mg Z) (k : Φ (.tup (dN ns))) : UnD K S (rFld K "numbers") (dE Z nm ws ns) Φ := ud_fld T.clE T.nNums (n := 1) (by decide +kernel) rfl k
end
end
end Lf
namespace Lf
open PySem L2
local macro_rules | `(tactic| walk_at "nq") => `(tactic| first | with_reducible assumption | with_reducible exact Ne.symm (by assumption) | with_reducible exact ne_of_none (by assumption) (by assumption) | with_reducible exact Ne.symm (ne_of_none (by assumption) (by assumption)))
local macro_rules | `(tactic| walk_at "gt") => `(tactic| first | with_reducible assumption | with_reducible exact upd_same | ((with_reducible refine' upd_new ?ha ?hb); (case hb => with_reducible assumption); (case ha => walk_at "gt")) | ((with_reducible refine' upd_old ?ha ?hb); (case hb => walk_at "nq"); (case ha => walk_at "gt")) | ((with_reducible refine' sm_get ?hb ?ha); (case hb => with_reducible assumption); (case ha => walk_at "gt")) | ((with_reducible refine' fr_get ?hb ?ha ?hc); (case hb => with_reducible assumption); (case hc => walk_at "nq"); (case ha => walk_at "gt")))
local macro_rules | `(tactic| walk_at "sl") => `(tactic| first | with_reducible assumption | ((with_reducible refine' sl_of ?ha); (case ha => walk_at "gt")) | ((with_reducible refine' sl_new ?ha ?hb); (case hb => with_reducible assumption); (case ha => walk_at "sl")) | ((with_reducible refine' sl_sm ?hb ?ha); (case hb => with_reducible assumption); (case ha => walk_at "sl")) | ((with_reducible refine' sl_fr ?hb ?hc ?ha); (case hb => with_reducible assumption); (case hc => walk_at "nq"); (case ha => walk_at "sl")))
local macro_rules | `(tactic| walk_at "st") => `(tactic| first | with_reducible assumption | ((with_reducible refine' st_of ?ha); (case ha => walk_at "gt")) | ((with_reducible refine' st_new ?ha ?hb); (case hb => with_reducible assumption); (case ha => walk_at "st")) | ((with_reducible refine' st_sm ?hb ?ha); (case hb => with_reducible assumption); (case ha => walk_at "st")) | ((with_reducible refine' st_fr ?hb ?hc ?ha); (case hb => with_reducible assumption); (case hc => walk_at "nq"); (case ha => walk_at "st")))
local macro_rules | `(tactic| walk_at "sa") => `(tactic| first | with_reducible assumption | ((with_reducible refine' sa_l ?ha); (case ha => walk_at "gt")) | ((with_reducible refine' sa_t ?ha); (case ha => walk_at "gt")) | ((with_reducible refine' sa_new ?ha ?hb); (case hb => with_reducible assumption); (case ha => walk_at "sa")) | ((with_reducible refine' sa_sm ?hb ?ha); (case hb => with_reducible assumption); (case ha => walk_at "sa")) | ((with_reducible refine' sa_fr ?hb ?hc ?ha); (case hb => with_reducible assumption); (case hc => walk_at "nq"); (case ha => walk_at "sa")) | ((with_reducible refine' Or.inl ?ha); (case ha => walk_at "sl")) | ((with_reducible refine' Or.inr ?ha); (case ha => walk_at "st")))
local macro_rules | `(tactic| walk_at "ln") => `(tactic| first | decide | omega | exact Nat.le_of_ble_eq_true rfl | (simp only [List.length_append, List.length_map, List.length_cons, List.length_nil, List.length_flatMap]; omega))
local macro_rules | `(tactic| walk_at "ty") => `(tactic| first | with_reducible assumption | with_reducible exact .base (.int _) | with_reducible exact .base (.str _) | with_reducible exact .base (.bl _) | with_reducible exact .base .non | ((with_reducible refine' TyX.base (TyOf.lst ?ha)); (case ha => walk_at "gt")) | ((with_reducible refine' TyX.base (TyOf.tup ?ha)); (case ha => walk_at "gt")) | ((with_reducible refine' TyX.base (TyOf.dK ?ha)); (case ha => walk_at "gt")) | ((with_reducible refine' ty_new ?ha ?hb); (case hb => with_reducible assumption); (case ha => walk_at "ty")) | ((with_reducible refine' ty_sm ?hb ?ha); (case hb => with_reducible assumption); (case ha => walk_at "ty")))
local macro_rules | `(tactic| walk_at "kb") => `(tactic| first | with_reducible assumption | exact kb_str_str | exact kb_int_str | exact kb_list_str | exact kb_tuple_str | exact kb_bool_str | exact kb_NoneType_str | exact kb_dict_str | exact kb_str_int | exact kb_int_int | exact kb_list_int | exact kb_tuple_int | exact kb_bool_int | exact kb_NoneType_int | exact kb_dict_int | exact kb_str_bool | exact kb_int_bool | exact kb_list_bool | exact kb_tuple_bool | exact kb_bool_bool | exact kb_NoneType_bool | exact kb_dict_bool | exact kb_str_list | exact kb_int_list | exact kb_list_list | exact kb_tuple_list | exact kb_bool_list | exact kb_NoneType_list | exact kb_dict_list | exact kb_str_tuple | exact kb_int_tuple | exact kb_list_tuple | exact kb_tuple_tuple | exact kb_bool_tuple | exact kb_NoneType_tuple | exact kb_dict_tuple | exact kb_str_dict | exact kb_int_dict | exact kb_list_dict | exact kb_tuple_dict | exact kb_bool_dict | exact kb_NoneType_dict | exact kb_dict_dict)
local macro_rules | `(tactic| walk_at "wk") => `(tactic| first | with_reducible assumption | ((with_reducible refine' WkAt.new ?ha ?hb); (case hb => with_reducible assumption); (case ha => walk_at "wk")) | ((with_reducible refine' WkAt.sm ?hb ?ha); (case hb => with_reducible assumption); (case ha => walk_at "wk")) | ((with_reducible refine' WkAt.dr ?hb ?hc ?ha); (case hb => with_reducible assumption); (case hc => with_reducible assumption); (case ha => walk_at "wk")))
local macro_rules | `(tactic| walk_at "ed") => `(tactic| first | with_reducible assumption | ((with_reducible refine' EdAt.new ?ha ?hb); (case hb => with_reducible assumption); (case ha => walk_at "ed")) | ((with_reducible refine' EdAt.sm ?hb ?ha); (case hb => with_reducible assumption); (case ha => walk_at "ed")) | ((with_reducible refine' EdAt.dr ?hb ?hc ?ha); (case hb => with_reducible assumption); (case hc => with_reducible assumption); (case ha => walk_at "ed")))
local macro_rules | `(tactic| walk_at "pl") => `(tactic| first | with_reducible assumption | ((with_reducible refine' PlAt.new ?ha ?hb); (case hb => with_reducible assumption); (case ha => walk_at "pl")) | ((with_reducible refine' PlAt.sm ?hb ?ha); (case hb => with_reducible assumption); (case ha => walk_at "pl")) | ((with_reducible refine' PlAt.dr ?hb ?hc ?ha); (case hb => with_reducible assumption); (case hc => with_reducible assumption); (case ha => walk_at "pl")))
local macro_rules | `(tactic| walk_at "fl") => `(tactic| first | with_reducible assumption | ((with_reducible refine' WkAt.rows ?hT ?hW); (case hT => assumption); (case hW => walk_at "wk")) | ((with_reducible refine' WkAt.name ?hT ?hW); (case hT => assumption); (case hW => walk_at "wk")) | ((with_reducible refine' EdAt.work ?hT ?hW); (case hT => assumption); (case hW => walk_at "ed")) | ((with_reducible refine' EdAt.nums ?hT ?hW); (case hT => assumption); (case hW => walk_at "ed")) | ((with_reducible refine' PlAt.edition ?hT ?hW); (case hT => assumption); (case hW => walk_at "pl")) | ((with_reducible refine' PlAt.count ?hT ?hW); (case hT => assumption); (case hW => walk_at "pl")))
local macro_rules | `(tactic| walk_at "mt") => `(tactic| first | with_reducible assumption | ((with_reducible refine' WkAt.mt ?hn1 ?hn2 ?hW); (case hW => walk_at "wk"); (case hn1 => decide +kernel); (case hn2 => decide +kernel)) | ((with_reducible refine' EdAt.mt ?hn1 ?hn2 ?hW); (case hW => walk_at "ed"); (case hn1 => decide +kernel); (case hn2 => decide +kernel)) | ((with_reducible refine' PlAt.mt ?hn1 ?hn2 ?hW); (case hW => walk_at "pl"); (case hn1 => decide +kernel); (case hn2 => decide +kernel)))
local macro_rules | `(tactic| walk_at "is") => `(tactic| first | with_reducible assumption | ((with_reducible refine' WkAt.is ?hW); (case hW => walk_at "wk")) | ((with_reducible refine' EdAt.is ?hW); (case hW => walk_at "ed")) | ((with_reducible refine' PlAt.is ?hW); (case hW => walk_at "pl")))
local macro_rules | `(tactic| walk_at "ic") => `(tactic| first
  | ((with_reducible show CMul _ _); first | exact Or.inl ⟨by decide, by decide⟩ | exact Or.inr ⟨by decide, by decide⟩ | exact Or.inl ⟨by omega, by omega⟩ | exact Or.inr ⟨by omega, by omega⟩)
  | ((with_reducible show CDiv _ _); first | exact ⟨by decide, by decide⟩ | exact ⟨by omega, by omega⟩)
  | ((with_reducible show CPow _ _); first | exact ⟨by decide, by decide, by decide⟩ | exact ⟨by decide, by decide, by omega⟩)
  | (show (0 : Int) < _; first | decide | omega))
local macro_rules | `(tactic| walk_at "s1") => `(tactic| first
  | with_reducible refine k_seq ?_
  | with_reducible refine k_set ?_
  | with_reducible refine k_asg ?_
  | with_reducible refine k_par ?_
  | with_reducible refine k_par2 ?_
  | with_reducible refine k_drop ?_
  | with_reducible refine k_ret ?_
  | with_reducible refine k_next ?_
  | with_reducible refine k_if ?_
  | ((with_reducible refine' k_aug ?hv ?_); (case hv => exact rfl))
  | with_reducible refine k_ipI ?_
  | with_reducible refine k_gname ?_
  | with_reducible refine k_gsub ?_
  | ((with_reducible refine' k_gtup ?hv ?hw ?_); (case hv => walk_at "st"); (case hw => rfl))
  | with_reducible refine k_gcons ?_
  | with_reducible refine k_gnil ?_
  | with_reducible refine k_test ?_
  | with_reducible refine k_B ?_
  | with_reducible refine k_blE ?_
  | with_reducible refine k_and ?_
  | with_reducible refine k_or ?_
  | with_reducible refine k_not ?_
  | with_reducible refine iteT ?_
  | with_reducible refine iteF ?_
  | with_reducible refine iteNT ?_
  | with_reducible refine iteNF ?_
  | ((with_reducible refine' k_var ?hv ?_); (case hv => exact rfl))
  | with_reducible refine k_c ?_
  | with_reducible refine k_op ?_
  | with_reducible refine k_un ?_
  | with_reducible refine k_U ?_
  | with_reducible refine k_I0 ?_
  | ((with_reducible refine' k_I ?hv ?_); (case hv => walk_at "ic"))
  | with_reducible refine k_eqI ?_
  | with_reducible refine k_neI ?_
  | with_reducible refine k_eqS ?_
  | with_reducible refine k_neS ?_
  | with_reducible refine k_eqB ?_
  | with_reducible refine k_neB ?_
  | with_reducible refine k_for ?_
  | with_reducible refine k_iE ?_
  | with_reducible refine k_iA ?_
  | ((with_reducible refine' k_itl ?hv ?_); (case hv => walk_at "sl"))
  | ((with_reducible refine' k_itt ?hv ?_); (case hv => walk_at "st"))
  | with_reducible refine k_its ?_
  | ((with_reducible refine' k_rg1n ?hv ?_); (case hv => first | decide | omega))
  | ((with_reducible refine' k_rg1 ?hv ?hw ?_); (case hv => first | decide | omega); (case hw => first | decide | omega))
  | ((with_reducible refine' k_inS ?hv ?_); (case hv => walk_at "sa"))
  | ((with_reducible refine' k_inI ?hv ?_); (case hv => walk_at "sa"))
  | ((with_reducible refine' k_ninS ?hv ?_); (case hv => walk_at "sa"))
  | ((with_reducible refine' k_ninI ?hv ?_); (case hv => walk_at "sa"))
  | ((with_reducible refine' k_zipl ?hv ?hw ?_); (case hv => walk_at "sl"); (case hw => walk_at "sl"))
  | with_reducible refine k_nil ?_
  | with_reducible refine k_cons ?_
  | with_reducible refine k_cb ?_
  | with_reducible refine k_call ?_
  | with_reducible refine k_lst ?_
  | with_reducible refine k_tup ?_
  | with_reducible refine k_ifx ?_
  | with_reducible refine k_andv ?_
  | with_reducible refine k_orv ?_
  | with_reducible refine k_notv ?_
  | with_reducible refine k_inti ?_
  | with_reducible refine k_intb ?_
  | with_reducible refine k_sl ?_
  | with_reducible refine k_nopart ?_
  | with_reducible refine k_part ?_
  | with_reducible refine k_parti ?_
  | ((with_reducible refine' k_lenl ?hv ?_); (case hv => walk_at "sl"))
  | ((with_reducible refine' k_lent ?hv ?_); (case hv => walk_at "st"))
  | ((with_reducible refine' k_lens ?hv ?_); (case hv => exact szl (by walk_at "ln")))
  | ((with_reducible refine' k_lena ?hv ?_); (case hv => walk_at "sa"))
  | ((with_reducible refine' k_ixl ?hv ?hn ?_); (case hv => walk_at "sl"); (case hn => first | rfl | assumption))
  | ((with_reducible refine' k_ixt ?hv ?hn ?_); (case hv => walk_at "st"); (case hn => first | rfl | assumption))
  | ((with_reducible refine' k_ixa ?hv ?hn ?_); (case hv => walk_at "sa"); (case hn => first | rfl | assumption))
  | with_reducible refine k_chain ?_
  | ((with_reducible refine' k_isi ?hv ?hw ?_); (case hv => walk_at "ty"); (case hw => walk_at "kb"))
  | ((with_reducible refine' k_isi2 ?hb ?hp ?hv ?hw ?hx ?_); (case hp => walk_at "gt"); (case hv => walk_at "ty"); (case hw => walk_at "kb"); (case hx => walk_at "kb"); (case hb => first | exact or_t | exact or_f))
  | ((with_reducible refine' k_all ?hv ?_); (case hv => walk_at "gt"))
  | ((with_reducible refine' k_any ?hv ?_); (case hv => walk_at "gt"))
  | with_reducible refine k_insign ?_
  | with_reducible refine k_fldR ?_
  | ((with_reducible refine' k_fl ?hv ?_); (case hv => walk_at "fl"))
  | with_reducible refine k_sfld ?_
  | with_reducible refine k_meth ?_
  | ((with_reducible refine' k_mt ?hv ?_); (case hv => walk_at "mt"))
  | with_reducible refine k_make ?_
  | ((with_reducible refine' k_own ?hv ?hw ?_); (case hv => walk_at "is"); (case hw => walk_at "is"))
  | ((with_reducible refine' k_ownin ?hv ?_); (case hv => walk_at "is"))
  | ((with_reducible refine' k_lenO ?hv ?_); (case hv => walk_at "is"))
  | with_reducible refine k_prop ?_
  | ((with_reducible refine' k_pr ?hv ?_); (case hv => walk_at "is"))
  | ((with_reducible refine' k_ownI ?hv ?_); (case hv => walk_at "is"))
  | ((with_reducible refine' k_ownR ?hv ?_); (case hv => walk_at "is"))
  | with_reducible refine k_mx ?_
  | with_reducible refine k_mn ?_
  | with_reducible refine k_lrg ?_
  | with_reducible refine k_rgt ?_
  | with_reducible refine k_rgti ?_
  | with_reducible refine k_bm ?_
  | with_reducible refine k_bm0 ?_
  | with_reducible refine k_tys ?_
  | ((with_reducible refine' k_tyl ?hv ?_); (case hv => walk_at "sl"))
  | ((with_reducible refine' k_ext ?hv ?hw ?hn ?_); (case hv => walk_at "gt"); (case hw => walk_at "gt"); (case hn => walk_at "ln"))
  | ((with_reducible refine' k_app ?hv ?hn ?_); (case hv => walk_at "gt"); (case hn => walk_at "ln"))
  | ((with_reducible refine' k_popat ?hv ?hn ?hw ?_); (case hv => walk_at "gt"); (case hn => with_reducible assumption); (case hw => walk_at "ln"))
  | with_reducible refine k_lc ?_
  | with_reducible refine k_yes0 ?_
  | ((with_reducible show wipe _ _ = wipe _ _ ∧ _); refine ⟨rfl, ?_⟩)
  | ((with_reducible refine' k_adds ?hv ?_); (case hv => walk_at "ln"))
  | ((with_reducible refine' k_st1 ?hv ?_); (case hv => walk_at "gt"))
  | ((with_reducible refine' k_st2 ?hv ?_); (case hv => walk_at "gt"))
  | ((with_reducible refine' k_st3 ?hv ?_); (case hv => walk_at "gt"))
  | ((with_reducible refine' k_setl ?hv ?hn ?_); (case hv => walk_at "gt"); (case hn => rfl)))
local macro_rules | `(tactic| walk_at "put") => `(tactic| ((refine' ⟨_, ?ha, sz ?hb, ?_⟩); (case ha => walk_at "gt"); (case hb => walk_at "ln")))
local macro_rules | `(tactic| walk_at "go") => `(tactic| repeat (walk_at "s1"))
local macro_rules | `(tactic| walk_at "dv") => `(tactic| first | exact rfl | with_reducible assumption)
local macro_rules | `(tactic| walk_at "dt") => `(tactic| first | with_reducible assumption | with_reducible exact .int | with_reducible exact .str | with_reducible exact .bl | with_reducible exact .non | with_reducible exact .lst | with_reducible exact .tup | with_reducible exact .dk | ((with_reducible refine' TyD.ins ?hc); (case hc => with_reducible assumption)))
local macro_rules | `(tactic| walk_at "dm") => `(tactic| first | exact trivial | exact List.mem_cons_self | exact List.mem_cons_of_mem _ List.mem_cons_self | exact List.mem_cons_of_mem _ (List.mem_cons_of_mem _ List.mem_cons_self))
local macro_rules | `(tactic| walk_at "dy") => `(tactic| first | exact Or.inl rfl | exact Or.inr rfl)
local macro_rules | `(tactic| walk_at "xExD") => `(tactic| first
  | ((with_reducible refine' ex_re ?hX ?_); (case hX => assumption))
  | ((with_reducible refine' ex_re2 ?hX ?_); (case hX => assumption))
  | ((with_reducible refine' ex_rz ?hX ?_); (case hX => assumption)))
local macro_rules | `(tactic| walk_at "xOpD") => `(tactic| first
  | ((with_reducible refine' od_ownX ?hX ?_); (case hX => assumption))
  | ((with_reducible refine' od_ownIX ?hX ?_); (case hX => assumption)))
local macro_rules | `(tactic| walk_at "xEvD") => `(tactic| first
  | ((with_reducible refine' ev_callT ?hX ?_); (case hX => assumption))
  | ((with_reducible refine' ev_callX ?hX ?_); (case hX => assumption))
  | ((with_reducible refine' ev_methX ?hX ?_); (case hX => assumption))
  | ((with_reducible refine' ev_makeX ?hX ?_); (case hX => assumption))
  | ((with_reducible refine' ev_kwX ?hX ?_); (case hX => assumption))
  | ((with_reducible refine' ev_mkKwX ?hX ?_); (case hX => assumption)))
local macro_rules | `(tactic| walk_at "gEvD") => `(tactic| first
  | ((with_reducible refine' ev_var ?hv ?_); (case hv => exact rfl))
  | ((with_reducible refine' ev_varO ?hv ?_); (case hv => exact rfl))
  | with_reducible refine ev_ci ?_
  | with_reducible refine ev_cs ?_
  | with_reducible refine ev_cb ?_
  | with_reducible refine ev_cn ?_
  | ((with_reducible refine' ev_kt ?h ?_); (case h => with_reducible assumption))
  | with_reducible refine ev_cr ?_
  | with_reducible refine ev_ct ?_
  | with_reducible refine ev_new (evN_op (r := rCat) ?_)
  | with_reducible refine ev_new (evN_op (r := rRep) ?_)
  | ((with_reducible refine' ev_ixO ?hv ?_); (case hv => exact rfl))
  | with_reducible refine ev_op ?_
  | with_reducible refine ev_un ?_
  | with_reducible refine ev_isi2 ?_
  | with_reducible refine ev_isi4 ?_
  | ((with_reducible refine' ev_new (evN_listO ?hv ?_)); (case hv => exact rfl))
  | with_reducible refine ev_new (evN_cb1 (f := rListOf _) ?_)
  | ((with_reducible refine' ev_lenO ?hv ?_); (case hv => exact rfl))
  | with_reducible refine ev_cb1 ?_
  | with_reducible refine ev_lst ?_
  | with_reducible refine ev_dnew ?_
  | with_reducible refine ev_tup ?_
  | with_reducible refine ev_if ?_
  | with_reducible refine ev_and ?_
  | with_reducible refine ev_or ?_
  | with_reducible refine ev_not ?_
  | with_reducible refine ev_chain ?_
  | ((with_reducible refine' ev_new (evN_lcO ?hv ?_)); (case hv => exact rfl))
  | with_reducible refine ev_new (evN_lc ?_)
  | with_reducible refine ev_new (evN_sl ?_)
  | with_reducible refine ev_slT ?_
  | ((with_reducible refine' ev_fldS (n := 0) ?hv ?hc ?hn ?h1 ?h2 ?_); (case hv => exact rfl); (case hc => with_reducible assumption); (case hn => with_reducible assumption); (case h1 => decide +kernel); (case h2 => exact rfl))
  | ((with_reducible refine' ev_fldS (n := 1) ?hv ?hc ?hn ?h1 ?h2 ?_); (case hv => exact rfl); (case hc => with_reducible assumption); (case hn => with_reducible assumption); (case h1 => decide +kernel); (case h2 => exact rfl))
  | ((with_reducible refine' ev_fldS (n := 2) ?hv ?hc ?hn ?h1 ?h2 ?_); (case hv => exact rfl); (case hc => with_reducible assumption); (case hn => with_reducible assumption); (case h1 => decide +kernel); (case h2 => exact rfl))
  | ((with_reducible refine' ev_fldS (n := 3) ?hv ?hc ?hn ?h1 ?h2 ?_); (case hv => exact rfl); (case hc => with_reducible assumption); (case hn => with_reducible assumption); (case h1 => decide +kernel); (case h2 => exact rfl))
  | with_reducible refine ev_fld ?_
  | with_reducible refine ev_call ?_
  | with_reducible refine ev_kw ?_
  | with_reducible refine ev_mkKw ?_
  | with_reducible refine ev_meth ?_
  | with_reducible refine ev_prop ?_
  | with_reducible refine ev_make ?_)
local macro_rules | `(tactic| walk_at "gOpD") => `(tactic| first
  | with_reducible refine od_int ?_
  | with_reducible refine od_bl ?_
  | ((with_reducible refine' od_I ?hv ?_); (case hv => walk_at "ic"))
  | with_reducible refine od_ip ?_
  | with_reducible refine od_eqI ?_
  | with_reducible refine od_neI ?_
  | with_reducible refine od_eqS ?_
  | with_reducible refine od_neS ?_
  | with_reducible refine od_eqB ?_
  | with_reducible refine od_neB ?_
  | with_reducible refine od_isbl ?_
  | ((with_reducible refine' od_ixl ?hv ?_); (case hv => walk_at "dv"))
  | ((with_reducible refine' od_ixt ?hv ?_); (case hv => walk_at "dv"))
  | ((with_reducible refine' od_ixL ?hv ?_); (case hv => walk_at "dv"))
  | ((with_reducible refine' od_ixT ?hv ?_); (case hv => walk_at "dv"))
  | ((with_reducible refine' od_inN ?hv ?_); (case hv => walk_at "dy"))
  | ((with_reducible refine' od_inI ?hv ?_); (case hv => walk_at "dy"))
  | ((with_reducible refine' od_inS ?hv ?_); (case hv => walk_at "dy"))
  | with_reducible refine od_sign ?_
  | ((with_reducible refine' od_adds ?hv ?_); (case hv => walk_at "ln"))
  | with_reducible refine od_own ?_
  | with_reducible refine od_ownI ?_
  | with_reducible refine od_ownR ?_
  | with_reducible refine od_ownin ?_)
local macro_rules | `(tactic| walk_at "gExD") => `(tactic| first
  | with_reducible refine ex_seq ?_
  | ((with_reducible refine' ex_new (te := tLst tNil) ?hi ?_); (case hi => exact Nat.le_of_ble_eq_true rfl))
  | ((with_reducible refine' ex_newO ?hi ?_); (case hi => exact Nat.le_of_ble_eq_true rfl))
  | with_reducible refine ex_set ?_
  | with_reducible refine ex_asg ?_
  | ((with_reducible refine' ex_par ?hi ?_); (case hi => decide))
  | with_reducible refine ex_par3 ?_
  | ((with_reducible refine' ex_retO ?hv ?_); (case hv => exact rfl))
  | with_reducible refine ex_ret ?_
  | with_reducible refine ex_retN ?_
  | with_reducible refine ex_next ?_
  | with_reducible refine ex_break ?_
  | with_reducible refine ex_cont ?_
  | with_reducible refine ex_ifB ?_
  | ((with_reducible refine' ex_aug ?hv ?_); (case hv => exact rfl))
  | ((with_reducible refine' ex_app ?hv ?hl ?_); (case hv => exact rfl); (case hl => walk_at "ln"))
  | ((with_reducible refine' ex_insO ?hv ?hl ?_); (case hv => exact rfl); (case hl => walk_at "ln"))
  | ((with_reducible refine' ex_fld ?hv ?hc ?hn ?hl ?_); (case hv => exact rfl); (case hc => with_reducible assumption); (case hn => with_reducible assumption); (case hl => exact Nat.le_of_ble_eq_true rfl))
  | ((with_reducible refine' ex_extO ?hv ?_); (case hv => exact rfl))
  | ((with_reducible refine' ex_clrO ?hv ?_); (case hv => exact rfl))
  | with_reducible refine ex_drop ?_
  | with_reducible refine ex_for ?_)
local macro_rules | `(tactic| walk_at "gEvT") => `(tactic| first
  | with_reducible refine et_test ?_
  | with_reducible refine et_B ?_
  | with_reducible refine et_and ?_
  | with_reducible refine et_or ?_
  | with_reducible refine et_not ?_
  | with_reducible refine et_yes ?_)
local macro_rules | `(tactic| walk_at "gite") => `(tactic| first
  | with_reducible refine iteT ?_
  | with_reducible refine iteF ?_
  | with_reducible refine iteNT ?_
  | with_reducible refine iteNF ?_)
local macro_rules | `(tactic| walk_at "gUnD") => `(tactic| first
  | with_reducible refine ud_U ?_
  | ((with_reducible refine' fW_name ?hT ?_); (case hT => assumption))
  | ((with_reducible refine' fW_rows ?hT ?_); (case hT => assumption))
  | ((with_reducible refine' fE_work ?hT ?_); (case hT => assumption))
  | ((with_reducible refine' fE_nums ?hT ?_); (case hT => assumption))
  | ((with_reducible refine' fP_edition ?hT ?_); (case hT => assumption))
  | ((with_reducible refine' fP_count ?hT ?_); (case hT => assumption))
  | ((with_reducible refine' fK_work ?hT ?_); (case hT => assumption))
  | ((with_reducible refine' fK_rows ?hT ?_); (case hT => assumption))
  | ((with_reducible refine' fK_told ?hT ?_); (case hT => assumption))
  | ((with_reducible refine' fS_rule ?hT ?_); (case hT => assumption))
  | ((with_reducible refine' fS_tables ?hT ?_); (case hT => assumption))
  | ((with_reducible refine' fS_spots ?hT ?_); (case hT => assumption))
  | ((with_reducible refine' fS_held ?hT ?_); (case hT => assumption))
  | ((with_reducible refine' fS_stamps ?hT ?_); (case hT => assumption))
  | ((with_reducible refine' fS_row ?hT ?_); (case hT => assumption))
  | ((with_reducible refine' fS_top ?hT ?_); (case hT => assumption))
  | ((with_reducible refine' fS_come ?hT ?_); (case hT => assumption))
  | ((with_reducible refine' fR_parts ?hT ?_); (case hT => assumption))
  | ((with_reducible refine' fR_way ?hT ?_); (case hT => assumption)))
local macro_rules | `(tactic| walk_at "gCbD") => `(tactic| first
  | ((with_reducible refine' cd_isi ?ht ?hk ?_); (case ht => walk_at "dt"); (case hk => walk_at "kb"))
  | ((with_reducible refine' cd_isiO ?ht ?hk ?_); (case ht => walk_at "dt"); (case hk => first | with_reducible assumption | exact kit_same))
  | ((with_reducible refine' cd_lens ?hv ?_); (case hv => walk_at "ln"))
  | with_reducible refine cd_len ?_
  | with_reducible refine cd_all ?_
  | with_reducible refine cd_any ?_
  | with_reducible refine cd_int ?_
  | with_reducible refine cd_intb ?_
  | with_reducible refine cd_mx ?_
  | with_reducible refine cd_mn ?_
  | with_reducible refine cd_tuple ?_
  | with_reducible refine cd_lenO ?_)
local macro_rules | `(tactic| walk_at "gEvI") => `(tactic| first
  | with_reducible refine ei_seq ?_
  | with_reducible refine ei_str ?_
  | with_reducible refine ei_rg1 ?_
  | with_reducible refine ei_rg2 ?_
  | with_reducible refine ei_enum ?_
  | with_reducible refine ei_zip ?_
  | with_reducible refine ei_zipA ?_
  | with_reducible refine ei_zipB ?_
  | with_reducible refine ei_zipB3 ?_)
local macro_rules | `(tactic| walk_at "gEvN") => `(tactic| first
  | ((with_reducible refine' evN_listO ?hv ?_); (case hv => exact rfl))
  | ((with_reducible refine' evN_lcO ?hv ?_); (case hv => exact rfl))
  | with_reducible refine evN_lc ?_
  | with_reducible refine evN_sl ?_
  | with_reducible refine evN_op ?_
  | with_reducible refine evN_cb1 ?_
  | with_reducible refine evN_lst ?_)
local macro_rules | `(tactic| walk_at "d1") => `(tactic| first
  | ((with_reducible show EvD _ _ _ _ _); walk_at "gEvD")
  | ((with_reducible show OpD _ _ _ _ _ _); walk_at "gOpD")
  | with_reducible refine ev_nil ?_
  | with_reducible refine ev_cons ?_
  | ((with_reducible show ExD _ _ _ _ _); walk_at "gExD")
  | ((with_reducible show EvT _ _ _ _ _); walk_at "gEvT")
  | with_reducible refine isB_mk ?_
  | walk_at "gite"
  | ((with_reducible show UnD _ _ _ _ _); walk_at "gUnD")
  | ((with_reducible show CbD _ _ _ _ _); walk_at "gCbD")
  | ((with_reducible refine' tg_name ?hi ?_); (case hi => walk_at "dm"))
  | ((with_reducible refine' tg_tup ?hi ?_); (case hi => exact rfl))
  | ((with_reducible refine' tg_unl ?hi ?_); (case hi => exact rfl))
  | with_reducible refine tg_cons ?_
  | with_reducible refine tg_nil ?_
  | ((with_reducible show EvI _ _ _ _ _); walk_at "gEvI")
  | ((with_reducible refine' few_mk ?hl ?_); (case hl => exact Nat.le_of_ble_eq_true rfl))
  | ((with_reducible show EvN _ _ _ _ _); walk_at "gEvN")
  | ((with_reducible refine' on_cat ?hv ?_); (case hv => walk_at "ln"))
  | ((with_reducible refine' on_rep ?hv ?hw ?_); (case hv => walk_at "ln"); (case hw => walk_at "ln"))
  | with_reducible refine cn_list ?_
  | with_reducible refine eo_no ?_
  | with_reducible refine eo_part ?_
  | with_reducible refine seq_l ?_
  | with_reducible refine seq_t ?_
  | with_reducible refine ⟨insD_mk (by decide +kernel), ?_⟩)
local macro_rules | `(tactic| walk_at "dx") => `(tactic| first
  | ((with_reducible show EvD _ _ _ _ _); walk_at "xEvD")
  | ((with_reducible show OpD _ _ _ _ _ _); walk_at "xOpD")
  | ((with_reducible show ExD _ _ _ _ _); walk_at "xExD"))
local macro_rules | `(tactic| walk_at "dX") => `(tactic| repeat (first | walk_at "d1" | walk_at "dx"))
local macro_rules | `(tactic| walk_at "dg") => `(tactic| repeat (walk_at "d1"))
section
set_option maxRecDepth 100000
set_option maxHeartbeats 2000000

section
variable {P : Program} {w : World} {K : PySem.W.Frag} {mg : Str → Option Value} {base : Heap} {Z : Cs}
end
end
/-! Unequal works: the error. -/
section
set_option maxRecDepth 100000
set_option maxHeartbeats 2000000

section
variable {P : Program} {w : World} {K : PySem.W.Frag} {mg : Str → Option Value} {base : Heap} {Z : Cs} {Xo : Addr}
/-- check_works: nothing, or the error of the class at Xo -/
def fCheckX (Z : Cs) (Xo : Addr) : FX := fun ds Φ Ψ => ∃ n1 n2 ws us, ds = [dW Z n1 ws, dW Z n2 us] ∧ okS ws ∧ okS us ∧ (n1 = n2 → ws = us → Φ .non) ∧ (¬ (n1 = n2 ∧ ws = us) → Ψ ⟨Xo, [], []⟩)
theorem fCheckX.eq {nm : Str} {ws : List Str} {Φ : D → Prop} {Ψ : Ex → Prop} (o : okS ws) (k : Φ .non) : fCheckX Z Xo [dW Z nm ws, dW Z nm ws] Φ Ψ := ⟨nm, nm, ws, ws, rfl, o, o, fun _ _ => k, fun z => absurd ⟨rfl, rfl⟩ z⟩
theorem fCheckX.ne {n1 n2 : Str} {ws us : List Str} {Φ : D → Prop} {Ψ : Ex → Prop} (o1 : okS ws) (o2 : okS us) (h : ¬ (n1 = n2 ∧ ws = us)) (k : Ψ ⟨Xo, [], []⟩) : fCheckX Z Xo [dW Z n1 ws, dW Z n2 us] Φ Ψ := ⟨n1, n2, ws, us, rfl, o1, o2, fun a b => absurd ⟨a, b⟩ h, fun _ => k⟩
end
end
/-! The words of a law. -/
end Lf
namespace Lf
open PySem L2
local macro_rules | `(tactic| walk_at "nq") => `(tactic| first | with_reducible assumption | with_reducible exact Ne.symm (by assumption) | with_reducible exact ne_of_none (by assumption) (by assumption) | with_reducible exact Ne.symm (ne_of_none (by assumption) (by assumption)))
local macro_rules | `(tactic| walk_at "gt") => `(tactic| first | with_reducible assumption | with_reducible exact upd_same | ((with_reducible refine' upd_new ?ha ?hb); (case hb => with_reducible assumption); (case ha => walk_at "gt")) | ((with_reducible refine' upd_old ?ha ?hb); (case hb => walk_at "nq"); (case ha => walk_at "gt")) | ((with_reducible refine' sm_get ?hb ?ha); (case hb => with_reducible assumption); (case ha => walk_at "gt")) | ((with_reducible refine' fr_get ?hb ?ha ?hc); (case hb => with_reducible assumption); (case hc => walk_at "nq"); (case ha => walk_at "gt")))
local macro_rules | `(tactic| walk_at "sl") => `(tactic| first | with_reducible assumption | ((with_reducible refine' sl_of ?ha); (case ha => walk_at "gt")) | ((with_reducible refine' sl_new ?ha ?hb); (case hb => with_reducible assumption); (case ha => walk_at "sl")) | ((with_reducible refine' sl_sm ?hb ?ha); (case hb => with_reducible assumption); (case ha => walk_at "sl")) | ((with_reducible refine' sl_fr ?hb ?hc ?ha); (case hb => with_reducible assumption); (case hc => walk_at "nq"); (case ha => walk_at "sl")))
local macro_rules | `(tactic| walk_at "st") => `(tactic| first | with_reducible assumption | ((with_reducible refine' st_of ?ha); (case ha => walk_at "gt")) | ((with_reducible refine' st_new ?ha ?hb); (case hb => with_reducible assumption); (case ha => walk_at "st")) | ((with_reducible refine' st_sm ?hb ?ha); (case hb => with_reducible assumption); (case ha => walk_at "st")) | ((with_reducible refine' st_fr ?hb ?hc ?ha); (case hb => with_reducible assumption); (case hc => walk_at "nq"); (case ha => walk_at "st")))
local macro_rules | `(tactic| walk_at "sa") => `(tactic| first | with_reducible assumption | ((with_reducible refine' sa_l ?ha); (case ha => walk_at "gt")) | ((with_reducible refine' sa_t ?ha); (case ha => walk_at "gt")) | ((with_reducible refine' sa_new ?ha ?hb); (case hb => with_reducible assumption); (case ha => walk_at "sa")) | ((with_reducible refine' sa_sm ?hb ?ha); (case hb => with_reducible assumption); (case ha => walk_at "sa")) | ((with_reducible refine' sa_fr ?hb ?hc ?ha); (case hb => with_reducible assumption); (case hc => walk_at "nq"); (case ha => walk_at "sa")) | ((with_reducible refine' Or.inl ?ha); (case ha => walk_at "sl")) | ((with_reducible refine' Or.inr ?ha); (case ha => walk_at "st")))
local macro_rules | `(tactic| walk_at "ln") => `(tactic| first | decide | omega | exact Nat.le_of_ble_eq_true rfl | (simp only [List.length_append, List.length_map, List.length_cons, List.length_nil, List.length_flatMap]; omega))
local macro_rules | `(tactic| walk_at "ty") => `(tactic| first | with_reducible assumption | with_reducible exact .base (.int _) | with_reducible exact .base (.str _) | with_reducible exact .base (.bl _) | with_reducible exact .base .non | ((with_reducible refine' TyX.base (TyOf.lst ?ha)); (case ha => walk_at "gt")) | ((with_reducible refine' TyX.base (TyOf.tup ?ha)); (case ha => walk_at "gt")) | ((with_reducible refine' TyX.base (TyOf.dK ?ha)); (case ha => walk_at "gt")) | ((with_reducible refine' ty_new ?ha ?hb); (case hb => with_reducible assumption); (case ha => walk_at "ty")) | ((with_reducible refine' ty_sm ?hb ?ha); (case hb => with_reducible assumption); (case ha => walk_at "ty")))
local macro_rules | `(tactic| walk_at "kb") => `(tactic| first | with_reducible assumption | exact kb_str_str | exact kb_int_str | exact kb_list_str | exact kb_tuple_str | exact kb_bool_str | exact kb_NoneType_str | exact kb_dict_str | exact kb_str_int | exact kb_int_int | exact kb_list_int | exact kb_tuple_int | exact kb_bool_int | exact kb_NoneType_int | exact kb_dict_int | exact kb_str_bool | exact kb_int_bool | exact kb_list_bool | exact kb_tuple_bool | exact kb_bool_bool | exact kb_NoneType_bool | exact kb_dict_bool | exact kb_str_list | exact kb_int_list | exact kb_list_list | exact kb_tuple_list | exact kb_bool_list | exact kb_NoneType_list | exact kb_dict_list | exact kb_str_tuple | exact kb_int_tuple | exact kb_list_tuple | exact kb_tuple_tuple | exact kb_bool_tuple | exact kb_NoneType_tuple | exact kb_dict_tuple | exact kb_str_dict | exact kb_int_dict | exact kb_list_dict | exact kb_tuple_dict | exact kb_bool_dict | exact kb_NoneType_dict | exact kb_dict_dict)
local macro_rules | `(tactic| walk_at "wk") => `(tactic| first | with_reducible assumption | ((with_reducible refine' WkAt.new ?ha ?hb); (case hb => with_reducible assumption); (case ha => walk_at "wk")) | ((with_reducible refine' WkAt.sm ?hb ?ha); (case hb => with_reducible assumption); (case ha => walk_at "wk")) | ((with_reducible refine' WkAt.dr ?hb ?hc ?ha); (case hb => with_reducible assumption); (case hc => with_reducible assumption); (case ha => walk_at "wk")))
local macro_rules | `(tactic| walk_at "ed") => `(tactic| first | with_reducible assumption | ((with_reducible refine' EdAt.new ?ha ?hb); (case hb => with_reducible assumption); (case ha => walk_at "ed")) | ((with_reducible refine' EdAt.sm ?hb ?ha); (case hb => with_reducible assumption); (case ha => walk_at "ed")) | ((with_reducible refine' EdAt.dr ?hb ?hc ?ha); (case hb => with_reducible assumption); (case hc => with_reducible assumption); (case ha => walk_at "ed")))
local macro_rules | `(tactic| walk_at "pl") => `(tactic| first | with_reducible assumption | ((with_reducible refine' PlAt.new ?ha ?hb); (case hb => with_reducible assumption); (case ha => walk_at "pl")) | ((with_reducible refine' PlAt.sm ?hb ?ha); (case hb => with_reducible assumption); (case ha => walk_at "pl")) | ((with_reducible refine' PlAt.dr ?hb ?hc ?ha); (case hb => with_reducible assumption); (case hc => with_reducible assumption); (case ha => walk_at "pl")))
local macro_rules | `(tactic| walk_at "fl") => `(tactic| first | with_reducible assumption | ((with_reducible refine' WkAt.rows ?hT ?hW); (case hT => assumption); (case hW => walk_at "wk")) | ((with_reducible refine' WkAt.name ?hT ?hW); (case hT => assumption); (case hW => walk_at "wk")) | ((with_reducible refine' EdAt.work ?hT ?hW); (case hT => assumption); (case hW => walk_at "ed")) | ((with_reducible refine' EdAt.nums ?hT ?hW); (case hT => assumption); (case hW => walk_at "ed")) | ((with_reducible refine' PlAt.edition ?hT ?hW); (case hT => assumption); (case hW => walk_at "pl")) | ((with_reducible refine' PlAt.count ?hT ?hW); (case hT => assumption); (case hW => walk_at "pl")))
local macro_rules | `(tactic| walk_at "mt") => `(tactic| first | with_reducible assumption | ((with_reducible refine' WkAt.mt ?hn1 ?hn2 ?hW); (case hW => walk_at "wk"); (case hn1 => decide +kernel); (case hn2 => decide +kernel)) | ((with_reducible refine' EdAt.mt ?hn1 ?hn2 ?hW); (case hW => walk_at "ed"); (case hn1 => decide +kernel); (case hn2 => decide +kernel)) | ((with_reducible refine' PlAt.mt ?hn1 ?hn2 ?hW); (case hW => walk_at "pl"); (case hn1 => decide +kernel); (case hn2 => decide +kernel)))
local macro_rules | `(tactic| walk_at "is") => `(tactic| first | with_reducible assumption | ((with_reducible refine' WkAt.is ?hW); (case hW => walk_at "wk")) | ((with_reducible refine' EdAt.is ?hW); (case hW => walk_at "ed")) | ((with_reducible refine' PlAt.is ?hW); (case hW => walk_at "pl")))
local macro_rules | `(tactic| walk_at "ic") => `(tactic| first
  | ((with_reducible show CMul _ _); first | exact Or.inl ⟨by decide, by decide⟩ | exact Or.inr ⟨by decide, by decide⟩ | exact Or.inl ⟨by omega, by omega⟩ | exact Or.inr ⟨by omega, by omega⟩)
  | ((with_reducible show CDiv _ _); first | exact ⟨by decide, by decide⟩ | exact ⟨by omega, by omega⟩)
  | ((with_reducible show CPow _ _); first | exact ⟨by decide, by decide, by decide⟩ | exact ⟨by decide, by decide, by omega⟩)
  | (show (0 : Int) < _; first | decide | omega))
local macro_rules | `(tactic| walk_at "s1") => `(tactic| first
  | with_reducible refine k_seq ?_
  | with_reducible refine k_set ?_
  | with_reducible refine k_asg ?_
  | with_reducible refine k_par ?_
  | with_reducible refine k_par2 ?_
  | with_reducible refine k_drop ?_
  | with_reducible refine k_ret ?_
  | with_reducible refine k_next ?_
  | with_reducible refine k_if ?_
  | ((with_reducible refine' k_aug ?hv ?_); (case hv => exact rfl))
  | with_reducible refine k_ipI ?_
  | with_reducible refine k_gname ?_
  | with_reducible refine k_gsub ?_
  | ((with_reducible refine' k_gtup ?hv ?hw ?_); (case hv => walk_at "st"); (case hw => rfl))
  | with_reducible refine k_gcons ?_
  | with_reducible refine k_gnil ?_
  | with_reducible refine k_test ?_
  | with_reducible refine k_B ?_
  | with_reducible refine k_blE ?_
  | with_reducible refine k_and ?_
  | with_reducible refine k_or ?_
  | with_reducible refine k_not ?_
  | with_reducible refine iteT ?_
  | with_reducible refine iteF ?_
  | with_reducible refine iteNT ?_
  | with_reducible refine iteNF ?_
  | ((with_reducible refine' k_var ?hv ?_); (case hv => exact rfl))
  | with_reducible refine k_c ?_
  | with_reducible refine k_op ?_
  | with_reducible refine k_un ?_
  | with_reducible refine k_U ?_
  | with_reducible refine k_I0 ?_
  | ((with_reducible refine' k_I ?hv ?_); (case hv => walk_at "ic"))
  | with_reducible refine k_eqI ?_
  | with_reducible refine k_neI ?_
  | with_reducible refine k_eqS ?_
  | with_reducible refine k_neS ?_
  | with_reducible refine k_eqB ?_
  | with_reducible refine k_neB ?_
  | with_reducible refine k_for ?_
  | with_reducible refine k_iE ?_
  | with_reducible refine k_iA ?_
  | ((with_reducible refine' k_itl ?hv ?_); (case hv => walk_at "sl"))
  | ((with_reducible refine' k_itt ?hv ?_); (case hv => walk_at "st"))
  | with_reducible refine k_its ?_
  | ((with_reducible refine' k_rg1n ?hv ?_); (case hv => first | decide | omega))
  | ((with_reducible refine' k_rg1 ?hv ?hw ?_); (case hv => first | decide | omega); (case hw => first | decide | omega))
  | ((with_reducible refine' k_inS ?hv ?_); (case hv => walk_at "sa"))
  | ((with_reducible refine' k_inI ?hv ?_); (case hv => walk_at "sa"))
  | ((with_reducible refine' k_ninS ?hv ?_); (case hv => walk_at "sa"))
  | ((with_reducible refine' k_ninI ?hv ?_); (case hv => walk_at "sa"))
  | ((with_reducible refine' k_zipl ?hv ?hw ?_); (case hv => walk_at "sl"); (case hw => walk_at "sl"))
  | with_reducible refine k_nil ?_
  | with_reducible refine k_cons ?_
  | with_reducible refine k_cb ?_
  | with_reducible refine k_call ?_
  | with_reducible refine k_lst ?_
  | with_reducible refine k_tup ?_
  | with_reducible refine k_ifx ?_
  | with_reducible refine k_andv ?_
  | with_reducible refine k_orv ?_
  | with_reducible refine k_notv ?_
  | with_reducible refine k_inti ?_
  | with_reducible refine k_intb ?_
  | with_reducible refine k_sl ?_
  | with_reducible refine k_nopart ?_
  | with_reducible refine k_part ?_
  | with_reducible refine k_parti ?_
  | ((with_reducible refine' k_lenl ?hv ?_); (case hv => walk_at "sl"))
  | ((with_reducible refine' k_lent ?hv ?_); (case hv => walk_at "st"))
  | ((with_reducible refine' k_lens ?hv ?_); (case hv => exact szl (by walk_at "ln")))
  | ((with_reducible refine' k_lena ?hv ?_); (case hv => walk_at "sa"))
  | ((with_reducible refine' k_ixl ?hv ?hn ?_); (case hv => walk_at "sl"); (case hn => first | rfl | assumption))
  | ((with_reducible refine' k_ixt ?hv ?hn ?_); (case hv => walk_at "st"); (case hn => first | rfl | assumption))
  | ((with_reducible refine' k_ixa ?hv ?hn ?_); (case hv => walk_at "sa"); (case hn => first | rfl | assumption))
  | with_reducible refine k_chain ?_
  | ((with_reducible refine' k_isi ?hv ?hw ?_); (case hv => walk_at "ty"); (case hw => walk_at "kb"))
  | ((with_reducible refine' k_isi2 ?hb ?hp ?hv ?hw ?hx ?_); (case hp => walk_at "gt"); (case hv => walk_at "ty"); (case hw => walk_at "kb"); (case hx => walk_at "kb"); (case hb => first | exact or_t | exact or_f))
  | ((with_reducible refine' k_all ?hv ?_); (case hv => walk_at "gt"))
  | ((with_reducible refine' k_any ?hv ?_); (case hv => walk_at "gt"))
  | with_reducible refine k_insign ?_
  | with_reducible refine k_fldR ?_
  | ((with_reducible refine' k_fl ?hv ?_); (case hv => walk_at "fl"))
  | with_reducible refine k_sfld ?_
  | with_reducible refine k_meth ?_
  | ((with_reducible refine' k_mt ?hv ?_); (case hv => walk_at "mt"))
  | with_reducible refine k_make ?_
  | ((with_reducible refine' k_own ?hv ?hw ?_); (case hv => walk_at "is"); (case hw => walk_at "is"))
  | ((with_reducible refine' k_ownin ?hv ?_); (case hv => walk_at "is"))
  | ((with_reducible refine' k_lenO ?hv ?_); (case hv => walk_at "is"))
  | with_reducible refine k_prop ?_
  | ((with_reducible refine' k_pr ?hv ?_); (case hv => walk_at "is"))
  | ((with_reducible refine' k_ownI ?hv ?_); (case hv => walk_at "is"))
  | ((with_reducible refine' k_ownR ?hv ?_); (case hv => walk_at "is"))
  | with_reducible refine k_mx ?_
  | with_reducible refine k_mn ?_
  | with_reducible refine k_lrg ?_
  | with_reducible refine k_rgt ?_
  | with_reducible refine k_rgti ?_
  | with_reducible refine k_bm ?_
  | with_reducible refine k_bm0 ?_
  | with_reducible refine k_tys ?_
  | ((with_reducible refine' k_tyl ?hv ?_); (case hv => walk_at "sl"))
  | ((with_reducible refine' k_ext ?hv ?hw ?hn ?_); (case hv => walk_at "gt"); (case hw => walk_at "gt"); (case hn => walk_at "ln"))
  | ((with_reducible refine' k_app ?hv ?hn ?_); (case hv => walk_at "gt"); (case hn => walk_at "ln"))
  | ((with_reducible refine' k_popat ?hv ?hn ?hw ?_); (case hv => walk_at "gt"); (case hn => with_reducible assumption); (case hw => walk_at "ln"))
  | with_reducible refine k_lc ?_
  | with_reducible refine k_yes0 ?_
  | ((with_reducible show wipe _ _ = wipe _ _ ∧ _); refine ⟨rfl, ?_⟩)
  | ((with_reducible refine' k_adds ?hv ?_); (case hv => walk_at "ln"))
  | ((with_reducible refine' k_st1 ?hv ?_); (case hv => walk_at "gt"))
  | ((with_reducible refine' k_st2 ?hv ?_); (case hv => walk_at "gt"))
  | ((with_reducible refine' k_st3 ?hv ?_); (case hv => walk_at "gt"))
  | ((with_reducible refine' k_setl ?hv ?hn ?_); (case hv => walk_at "gt"); (case hn => rfl)))
local macro_rules | `(tactic| walk_at "put") => `(tactic| ((refine' ⟨_, ?ha, sz ?hb, ?_⟩); (case ha => walk_at "gt"); (case hb => walk_at "ln")))
local macro_rules | `(tactic| walk_at "go") => `(tactic| repeat (walk_at "s1"))
section
set_option maxRecDepth 100000
set_option maxHeartbeats 2000000

abbrev s_law_all_words : Stmt := top 30
theorem sc_law_all_words : FnScope ["_law_found", "_law_x", "_law_y"] [] (defScope s_law_all_words) := ⟨rfl, rfl, rfl, by decide +kernel, rfl, by decide +kernel, by decide +kernel⟩
abbrev s_law_some_words : Stmt := top 31
theorem sc_law_some_words : FnScope ["_law_state", "_law_many", "_law_left", "_law_found", "_law_k"] ["_law_state", "_law_many"] (defScope s_law_some_words) := ⟨rfl, rfl, rfl, by decide +kernel, rfl, by decide +kernel, by decide +kernel⟩
def aw0 : List Str := ["a", "b", "k", "zz", "abcdefgh"]
def awL : List Nat := (Str.ofString "abcdef").cps.toList
def awR : List Nat := (Str.ofString "ghijklmnop").cps.toList
def awRow (c : Nat) : List Str := awR.map fun d => (⟨#[c]⟩ : Str) ++ (⟨#[d]⟩ : Str)
def allWords : List Str := aw0 ++ awL.flatMap awRow
theorem all_nodup : allWords.Nodup := by decide +kernel
theorem all_len : allWords.length = 65 := by decide +kernel
section
variable {P : Program} {w : World} {K : PySem.W.Frag} {mg : Str → Option Value} {base : Heap}
def spAllWords : Sp := fun vs H Q _ => vs = [] ∧ ∀ l H', Same H H' → H l = none → H' l = some (.lst (allWords.map V.str)) → Q (.ref l) H'
theorem ok_all_words (D : Def K mg "_law_all_words" s_law_all_words) : Cal P w K mg base 1 "_law_all_words" [] spAllWords := by
  refine Cal.of D sc_law_all_words (fun _ _ _ _ _ _ us hl => match us, hl with | [], _ => rfl) (fun vs H Q E h => ?_) (fun f cdv A outer s H vs Q E hr h => ?_)
  · obtain ⟨rfl, _⟩ := h; rfl
  · obtain ⟨rfl, k⟩ := h
    refine ⟨_, (pss_cons (ps_set (i := 0) sc_law_all_words.nd rfl (Or.inl rfl) (pe_lst (pa_cons pe_str (pa_cons pe_str (pa_cons pe_str (pa_cons pe_str (pa_cons pe_str pa_nil)))))))
      (pss_cons (ps_for PassesOwn.never rfl (p_str pe_str) (pg_name (i := 1) sc_law_all_words.nd rfl (Or.inr rfl)) (pss_one (ps_expr (e_bm K PySem.F.plainAttrs_list PySem.F.slot_list_extend PySem.F.type_list_extend mt_extend (pv 0) (pa_cons (pe_lc (own := [("_law_y", 2)]) (g := (gName 2)) rfl sc_law_all_words.nd (p_str pe_str) (blkOk_by (own := [("_law_y", 2)]) (N := ["_law_found", "_law_x", "_law_y"]) (sc := defScope s_law_all_words) (by decide +kernel)) (fun _ _ _ _ _ => (pg_name (i := 2) sc_law_all_words.nd rfl (Or.inl rfl) (.inr rfl))) (fun _ _ _ _ _ => pts_nil) (fun _ _ _ _ _ => (pe_op o_adds (pv 1) (pv 2)))) pa_nil)))))
      (pss_one (ps_ret (pv 0))))), ?_⟩
    walk_at "go"
    refine ⟨Nat.le_of_ble_eq_true rfl, fun l nl => ?_⟩
    walk_at "go"
    refine for_w (walk_str (z := "abcdef")) (fun i σ' H' => ∃ v1 v2, σ' = [some (.ref l), v1, v2] ∧ Same H H' ∧ H' l = some (.lst ((aw0 ++ (awL.take i).flatMap awRow).map V.str))) ⟨_, _, rfl, Same.new (Same.refl H) nl, upd_same⟩ (fun _ _ _ _ _ => trivial) ?_ ?_
    · rintro i x σ' H1 H2 hi ⟨v1, v2, rfl, S1, h1⟩ ⟨rfl, c, hc, rfl⟩
      have hi6 : i < 6 := hi
      have hc' : awL[i]? = some c := by simpa [awL] using hc
      walk_at "go"
      refine lc_w (walk_str (z := "ghijklmnop")) (fun D j H' => Same H2 H' ∧ H' D = some (.lst (((awR.take j).map fun d => (⟨#[c]⟩ : Str) ++ (⟨#[d]⟩ : Str)).map V.str))) (fun D nD => ⟨Same.new (Same.refl _) nD, upd_same⟩) (fun _ _ _ _ _ _ => trivial) ?_ ?_
      · rintro D j y H3 H4 nD hj ⟨S3, h3⟩ ⟨rfl, d, hd, rfl⟩
        have hj10 : j < 10 := hj
        have hd' : awR[j]? = some d := by simpa [awR] using hd
        walk_at "go"
        have e := List.take_add_one (l := awR) (i := j)
        rw [hd'] at e
        have hlen : (awR.take j).length ≤ 10 := Nat.le_trans (List.length_take_le _ _) (by omega)
        refine ⟨_, h3, sz (by rw [List.length_map, List.length_map]; omega), Same.mut S3 nD, ?_⟩
        rw [upd_same, e]
        simp
      · rintro D H3 nD ⟨S3, h3⟩
        have e10 : (awR.take (Str.ofString "ghijklmnop").cps.size) = awR := by decide +kernel
        rw [e10] at h3
        have h1' := S3 _ _ h1
        have hlen : (List.map V.str (aw0 ++ (List.take i awL).flatMap awRow)).length + (List.map V.str (List.map (fun d => (⟨#[c]⟩ : Str) ++ (⟨#[d]⟩ : Str)) awR)).length < 100000 := by
          rw [List.length_map, List.length_map, List.length_map, List.length_append]
          have : ((awL.take i).flatMap awRow).length ≤ 60 := by
            have : i = 0 ∨ i = 1 ∨ i = 2 ∨ i = 3 ∨ i = 4 ∨ i = 5 := by omega
            rcases this with h | h | h | h | h | h <;> subst h <;> decide +kernel
          have h5 : aw0.length = 5 := rfl
          have h10 : awR.length = 10 := by decide +kernel
          omega
        walk_at "go"
        refine ⟨_, _, rfl, ?_, ?_⟩
        · exact Same.mut (S1.trans S3) nl
        · rw [upd_same, List.take_add_one, hc']
          simp [awRow]
    · rintro σ' H1 ⟨v1, v2, rfl, S1, h1⟩
      have e6 : (awL.take (Str.ofString "abcdef").cps.size) = awL := by decide +kernel
      rw [e6] at h1
      walk_at "go"
      exact k l H1 S1 nl h1

theorem map_erase {α β : Type} {f : α → β} : ∀ (l : List α) (n : Nat), (l.map f).eraseIdx n = (l.eraseIdx n).map f
  | [], n => rfl
  | a :: l, 0 => rfl
  | a :: l, n + 1 => by
    show f a :: (l.map f).eraseIdx n = f a :: (l.eraseIdx n).map f
    rw [map_erase l n]
theorem perm_erase {α : Type} : ∀ (l : List α) (n : Nat) (h : n < l.length), (l[n] :: l.eraseIdx n).Perm l
  | [], n, h => absurd h (Nat.not_lt_zero n)
  | a :: l, 0, h => List.Perm.refl _
  | a :: l, n + 1, h => by
    have h' : n < l.length := Nat.lt_of_succ_lt_succ h
    show (l[n] :: a :: l.eraseIdx n).Perm (a :: l)
    exact (List.Perm.swap a l[n] _).trans ((perm_erase l n h').cons a)
/-- n of the words, no two alike -/
def Words (ws : List Str) (n : Nat) : Prop := ws.length = n ∧ ∃ rest, (ws ++ rest).Perm allWords
theorem Words.nodup {ws : List Str} {n : Nat} (h : Words ws n) : ws.Nodup := by
  obtain ⟨_, rest, p⟩ := h
  exact (List.nodup_append.mp (p.nodup_iff.mpr all_nodup)).1
theorem Words.mem {ws : List Str} {n : Nat} (h : Words ws n) {x : Str} (hx : x ∈ ws) : x ∈ allWords := by
  obtain ⟨_, rest, p⟩ := h
  exact p.mem_iff.mp (List.mem_append_left _ hx)
def spSomeWords : Sp := fun vs H Q _ => ∃ (S : Ds) (n : Nat), vs = [.ref S.st, .int (n : Nat)] ∧ Dr H S ∧ n ≤ 60 ∧
  ∀ ws l H', Words ws n → Fr S.st H H' → H l = none → Dr H' S → H' l = some (.lst (ws.map V.str)) → Q (.ref l) H'
theorem ok_some_words (B : Bn mg) (C_law_all_words : Cal P w K mg base 1 "_law_all_words" [] spAllWords) (C_law_take : Cal P w K mg base 2 "_law_take" ["_law_state", "_law_many"] spTake) (D : Def K mg "_law_some_words" s_law_some_words) :
    Cal P w K mg base 3 "_law_some_words" ["_law_state", "_law_many"] spSomeWords := by
  refine Cal.of D sc_law_some_words (fun _ _ _ _ _ _ us hl => match us, hl with | [_, _], _ => rfl) (fun vs H Q E h => ?_) (fun f cdv A outer s H vs Q E hr h => ?_)
  · obtain ⟨_, _, rfl, _⟩ := h; rfl
  · obtain ⟨S, n, rfl, D0, hn, k⟩ := h
    refine ⟨_, (pss_cons (ps_par (i := 2) (j := 3) (by rfl) sc_law_some_words.nd rfl rfl (by decide) rfl rfl (pa_cons (pe_fn0 C_law_all_words hr (by decide)) (pa_cons (pe_lst pa_nil) pa_nil)) (by rfl))
      (pss_cons (ps_for PassesOwn.never rfl (p_range1 B.range (pa_cons (pv 1) pa_nil)) (pg_name (i := 4) sc_law_some_words.nd rfl (Or.inl rfl)) (pss_one (ps_expr (e_bm K PySem.F.plainAttrs_list PySem.F.slot_list_append PySem.F.type_list_append mt_append (pv 3) (pa_cons (e_bm K PySem.F.plainAttrs_list PySem.F.slot_list_pop PySem.F.type_list_pop mt_popAt (pv 2) (pa_cons (pe_fn C_law_take hr (by decide) (pa_cons (pv 0) (pa_cons (pe_callB (n_len K) (by rfl) B.len PySem.boot_len (pa_cons (pv 2) pa_nil)) pa_nil))) pa_nil)) pa_nil)))))
      (pss_one (ps_ret (pv 3))))), ?_⟩
    walk_at "go"
    refine ⟨rfl, fun l0 H1 S1 n0 h0 => ?_⟩
    walk_at "go"
    refine ⟨Nat.le_of_ble_eq_true rfl, fun l1 n1 => ?_⟩
    have n1' : H l1 = none := S1.free n1
    have ne01 : l0 ≠ l1 := ne_of_none h0 n1
    have ns0 : l0 ≠ S.st := D0.ne n0
    have ns1 : l1 ≠ S.st := D0.ne n1'
    walk_at "go"
    refine for_w walk_range (fun i σ' H' => ∃ got rest v, σ' = [some (.ref S.st), some (.int (n : Nat)), some (.ref l0), some (.ref l1), v] ∧ Fr S.st H H' ∧ Dr H' S ∧ H' l1 = some (.lst (got.map V.str)) ∧ H' l0 = some (.lst (rest.map V.str)) ∧ (got ++ rest).Perm allWords ∧ got.length = i)
      ⟨[], allWords, none, rfl, Fr.new (Lf.Same.fr S1) n1, (D0.same S1).new n1, upd_same, upd_new h0 n1, List.Perm.refl _, rfl⟩ (fun _ _ _ _ _ => trivial) ?_ ?_
    · rintro i x σ' H2 H3 hi ⟨got, rest, v, rfl, F2, D2, g1, g0, hp, hg⟩ ⟨rfl, rfl⟩
      have hl : got.length + rest.length = 65 := by
        have := hp.length_eq
        rw [List.length_append, all_len] at this
        exact this
      have hlr : (rest.map V.str).length = rest.length := List.length_map _
      walk_at "go"
      refine ⟨S, _, rfl, D2, by omega, by omega, fun d H4 hd F4 D4 => ?_⟩
      have hd' : d < rest.length := by omega
      have e : (rest.map V.str)[d]? = some (.str rest[d]) := by
        rw [List.getElem?_map, List.getElem?_eq_getElem hd']; rfl
      have g0' := F4 _ _ ns0 g0
      have g1' := F4 _ _ ns1 g1
      walk_at "go"
      refine ⟨got ++ [rest[d]], rest.eraseIdx d, _, rfl, Fr.mut (Fr.mut (F2.trans F4) n0) n1', (D4.mut D0 n0).mut D0 n1', ?_, ?_, ?_, ?_⟩
      · rw [upd_same, List.map_append]; rfl
      · rw [upd_ne ne01, upd_same, map_erase]
      · refine List.Perm.trans ?_ hp
        rw [List.append_assoc]
        exact List.Perm.append_left _ (perm_erase _ _ hd')
      · rw [List.length_append, hg]; rfl
    · rintro σ' H2 ⟨got, rest, v, rfl, F2, D2, g1, g0, hp, hg⟩
      walk_at "go"
      exact k got l1 H2 ⟨hg, rest, hp⟩ F2 n1' D2 g1
end
end
/-! Editions are made; the law's own makers; at the level of data. -/
end Lf
namespace Lf
open PySem L2
local macro_rules | `(tactic| walk_at "nq") => `(tactic| first | with_reducible assumption | with_reducible exact Ne.symm (by assumption) | with_reducible exact ne_of_none (by assumption) (by assumption) | with_reducible exact Ne.symm (ne_of_none (by assumption) (by assumption)))
local macro_rules | `(tactic| walk_at "gt") => `(tactic| first | with_reducible assumption | with_reducible exact upd_same | ((with_reducible refine' upd_new ?ha ?hb); (case hb => with_reducible assumption); (case ha => walk_at "gt")) | ((with_reducible refine' upd_old ?ha ?hb); (case hb => walk_at "nq"); (case ha => walk_at "gt")) | ((with_reducible refine' sm_get ?hb ?ha); (case hb => with_reducible assumption); (case ha => walk_at "gt")) | ((with_reducible refine' fr_get ?hb ?ha ?hc); (case hb => with_reducible assumption); (case hc => walk_at "nq"); (case ha => walk_at "gt")))
local macro_rules | `(tactic| walk_at "sl") => `(tactic| first | with_reducible assumption | ((with_reducible refine' sl_of ?ha); (case ha => walk_at "gt")) | ((with_reducible refine' sl_new ?ha ?hb); (case hb => with_reducible assumption); (case ha => walk_at "sl")) | ((with_reducible refine' sl_sm ?hb ?ha); (case hb => with_reducible assumption); (case ha => walk_at "sl")) | ((with_reducible refine' sl_fr ?hb ?hc ?ha); (case hb => with_reducible assumption); (case hc => walk_at "nq"); (case ha => walk_at "sl")))
local macro_rules | `(tactic| walk_at "st") => `(tactic| first | with_reducible assumption | ((with_reducible refine' st_of ?ha); (case ha => walk_at "gt")) | ((with_reducible refine' st_new ?ha ?hb); (case hb => with_reducible assumption); (case ha => walk_at "st")) | ((with_reducible refine' st_sm ?hb ?ha); (case hb => with_reducible assumption); (case ha => walk_at "st")) | ((with_reducible refine' st_fr ?hb ?hc ?ha); (case hb => with_reducible assumption); (case hc => walk_at "nq"); (case ha => walk_at "st")))
local macro_rules | `(tactic| walk_at "sa") => `(tactic| first | with_reducible assumption | ((with_reducible refine' sa_l ?ha); (case ha => walk_at "gt")) | ((with_reducible refine' sa_t ?ha); (case ha => walk_at "gt")) | ((with_reducible refine' sa_new ?ha ?hb); (case hb => with_reducible assumption); (case ha => walk_at "sa")) | ((with_reducible refine' sa_sm ?hb ?ha); (case hb => with_reducible assumption); (case ha => walk_at "sa")) | ((with_reducible refine' sa_fr ?hb ?hc ?ha); (case hb => with_reducible assumption); (case hc => walk_at "nq"); (case ha => walk_at "sa")) | ((with_reducible refine' Or.inl ?ha); (case ha => walk_at "sl")) | ((with_reducible refine' Or.inr ?ha); (case ha => walk_at "st")))
local macro_rules | `(tactic| walk_at "ln") => `(tactic| first | decide | omega | exact Nat.le_of_ble_eq_true rfl | (simp only [List.length_append, List.length_map, List.length_cons, List.length_nil, List.length_flatMap]; omega))
local macro_rules | `(tactic| walk_at "ty") => `(tactic| first | with_reducible assumption | with_reducible exact .base (.int _) | with_reducible exact .base (.str _) | with_reducible exact .base (.bl _) | with_reducible exact .base .non | ((with_reducible refine' TyX.base (TyOf.lst ?ha)); (case ha => walk_at "gt")) | ((with_reducible refine' TyX.base (TyOf.tup ?ha)); (case ha => walk_at "gt")) | ((with_reducible refine' TyX.base (TyOf.dK ?ha)); (case ha => walk_at "gt")) | ((with_reducible refine' ty_new ?ha ?hb); (case hb => with_reducible assumption); (case ha => walk_at "ty")) | ((with_reducible refine' ty_sm ?hb ?ha); (case hb => with_reducible assumption); (case ha => walk_at "ty")))
local macro_rules | `(tactic| walk_at "kb") => `(tactic| first | with_reducible assumption | exact kb_str_str | exact kb_int_str | exact kb_list_str | exact kb_tuple_str | exact kb_bool_str | exact kb_NoneType_str | exact kb_dict_str | exact kb_str_int | exact kb_int_int | exact kb_list_int | exact kb_tuple_int | exact kb_bool_int | exact kb_NoneType_int | exact kb_dict_int | exact kb_str_bool | exact kb_int_bool | exact kb_list_bool | exact kb_tuple_bool | exact kb_bool_bool | exact kb_NoneType_bool | exact kb_dict_bool | exact kb_str_list | exact kb_int_list | exact kb_list_list | exact kb_tuple_list | exact kb_bool_list | exact kb_NoneType_list | exact kb_dict_list | exact kb_str_tuple | exact kb_int_tuple | exact kb_list_tuple | exact kb_tuple_tuple | exact kb_bool_tuple | exact kb_NoneType_tuple | exact kb_dict_tuple | exact kb_str_dict | exact kb_int_dict | exact kb_list_dict | exact kb_tuple_dict | exact kb_bool_dict | exact kb_NoneType_dict | exact kb_dict_dict)
local macro_rules | `(tactic| walk_at "wk") => `(tactic| first | with_reducible assumption | ((with_reducible refine' WkAt.new ?ha ?hb); (case hb => with_reducible assumption); (case ha => walk_at "wk")) | ((with_reducible refine' WkAt.sm ?hb ?ha); (case hb => with_reducible assumption); (case ha => walk_at "wk")) | ((with_reducible refine' WkAt.dr ?hb ?hc ?ha); (case hb => with_reducible assumption); (case hc => with_reducible assumption); (case ha => walk_at "wk")))
local macro_rules | `(tactic| walk_at "ed") => `(tactic| first | with_reducible assumption | ((with_reducible refine' EdAt.new ?ha ?hb); (case hb => with_reducible assumption); (case ha => walk_at "ed")) | ((with_reducible refine' EdAt.sm ?hb ?ha); (case hb => with_reducible assumption); (case ha => walk_at "ed")) | ((with_reducible refine' EdAt.dr ?hb ?hc ?ha); (case hb => with_reducible assumption); (case hc => with_reducible assumption); (case ha => walk_at "ed")))
local macro_rules | `(tactic| walk_at "pl") => `(tactic| first | with_reducible assumption | ((with_reducible refine' PlAt.new ?ha ?hb); (case hb => with_reducible assumption); (case ha => walk_at "pl")) | ((with_reducible refine' PlAt.sm ?hb ?ha); (case hb => with_reducible assumption); (case ha => walk_at "pl")) | ((with_reducible refine' PlAt.dr ?hb ?hc ?ha); (case hb => with_reducible assumption); (case hc => with_reducible assumption); (case ha => walk_at "pl")))
local macro_rules | `(tactic| walk_at "fl") => `(tactic| first | with_reducible assumption | ((with_reducible refine' WkAt.rows ?hT ?hW); (case hT => assumption); (case hW => walk_at "wk")) | ((with_reducible refine' WkAt.name ?hT ?hW); (case hT => assumption); (case hW => walk_at "wk")) | ((with_reducible refine' EdAt.work ?hT ?hW); (case hT => assumption); (case hW => walk_at "ed")) | ((with_reducible refine' EdAt.nums ?hT ?hW); (case hT => assumption); (case hW => walk_at "ed")) | ((with_reducible refine' PlAt.edition ?hT ?hW); (case hT => assumption); (case hW => walk_at "pl")) | ((with_reducible refine' PlAt.count ?hT ?hW); (case hT => assumption); (case hW => walk_at "pl")))
local macro_rules | `(tactic| walk_at "mt") => `(tactic| first | with_reducible assumption | ((with_reducible refine' WkAt.mt ?hn1 ?hn2 ?hW); (case hW => walk_at "wk"); (case hn1 => decide +kernel); (case hn2 => decide +kernel)) | ((with_reducible refine' EdAt.mt ?hn1 ?hn2 ?hW); (case hW => walk_at "ed"); (case hn1 => decide +kernel); (case hn2 => decide +kernel)) | ((with_reducible refine' PlAt.mt ?hn1 ?hn2 ?hW); (case hW => walk_at "pl"); (case hn1 => decide +kernel); (case hn2 => decide +kernel)))
local macro_rules | `(tactic| walk_at "is") => `(tactic| first | with_reducible assumption | ((with_reducible refine' WkAt.is ?hW); (case hW => walk_at "wk")) | ((with_reducible refine' EdAt.is ?hW); (case hW => walk_at "ed")) | ((with_reducible refine' PlAt.is ?hW); (case hW => walk_at "pl")))
local macro_rules | `(tactic| walk_at "ic") => `(tactic| first
  | ((with_reducible show CMul _ _); first | exact Or.inl ⟨by decide, by decide⟩ | exact Or.inr ⟨by decide, by decide⟩ | exact Or.inl ⟨by omega, by omega⟩ | exact Or.inr ⟨by omega, by omega⟩)
  | ((with_reducible show CDiv _ _); first | exact ⟨by decide, by decide⟩ | exact ⟨by omega, by omega⟩)
  | ((with_reducible show CPow _ _); first | exact ⟨by decide, by decide, by decide⟩ | exact ⟨by decide, by decide, by omega⟩)
  | (show (0 : Int) < _; first | decide | omega))
local macro_rules | `(tactic| walk_at "s1") => `(tactic| first
  | with_reducible refine k_seq ?_
  | with_reducible refine k_set ?_
  | with_reducible refine k_asg ?_
  | with_reducible refine k_par ?_
  | with_reducible refine k_par2 ?_
  | with_reducible refine k_drop ?_
  | with_reducible refine k_ret ?_
  | with_reducible refine k_next ?_
  | with_reducible refine k_if ?_
  | ((with_reducible refine' k_aug ?hv ?_); (case hv => exact rfl))
  | with_reducible refine k_ipI ?_
  | with_reducible refine k_gname ?_
  | with_reducible refine k_gsub ?_
  | ((with_reducible refine' k_gtup ?hv ?hw ?_); (case hv => walk_at "st"); (case hw => rfl))
  | with_reducible refine k_gcons ?_
  | with_reducible refine k_gnil ?_
  | with_reducible refine k_test ?_
  | with_reducible refine k_B ?_
  | with_reducible refine k_blE ?_
  | with_reducible refine k_and ?_
  | with_reducible refine k_or ?_
  | with_reducible refine k_not ?_
  | with_reducible refine iteT ?_
  | with_reducible refine iteF ?_
  | with_reducible refine iteNT ?_
  | with_reducible refine iteNF ?_
  | ((with_reducible refine' k_var ?hv ?_); (case hv => exact rfl))
  | with_reducible refine k_c ?_
  | with_reducible refine k_op ?_
  | with_reducible refine k_un ?_
  | with_reducible refine k_U ?_
  | with_reducible refine k_I0 ?_
  | ((with_reducible refine' k_I ?hv ?_); (case hv => walk_at "ic"))
  | with_reducible refine k_eqI ?_
  | with_reducible refine k_neI ?_
  | with_reducible refine k_eqS ?_
  | with_reducible refine k_neS ?_
  | with_reducible refine k_eqB ?_
  | with_reducible refine k_neB ?_
  | with_reducible refine k_for ?_
  | with_reducible refine k_iE ?_
  | with_reducible refine k_iA ?_
  | ((with_reducible refine' k_itl ?hv ?_); (case hv => walk_at "sl"))
  | ((with_reducible refine' k_itt ?hv ?_); (case hv => walk_at "st"))
  | with_reducible refine k_its ?_
  | ((with_reducible refine' k_rg1n ?hv ?_); (case hv => first | decide | omega))
  | ((with_reducible refine' k_rg1 ?hv ?hw ?_); (case hv => first | decide | omega); (case hw => first | decide | omega))
  | ((with_reducible refine' k_inS ?hv ?_); (case hv => walk_at "sa"))
  | ((with_reducible refine' k_inI ?hv ?_); (case hv => walk_at "sa"))
  | ((with_reducible refine' k_ninS ?hv ?_); (case hv => walk_at "sa"))
  | ((with_reducible refine' k_ninI ?hv ?_); (case hv => walk_at "sa"))
  | ((with_reducible refine' k_zipl ?hv ?hw ?_); (case hv => walk_at "sl"); (case hw => walk_at "sl"))
  | with_reducible refine k_nil ?_
  | with_reducible refine k_cons ?_
  | with_reducible refine k_cb ?_
  | with_reducible refine k_call ?_
  | with_reducible refine k_lst ?_
  | with_reducible refine k_tup ?_
  | with_reducible refine k_ifx ?_
  | with_reducible refine k_andv ?_
  | with_reducible refine k_orv ?_
  | with_reducible refine k_notv ?_
  | with_reducible refine k_inti ?_
  | with_reducible refine k_intb ?_
  | with_reducible refine k_sl ?_
  | with_reducible refine k_nopart ?_
  | with_reducible refine k_part ?_
  | with_reducible refine k_parti ?_
  | ((with_reducible refine' k_lenl ?hv ?_); (case hv => walk_at "sl"))
  | ((with_reducible refine' k_lent ?hv ?_); (case hv => walk_at "st"))
  | ((with_reducible refine' k_lens ?hv ?_); (case hv => exact szl (by walk_at "ln")))
  | ((with_reducible refine' k_lena ?hv ?_); (case hv => walk_at "sa"))
  | ((with_reducible refine' k_ixl ?hv ?hn ?_); (case hv => walk_at "sl"); (case hn => first | rfl | assumption))
  | ((with_reducible refine' k_ixt ?hv ?hn ?_); (case hv => walk_at "st"); (case hn => first | rfl | assumption))
  | ((with_reducible refine' k_ixa ?hv ?hn ?_); (case hv => walk_at "sa"); (case hn => first | rfl | assumption))
  | with_reducible refine k_chain ?_
  | ((with_reducible refine' k_isi ?hv ?hw ?_); (case hv => walk_at "ty"); (case hw => walk_at "kb"))
  | ((with_reducible refine' k_isi2 ?hb ?hp ?hv ?hw ?hx ?_); (case hp => walk_at "gt"); (case hv => walk_at "ty"); (case hw => walk_at "kb"); (case hx => walk_at "kb"); (case hb => first | exact or_t | exact or_f))
  | ((with_reducible refine' k_all ?hv ?_); (case hv => walk_at "gt"))
  | ((with_reducible refine' k_any ?hv ?_); (case hv => walk_at "gt"))
  | with_reducible refine k_insign ?_
  | with_reducible refine k_fldR ?_
  | ((with_reducible refine' k_fl ?hv ?_); (case hv => walk_at "fl"))
  | with_reducible refine k_sfld ?_
  | with_reducible refine k_meth ?_
  | ((with_reducible refine' k_mt ?hv ?_); (case hv => walk_at "mt"))
  | with_reducible refine k_make ?_
  | ((with_reducible refine' k_own ?hv ?hw ?_); (case hv => walk_at "is"); (case hw => walk_at "is"))
  | ((with_reducible refine' k_ownin ?hv ?_); (case hv => walk_at "is"))
  | ((with_reducible refine' k_lenO ?hv ?_); (case hv => walk_at "is"))
  | with_reducible refine k_prop ?_
  | ((with_reducible refine' k_pr ?hv ?_); (case hv => walk_at "is"))
  | ((with_reducible refine' k_ownI ?hv ?_); (case hv => walk_at "is"))
  | ((with_reducible refine' k_ownR ?hv ?_); (case hv => walk_at "is"))
  | with_reducible refine k_mx ?_
  | with_reducible refine k_mn ?_
  | with_reducible refine k_lrg ?_
  | with_reducible refine k_rgt ?_
  | with_reducible refine k_rgti ?_
  | with_reducible refine k_bm ?_
  | with_reducible refine k_bm0 ?_
  | with_reducible refine k_tys ?_
  | ((with_reducible refine' k_tyl ?hv ?_); (case hv => walk_at "sl"))
  | ((with_reducible refine' k_ext ?hv ?hw ?hn ?_); (case hv => walk_at "gt"); (case hw => walk_at "gt"); (case hn => walk_at "ln"))
  | ((with_reducible refine' k_app ?hv ?hn ?_); (case hv => walk_at "gt"); (case hn => walk_at "ln"))
  | ((with_reducible refine' k_popat ?hv ?hn ?hw ?_); (case hv => walk_at "gt"); (case hn => with_reducible assumption); (case hw => walk_at "ln"))
  | with_reducible refine k_lc ?_
  | with_reducible refine k_yes0 ?_
  | ((with_reducible show wipe _ _ = wipe _ _ ∧ _); refine ⟨rfl, ?_⟩)
  | ((with_reducible refine' k_adds ?hv ?_); (case hv => walk_at "ln"))
  | ((with_reducible refine' k_st1 ?hv ?_); (case hv => walk_at "gt"))
  | ((with_reducible refine' k_st2 ?hv ?_); (case hv => walk_at "gt"))
  | ((with_reducible refine' k_st3 ?hv ?_); (case hv => walk_at "gt"))
  | ((with_reducible refine' k_setl ?hv ?hn ?_); (case hv => walk_at "gt"); (case hn => rfl)))
local macro_rules | `(tactic| walk_at "put") => `(tactic| ((refine' ⟨_, ?ha, sz ?hb, ?_⟩); (case ha => walk_at "gt"); (case hb => walk_at "ln")))
local macro_rules | `(tactic| walk_at "go") => `(tactic| repeat (walk_at "s1"))
local macro_rules | `(tactic| walk_at "dv") => `(tactic| first | exact rfl | with_reducible assumption)
local macro_rules | `(tactic| walk_at "dt") => `(tactic| first | with_reducible assumption | with_reducible exact .int | with_reducible exact .str | with_reducible exact .bl | with_reducible exact .non | with_reducible exact .lst | with_reducible exact .tup | with_reducible exact .dk | ((with_reducible refine' TyD.ins ?hc); (case hc => with_reducible assumption)))
local macro_rules | `(tactic| walk_at "dm") => `(tactic| first | exact trivial | exact List.mem_cons_self | exact List.mem_cons_of_mem _ List.mem_cons_self | exact List.mem_cons_of_mem _ (List.mem_cons_of_mem _ List.mem_cons_self))
local macro_rules | `(tactic| walk_at "dy") => `(tactic| first | exact Or.inl rfl | exact Or.inr rfl)
local macro_rules | `(tactic| walk_at "xExD") => `(tactic| first
  | ((with_reducible refine' ex_re ?hX ?_); (case hX => assumption))
  | ((with_reducible refine' ex_re2 ?hX ?_); (case hX => assumption))
  | ((with_reducible refine' ex_rz ?hX ?_); (case hX => assumption)))
local macro_rules | `(tactic| walk_at "xOpD") => `(tactic| first
  | ((with_reducible refine' od_ownX ?hX ?_); (case hX => assumption))
  | ((with_reducible refine' od_ownIX ?hX ?_); (case hX => assumption)))
local macro_rules | `(tactic| walk_at "xEvD") => `(tactic| first
  | ((with_reducible refine' ev_callT ?hX ?_); (case hX => assumption))
  | ((with_reducible refine' ev_callX ?hX ?_); (case hX => assumption))
  | ((with_reducible refine' ev_methX ?hX ?_); (case hX => assumption))
  | ((with_reducible refine' ev_makeX ?hX ?_); (case hX => assumption))
  | ((with_reducible refine' ev_kwX ?hX ?_); (case hX => assumption))
  | ((with_reducible refine' ev_mkKwX ?hX ?_); (case hX => assumption)))
local macro_rules | `(tactic| walk_at "gEvD") => `(tactic| first
  | ((with_reducible refine' ev_var ?hv ?_); (case hv => exact rfl))
  | ((with_reducible refine' ev_varO ?hv ?_); (case hv => exact rfl))
  | with_reducible refine ev_ci ?_
  | with_reducible refine ev_cs ?_
  | with_reducible refine ev_cb ?_
  | with_reducible refine ev_cn ?_
  | ((with_reducible refine' ev_kt ?h ?_); (case h => with_reducible assumption))
  | with_reducible refine ev_cr ?_
  | with_reducible refine ev_ct ?_
  | with_reducible refine ev_new (evN_op (r := rCat) ?_)
  | with_reducible refine ev_new (evN_op (r := rRep) ?_)
  | ((with_reducible refine' ev_ixO ?hv ?_); (case hv => exact rfl))
  | with_reducible refine ev_op ?_
  | with_reducible refine ev_un ?_
  | with_reducible refine ev_isi2 ?_
  | with_reducible refine ev_isi4 ?_
  | ((with_reducible refine' ev_new (evN_listO ?hv ?_)); (case hv => exact rfl))
  | with_reducible refine ev_new (evN_cb1 (f := rListOf _) ?_)
  | ((with_reducible refine' ev_lenO ?hv ?_); (case hv => exact rfl))
  | with_reducible refine ev_cb1 ?_
  | with_reducible refine ev_lst ?_
  | with_reducible refine ev_dnew ?_
  | with_reducible refine ev_tup ?_
  | with_reducible refine ev_if ?_
  | with_reducible refine ev_and ?_
  | with_reducible refine ev_or ?_
  | with_reducible refine ev_not ?_
  | with_reducible refine ev_chain ?_
  | ((with_reducible refine' ev_new (evN_lcO ?hv ?_)); (case hv => exact rfl))
  | with_reducible refine ev_new (evN_lc ?_)
  | with_reducible refine ev_new (evN_sl ?_)
  | with_reducible refine ev_slT ?_
  | ((with_reducible refine' ev_fldS (n := 0) ?hv ?hc ?hn ?h1 ?h2 ?_); (case hv => exact rfl); (case hc => with_reducible assumption); (case hn => with_reducible assumption); (case h1 => decide +kernel); (case h2 => exact rfl))
  | ((with_reducible refine' ev_fldS (n := 1) ?hv ?hc ?hn ?h1 ?h2 ?_); (case hv => exact rfl); (case hc => with_reducible assumption); (case hn => with_reducible assumption); (case h1 => decide +kernel); (case h2 => exact rfl))
  | ((with_reducible refine' ev_fldS (n := 2) ?hv ?hc ?hn ?h1 ?h2 ?_); (case hv => exact rfl); (case hc => with_reducible assumption); (case hn => with_reducible assumption); (case h1 => decide +kernel); (case h2 => exact rfl))
  | ((with_reducible refine' ev_fldS (n := 3) ?hv ?hc ?hn ?h1 ?h2 ?_); (case hv => exact rfl); (case hc => with_reducible assumption); (case hn => with_reducible assumption); (case h1 => decide +kernel); (case h2 => exact rfl))
  | with_reducible refine ev_fld ?_
  | with_reducible refine ev_call ?_
  | with_reducible refine ev_kw ?_
  | with_reducible refine ev_mkKw ?_
  | with_reducible refine ev_meth ?_
  | with_reducible refine ev_prop ?_
  | with_reducible refine ev_make ?_)
local macro_rules | `(tactic| walk_at "gOpD") => `(tactic| first
  | with_reducible refine od_int ?_
  | with_reducible refine od_bl ?_
  | ((with_reducible refine' od_I ?hv ?_); (case hv => walk_at "ic"))
  | with_reducible refine od_ip ?_
  | with_reducible refine od_eqI ?_
  | with_reducible refine od_neI ?_
  | with_reducible refine od_eqS ?_
  | with_reducible refine od_neS ?_
  | with_reducible refine od_eqB ?_
  | with_reducible refine od_neB ?_
  | with_reducible refine od_isbl ?_
  | ((with_reducible refine' od_ixl ?hv ?_); (case hv => walk_at "dv"))
  | ((with_reducible refine' od_ixt ?hv ?_); (case hv => walk_at "dv"))
  | ((with_reducible refine' od_ixL ?hv ?_); (case hv => walk_at "dv"))
  | ((with_reducible refine' od_ixT ?hv ?_); (case hv => walk_at "dv"))
  | ((with_reducible refine' od_inN ?hv ?_); (case hv => walk_at "dy"))
  | ((with_reducible refine' od_inI ?hv ?_); (case hv => walk_at "dy"))
  | ((with_reducible refine' od_inS ?hv ?_); (case hv => walk_at "dy"))
  | with_reducible refine od_sign ?_
  | ((with_reducible refine' od_adds ?hv ?_); (case hv => walk_at "ln"))
  | with_reducible refine od_own ?_
  | with_reducible refine od_ownI ?_
  | with_reducible refine od_ownR ?_
  | with_reducible refine od_ownin ?_)
local macro_rules | `(tactic| walk_at "gExD") => `(tactic| first
  | with_reducible refine ex_seq ?_
  | ((with_reducible refine' ex_new (te := tLst tNil) ?hi ?_); (case hi => exact Nat.le_of_ble_eq_true rfl))
  | ((with_reducible refine' ex_newO ?hi ?_); (case hi => exact Nat.le_of_ble_eq_true rfl))
  | with_reducible refine ex_set ?_
  | with_reducible refine ex_asg ?_
  | ((with_reducible refine' ex_par ?hi ?_); (case hi => decide))
  | with_reducible refine ex_par3 ?_
  | ((with_reducible refine' ex_retO ?hv ?_); (case hv => exact rfl))
  | with_reducible refine ex_ret ?_
  | with_reducible refine ex_retN ?_
  | with_reducible refine ex_next ?_
  | with_reducible refine ex_break ?_
  | with_reducible refine ex_cont ?_
  | with_reducible refine ex_ifB ?_
  | ((with_reducible refine' ex_aug ?hv ?_); (case hv => exact rfl))
  | ((with_reducible refine' ex_app ?hv ?hl ?_); (case hv => exact rfl); (case hl => walk_at "ln"))
  | ((with_reducible refine' ex_insO ?hv ?hl ?_); (case hv => exact rfl); (case hl => walk_at "ln"))
  | ((with_reducible refine' ex_fld ?hv ?hc ?hn ?hl ?_); (case hv => exact rfl); (case hc => with_reducible assumption); (case hn => with_reducible assumption); (case hl => exact Nat.le_of_ble_eq_true rfl))
  | ((with_reducible refine' ex_extO ?hv ?_); (case hv => exact rfl))
  | ((with_reducible refine' ex_clrO ?hv ?_); (case hv => exact rfl))
  | with_reducible refine ex_drop ?_
  | with_reducible refine ex_for ?_)
local macro_rules | `(tactic| walk_at "gEvT") => `(tactic| first
  | with_reducible refine et_test ?_
  | with_reducible refine et_B ?_
  | with_reducible refine et_and ?_
  | with_reducible refine et_or ?_
  | with_reducible refine et_not ?_
  | with_reducible refine et_yes ?_)
local macro_rules | `(tactic| walk_at "gite") => `(tactic| first
  | with_reducible refine iteT ?_
  | with_reducible refine iteF ?_
  | with_reducible refine iteNT ?_
  | with_reducible refine iteNF ?_)
local macro_rules | `(tactic| walk_at "gUnD") => `(tactic| first
  | with_reducible refine ud_U ?_
  | ((with_reducible refine' fW_name ?hT ?_); (case hT => assumption))
  | ((with_reducible refine' fW_rows ?hT ?_); (case hT => assumption))
  | ((with_reducible refine' fE_work ?hT ?_); (case hT => assumption))
  | ((with_reducible refine' fE_nums ?hT ?_); (case hT => assumption))
  | ((with_reducible refine' fP_edition ?hT ?_); (case hT => assumption))
  | ((with_reducible refine' fP_count ?hT ?_); (case hT => assumption))
  | ((with_reducible refine' fK_work ?hT ?_); (case hT => assumption))
  | ((with_reducible refine' fK_rows ?hT ?_); (case hT => assumption))
  | ((with_reducible refine' fK_told ?hT ?_); (case hT => assumption))
  | ((with_reducible refine' fS_rule ?hT ?_); (case hT => assumption))
  | ((with_reducible refine' fS_tables ?hT ?_); (case hT => assumption))
  | ((with_reducible refine' fS_spots ?hT ?_); (case hT => assumption))
  | ((with_reducible refine' fS_held ?hT ?_); (case hT => assumption))
  | ((with_reducible refine' fS_stamps ?hT ?_); (case hT => assumption))
  | ((with_reducible refine' fS_row ?hT ?_); (case hT => assumption))
  | ((with_reducible refine' fS_top ?hT ?_); (case hT => assumption))
  | ((with_reducible refine' fS_come ?hT ?_); (case hT => assumption))
  | ((with_reducible refine' fR_parts ?hT ?_); (case hT => assumption))
  | ((with_reducible refine' fR_way ?hT ?_); (case hT => assumption)))
local macro_rules | `(tactic| walk_at "gCbD") => `(tactic| first
  | ((with_reducible refine' cd_isi ?ht ?hk ?_); (case ht => walk_at "dt"); (case hk => walk_at "kb"))
  | ((with_reducible refine' cd_isiO ?ht ?hk ?_); (case ht => walk_at "dt"); (case hk => first | with_reducible assumption | exact kit_same))
  | ((with_reducible refine' cd_lens ?hv ?_); (case hv => walk_at "ln"))
  | with_reducible refine cd_len ?_
  | with_reducible refine cd_all ?_
  | with_reducible refine cd_any ?_
  | with_reducible refine cd_int ?_
  | with_reducible refine cd_intb ?_
  | with_reducible refine cd_mx ?_
  | with_reducible refine cd_mn ?_
  | with_reducible refine cd_tuple ?_
  | with_reducible refine cd_lenO ?_)
local macro_rules | `(tactic| walk_at "gEvI") => `(tactic| first
  | with_reducible refine ei_seq ?_
  | with_reducible refine ei_str ?_
  | with_reducible refine ei_rg1 ?_
  | with_reducible refine ei_rg2 ?_
  | with_reducible refine ei_enum ?_
  | with_reducible refine ei_zip ?_
  | with_reducible refine ei_zipA ?_
  | with_reducible refine ei_zipB ?_
  | with_reducible refine ei_zipB3 ?_)
local macro_rules | `(tactic| walk_at "gEvN") => `(tactic| first
  | ((with_reducible refine' evN_listO ?hv ?_); (case hv => exact rfl))
  | ((with_reducible refine' evN_lcO ?hv ?_); (case hv => exact rfl))
  | with_reducible refine evN_lc ?_
  | with_reducible refine evN_sl ?_
  | with_reducible refine evN_op ?_
  | with_reducible refine evN_cb1 ?_
  | with_reducible refine evN_lst ?_)
local macro_rules | `(tactic| walk_at "d1") => `(tactic| first
  | ((with_reducible show EvD _ _ _ _ _); walk_at "gEvD")
  | ((with_reducible show OpD _ _ _ _ _ _); walk_at "gOpD")
  | with_reducible refine ev_nil ?_
  | with_reducible refine ev_cons ?_
  | ((with_reducible show ExD _ _ _ _ _); walk_at "gExD")
  | ((with_reducible show EvT _ _ _ _ _); walk_at "gEvT")
  | with_reducible refine isB_mk ?_
  | walk_at "gite"
  | ((with_reducible show UnD _ _ _ _ _); walk_at "gUnD")
  | ((with_reducible show CbD _ _ _ _ _); walk_at "gCbD")
  | ((with_reducible refine' tg_name ?hi ?_); (case hi => walk_at "dm"))
  | ((with_reducible refine' tg_tup ?hi ?_); (case hi => exact rfl))
  | ((with_reducible refine' tg_unl ?hi ?_); (case hi => exact rfl))
  | with_reducible refine tg_cons ?_
  | with_reducible refine tg_nil ?_
  | ((with_reducible show EvI _ _ _ _ _); walk_at "gEvI")
  | ((with_reducible refine' few_mk ?hl ?_); (case hl => exact Nat.le_of_ble_eq_true rfl))
  | ((with_reducible show EvN _ _ _ _ _); walk_at "gEvN")
  | ((with_reducible refine' on_cat ?hv ?_); (case hv => walk_at "ln"))
  | ((with_reducible refine' on_rep ?hv ?hw ?_); (case hv => walk_at "ln"); (case hw => walk_at "ln"))
  | with_reducible refine cn_list ?_
  | with_reducible refine eo_no ?_
  | with_reducible refine eo_part ?_
  | with_reducible refine seq_l ?_
  | with_reducible refine seq_t ?_
  | with_reducible refine ⟨insD_mk (by decide +kernel), ?_⟩)
local macro_rules | `(tactic| walk_at "dx") => `(tactic| first
  | ((with_reducible show EvD _ _ _ _ _); walk_at "xEvD")
  | ((with_reducible show OpD _ _ _ _ _ _); walk_at "xOpD")
  | ((with_reducible show ExD _ _ _ _ _); walk_at "xExD"))
local macro_rules | `(tactic| walk_at "dX") => `(tactic| repeat (first | walk_at "d1" | walk_at "dx"))
local macro_rules | `(tactic| walk_at "dg") => `(tactic| repeat (walk_at "d1"))
section
set_option maxRecDepth 100000
set_option maxHeartbeats 2000000

theorem all_isW : ∀ x ∈ allWords, isW x = true := by decide +kernel
theorem Words.good {ws : List Str} {n : Nat} (h : Words ws n) (h1 : 1 ≤ n) (h2 : n ≤ 60) : Good ws :=
  ⟨fun e => by have := h.1; rw [e] at this; simp at this; omega, h.nodup, fun x hx => all_isW x (h.mem hx), by have := h.1; omega⟩
section
variable {P : Program} {w : World} {K : PySem.W.Frag} {mg : Str → Option Value} {base : Heap} {Z : Cs}
/-! ### the law's makers -/
def fSomeWords : FD := fun ds Φ => ∃ n : Nat, ds = [.drw, .int (n : Int)] ∧ n ≤ 60 ∧ ∀ ws, Words ws n → Φ (.lst (dS ws))
theorem sp_some {vs : List V} {H : Hp} {Q : VK} {E : XK} (h : spD K fSomeWords vs H Q E) : spSomeWords vs H Q E := by
  obtain ⟨S, F, ds, Φ, s, dr, hd, ⟨n, rfl, h1, h3⟩, q⟩ := h
  obtain ⟨v, _, rfl, ⟨z, ez, rfl⟩, v2, _, rfl, h5, e⟩ := hd
  cases e; cases h5
  have dz := (dr.1.1 z ez).1
  refine ⟨z, n, rfl, dz, h1, fun ws l H' hw f hn d' hl => ?_⟩
  have nF : F l = none := s.free hn
  have g := (ag_draw ez s dr f d' (tabs_fr dr.1.2.1 dz f)).frz dr (.of hn) nF hl (fun s' e => by rw [ez] at e; cases e; exact dz.ne hn)
  exact q _ (.lst (dS ws)) _ H' (h3 ws hw) ⟨l, _, rfl, upd_same, dats_dS.mpr rfl⟩ g
theorem Cal.some (C : Cal P w K mg base 3 "_law_some_words" ["_law_state", "_law_many"] spSomeWords) : Cal P w K mg base 3 "_law_some_words" ["_law_state", "_law_many"] (spD K fSomeWords) := C.imp (Nat.le_refl _) fun vs H Q E h => sp_some h
theorem rgN_get {n i : Nat} {d : D} (h : (rgN n)[i]? = some d) : i < n ∧ d = .int (i : Int) := by
  unfold rgN at h
  obtain ⟨k, hk, rfl⟩ := dN_get h
  have hi : i < n := by have := (List.getElem?_eq_some_iff.mp hk).1; rw [List.length_range] at this; exact this
  rw [List.getElem?_range hi] at hk
  cases hk
  exact ⟨hi, rfl⟩
theorem rgN_len (n : Nat) : (rgN n).length = n := by unfold rgN; rw [dN_len, List.length_range]
end
end
/-! The law's own cuts and kernels, sizes of works. -/
section
set_option maxRecDepth 100000
set_option maxHeartbeats 2000000

section
variable {K : PySem.W.Frag} {S : Sx} {ρ : List Sl} {Φ : D → Prop} {ta tb : TE}
/-- xs[:-1] -/
theorem cutD_last (xs : List D) : cutD xs none (some (-1)) = xs.take (xs.length - 1) := by
  unfold cutD
  rw [HT.sIx_none, List.drop_zero, Nat.sub_zero]
  have e : HT.sIx xs.length xs.length (some (-1)) = xs.length - 1 := by
    show (if (-1 : Int) < 0 then ((-1 : Int) + (xs.length : Int)).toNat else min (-1 : Int).toNat xs.length) = xs.length - 1
    rw [if_pos (by decide)]
    omega
  rw [e]
theorem q_out : ("q" : Str) ∉ allWords := by decide +kernel
theorem Words.q {ws : List Str} {n : Nat} (h : Words ws n) : ("q" : Str) ∉ ws := fun z => q_out (h.mem z)
end
section
variable {P : Program} {w : World} {K : PySem.W.Frag} {mg : Str → Option Value} {base : Heap} {Z : Cs}
end
end
/-! d.update(e); sum(lists, []). -/
section
set_option maxRecDepth 100000
set_option maxHeartbeats 2000000
open PySem PySem.Spec PyProof.Rows L2
section
variable {prog : Program} {w : World} {A : Around} {E : Value → Shared → Prop} {s : Shared}
end
end
/-! One's own lists: taking out, setting, two at once. The law's drawn rows. -/
section
set_option maxRecDepth 100000
set_option maxHeartbeats 2000000

section
variable {K : PySem.W.Frag} {S : Sx} {ρ : List Sl} {Φ : D → Prop} {Ψ : List D → Prop} {Χ : Bool → Prop} {O : Oc} {ta tb tc te ti : TE} {i j : Nat} {d x y : D} {ds es : List D}
theorem ixN_nat {m k : Nat} (h : k < m) : ixN m (k : Int) = some k := by
  unfold ixN
  rw [if_pos (by omega), if_pos (by omega)]
  simp
/-- x[e] = d -/
theorem ex_setO (h0 : ρ[i]? = some (.own ds)) (h : EvD K S te ρ fun d => EvD K S ti ρ fun x => ∃ k : Nat, x = .int (k : Int) ∧ k < ds.length ∧ O.nx (ρ.set i (.own (ds.set k d)))) :
    ExD K S (tAsg te (gSub (tVar i) ti rSetL)) ρ O := fun F0 H0 σ F H e o a d0 E f =>
  h σ F H e a.ok a.dr _ fun v d F1 H1 hd dd g1 => by
    obtain ⟨p, vs, a1, _, a2, a3⟩ := (e.ag g1).own h0
    refine ⟨_, a1, hd σ F1 H1 (e.ag g1) g1.ok g1.dr _ fun w x F2 H2 ⟨k, hx, hk, hO⟩ dx g2 => ?_⟩
    subst hx
    cases dx
    have g := g1.trans g2 a.dr
    obtain ⟨p', vs', a1', ⟨nF', ns'⟩, a2', a3'⟩ := (e.ag g).own h0
    rw [a1] at a1'
    cases a1'
    refine k_setl a2' (ixN_nat (by rw [a3'.length]; exact hk)) ?_
    exact f.nx σ _ F2 _ hO ((e.ag g).mut a1 h0 rfl ⟨p, _, rfl, ⟨nF', ns'⟩, upd_same, a3'.set k (Dat.mono g2.fs d dd)⟩) (o.mut h0 rfl) ((a.trans g d0).mut d0 (by rw [a2']; trivial) (o i _ _ p h0 rfl a1 rfl) nF' ns')
end
/-! rows of rows of numbers -/
section
variable {K : PySem.W.Frag} {S : Sx} {Φ : D → Prop}
end
section
variable {P : Program} {w : World} {K : PySem.W.Frag} {mg : Str → Option Value} {base : Heap}
end
end
/-! Cells of one's own: marks, rows of rows taken as one's own, methods of frozen things. -/
section
set_option maxRecDepth 100000
set_option maxHeartbeats 2000000
/-- a statement, an expression that the walk stops at -/
@[irreducible] def tMkS (t : TS) : TS := t
@[irreducible] def tMkE (t : TE) : TE := t
theorem ps_mkS {X : Cx} {st : Stmt} {t : TS} (h : PS X st t) : PS X st (tMkS t) := by unfold tMkS; exact h
section
variable {K : PySem.W.Frag} {S : Sx} {ρ : List Sl} {Φ : D → Prop} {Ψ : List D → Prop} {Χ : Bool → Prop} {O : Oc} {ta tb tc te to ti : TE} {tr : TA} {tt tu : TT} {t u : TS} {g : TG} {wi : TI} {i j w k n : Nat} {d x y dw : D} {ds xs : List D} {γ γ1 γ2 γr : Gh} {a : Addr} {c c' : Cl} {m : Bool} {Θ : D → Gh → List Sl → Prop}
theorem ex_mkS (h : ExD K S t ρ O) : ExD K S (tMkS t) ρ O := by unfold tMkS; exact h
/-- x.extend(e), x one's own list -/
theorem ex_extO (h0 : ρ[i]? = some (.own ds)) (h : EvD K S te ρ fun y => ∃ es, y = .lst es ∧ ds.length + es.length < 100000 ∧ O.nx (ρ.set i (.own (ds ++ es)))) : ExD K S (tDrop (tBM K "list" rExtend (tVar i) (tCons te tNil))) ρ O := fun F0 H0 σ F H e o a d0 E f => by
  obtain ⟨p, vs, h1, ⟨nF, ns⟩, h2, h3⟩ := e.own h0
  refine ⟨.ref p, h1, .inl ⟨rfl, vs, sl_of h2⟩, h σ F H e a.ok a.dr _ fun w y F1 H1 ⟨es, hy, hl, hO⟩ dy g1 => ?_⟩
  subst hy
  obtain ⟨b, us, rfl, b1, b2⟩ := dy
  obtain ⟨p', vs', h1', ⟨nF', ns'⟩, h2', h3'⟩ := (e.ag g1).own h0
  rw [h1] at h1'
  cases h1'
  refine ⟨p, b, vs', us, rfl, rfl, h2', g1.ok _ _ b1, by rw [h3'.length, b2.length]; exact Nat.le_of_lt (Nat.lt_of_lt_of_le hl (by decide)), ?_⟩
  exact f.nx σ _ F1 _ hO ((e.ag g1).mut h1 h0 rfl ⟨p, _, rfl, ⟨nF', ns'⟩, upd_same, h3'.app b2⟩) (o.mut h0 rfl) ((a.trans g1 d0).mut d0 (by rw [h2']; trivial) (o i _ _ p h0 rfl h1 rfl) nF' ns')
end
end
/-! Cells of one's own: rows of new lists, freezing. -/
section
set_option maxRecDepth 100000
set_option maxHeartbeats 2000000
/-- lists of one's own and the list of them -/
def rowsG (a : Addr) (bs : List Addr) (L : List (List D)) : Gh := (a, .l (bs.map pD)) :: bs.zip (L.map Cl.l)
theorem rowsG_fst {a : Addr} {bs : List Addr} {L : List (List D)} (h : bs.length = L.length) : (rowsG a bs L).map Prod.fst = a :: bs := by
  unfold rowsG
  rw [List.map_cons, List.map_fst_zip]
  rw [List.length_map, h]
  exact Nat.le_refl _
theorem rowsG_at {a b : Addr} {bs : List Addr} {L : List (List D)} {k : Nat} {ds : List D} (h1 : bs[k]? = some b) (h2 : L[k]? = some ds) : (rowsG a bs L)[k + 1]? = some (b, .l ds) := by
  unfold rowsG
  rw [List.getElem?_cons_succ]
  exact List.getElem?_zip_eq_some.mpr ⟨h1, by rw [List.getElem?_map, h2]; rfl⟩
section
variable {K : PySem.W.Frag} {S : Sx} {ρ : List Sl} {Φ : D → Prop} {Ψ : List D → Prop} {Χ : Bool → Prop} {O : Oc} {ta tb tc te to ti : TE} {tr : TA} {tt tu : TT} {t u : TS} {g : TG} {wi : TI} {i j w k n : Nat} {d x y dw : D} {ds xs : List D} {γ γ1 γ2 γr : Gh} {a : Addr} {c c' : Cl} {m : Bool} {Θ : D → Gh → List Sl → Prop}
theorem GhOk.rows {F H : Hp} {bs : List Addr} {L : List (List D)} (ha : Prv S F a) (h1 : H a = some (.lst (bs.map V.ref))) (g : GhOk K S F H (bs.zip (L.map Cl.l))) (hl : bs.length = L.length) (n : a ∉ bs) : GhOk K S F H (rowsG a bs L) := by
  refine ⟨?_, fun b c hm => ?_⟩
  · rw [rowsG_fst hl, List.nodup_cons]
    refine ⟨n, ?_⟩
    have := g.nd
    rw [List.map_fst_zip (by rw [List.length_map, hl]; exact Nat.le_refl _)] at this
    exact this
  · rcases List.mem_cons.mp hm with z | z
    · cases z
      exact ⟨ha, _, h1, _, rfl, (dats_map fun x v => Iff.rfl).mpr rfl⟩
    · exact g.ok b c z
theorem Rds.ptrs {L : List (List D)} : ∀ {bs : List Addr}, bs.length = L.length → (∀ (k : Nat) (b : Addr) (ds : List D), bs[k]? = some b → L[k]? = some ds → HasC ρ b (.l ds)) → Rds K ρ (bs.map pD) (L.map D.lst) := by
  induction L with
  | nil =>
    intro bs h _
    rw [List.length_eq_zero_iff.mp h]
    exact Rds.nil
  | cons ds L ih =>
    intro bs h hc
    cases bs with
    | nil => cases h
    | cons b bs =>
      exact Rds.cons (Rd.cl (hc 0 b ds (Eq.refl _) (Eq.refl _)) Rds.rfl) (ih (by simpa using h) fun k b' ds' h1 h2 => hc (k + 1) b' ds' (by simpa using h1) (by simpa using h2))
theorem Rd.rows {bs : List Addr} {L : List (List D)} (h : bs.length = L.length) : Rd K [.obj true (pD a) (rowsG a bs L)] (pD a) (.lst (L.map D.lst)) :=
  Rd.cl (.of 0 (Eq.refl _) List.mem_cons_self) (Rds.ptrs h fun k b ds h1 h2 => .of 0 (Eq.refl _) (List.mem_of_getElem? (rowsG_at h1 h2)))
end
end
/-! Cells of one's own: what is in hand goes to a slot; cells that are let go; fields that are set with new things. -/
section
set_option maxRecDepth 100000
set_option maxHeartbeats 2000000
section
variable {K : PySem.W.Frag} {S : Sx} {ρ : List Sl} {Φ : D → Prop} {Ψ : List D → Prop} {Χ : Bool → Prop} {O : Oc} {ta tb tc te to ti : TE} {tr : TA} {tt tu : TT} {t u : TS} {g : TG} {wi : TI} {i j w k n : Nat} {d x y dw : D} {ds xs : List D} {γ γ0 γ1 γ2 γh : Gh} {a : Addr} {c c' : Cl} {m : Bool} {Θ : D → Gh → List Sl → Prop}
theorem EnvOk.take {F H H0 : Hp} {σ : L2.St} (e : EnvOk K S F H σ ρ) (o : OwnNew H0 σ ρ) (hw : ρ[w]? = some (.obj true dw γ)) (q : InHand K S F H H0 σ ρ γh) : EnvOk K S F H σ (ρ.set w (.obj true dw (γ ++ γh))) ∧ OwnNew H0 σ (ρ.set w (.obj true dw (γ ++ γh))) := by
  obtain ⟨u, b1, b2, b3⟩ := e.obj hw
  have s2 : σ.set w (some u) = σ := setL_same b1
  have split : ∀ b, (Sl.obj true dw (γ ++ γh)).loc (some u) b → b ∈ γ.map Prod.fst ∨ b ∈ γh.map Prod.fst := fun b z => by
    have z' : b ∈ (γ ++ γh).map Prod.fst := z
    rw [List.map_append] at z'
    exact List.mem_append.mp z'
  have e2 := EnvOk.newG (i := w) (s₀ := .obj true dw (γ ++ γh)) (v := u) e (fun l s y b n h4 h5 l1 l2 => by
    rcases split b l2 with z | z
    · exact e.sep w l _ s _ y b (Ne.symm n) hw h4 rfl b1 h5 z l1
    · exact q.2.2 b z l s h4 y h5 l1) ⟨_, rfl, b2, b3.app q.1 fun b z1 z2 => q.2.2 b z2 w _ hw _ b1 z1⟩
  have o2 := OwnNew.newG (i := w) (s₀ := .obj true dw (γ ++ γh)) (v := u) o (fun _ b z => by
    rcases split b z with z | z
    · exact o w _ _ b hw rfl b1 z
    · exact q.2.1 b z)
  rw [s2] at e2 o2
  exact ⟨e2, o2⟩
theorem InHand.ag {F H H0 F' H' : Hp} {σ : L2.St} (q : InHand K S F H H0 σ ρ γh) (g : Ag S F H F' H') : InHand K S F' H' H0 σ ρ γh := ⟨q.1.ag g, q.2.1, q.2.2⟩
end
end
/-! Dicts: frozen ones, one's own. -/
section
set_option maxRecDepth 100000
set_option maxHeartbeats 2000000
section
variable {K : PySem.W.Frag} {S : Sx} {ρ : List Sl} {Φ : D → Prop} {O : Oc} {ta tb tc te to ti : TE} {i w k : Nat} {d y dw : D} {ds : List D} {ks : List Key} {γ : Gh} {a : Addr} {m : Bool} {F H : Hp} {z : Str} {Θ : D → Gh → List Sl → Prop}
end
end
/-! Dict displays as values; both arms of one kind. -/
section
set_option maxRecDepth 100000
set_option maxHeartbeats 2000000
open PySem PySem.Spec PyProof.Rows L2
section
variable {K : PySem.W.Frag} {S : Sx} {ρ : List Sl} {Φ : D → Prop}
end
end
/-! Things that are no lists and no tuples. -/
section
set_option maxRecDepth 100000
set_option maxHeartbeats 2000000
open PySem PySem.Spec PyProof.Rows L2
/-- no list and no tuple -/
def noSq (K : PySem.W.Frag) (x : D) : Prop := ∃ t, TyD K x t ∧ PySem.W.kitOne K t (.type "list") = some false ∧ PySem.W.kitOne K t (.type "tuple") = some false
def itsD : D → Option (List D)
  | .lst its => some its
  | .tup its => some its
  | _ => none
section
variable {K : PySem.W.Frag}
theorem noSq.ask {x : D} {Φ : D → Prop} (h : noSq K x) (k : Φ (.bl false)) : fIsRow K [x] Φ := by
  obtain ⟨t, h1, h2, h3⟩ := h
  exact ⟨x, rfl, t, false, false, h1, h2, h3, k⟩
theorem noSq.none {K : PySem.W.Frag} {x : D} (h : noSq K x) : itsD x = none := by
  obtain ⟨t, h1, h2, h3⟩ := h
  cases x with
  | lst ds => cases h1; rw [show PySem.W.kitOne K (.type "list") (.type "list") = some true from kb_list_list] at h2; cases h2
  | tup ds => cases h1; rw [show PySem.W.kitOne K (.type "tuple") (.type "tuple") = some true from kb_tuple_tuple] at h3; cases h3
  | _ => rfl
end
end
/-! .get of a dict that the program writes, where no Stand is by (never with Sw). -/
section
set_option maxRecDepth 100000
set_option maxHeartbeats 2000000
open PySem PySem.Spec PyProof.Rows L2
/-- SIZES -/
def sizesL : List (Str × Nat) := [("read", 3), ("jump", 3), ("anew", 2), ("give", 2), ("take", 2)]
structure Tz (K : PySem.W.Frag) (w : World) (mg : Str → Option Value) (zA : Addr) : Prop where
  sizes : mg "SIZES" = some (.ref zA)
  kd : ∃ es n, KDict K w zA es n
  get : ∀ p ∈ sizesL, ∃ u, PySem.W.nsIn K zA p.1 = some (some u) ∧ RelV (.int (p.2 : Nat)) u
section
variable {K : PySem.W.Frag} {w : World} {S : Sx} {ρ : List Sl} {Φ : D → Prop} {te ti : TE} {mg : Str → Option Value} {zA : Addr}
end
section
variable {K : PySem.W.Frag} {w : World} {S : Sx} {ρ : List Sl} {Φ : D → Prop} {te ti tx : TE} {mg : Str → Option Value} {zA : Addr}
end
end
/-! Histories as texts: the plain side. -/
section
set_option maxRecDepth 100000
set_option maxHeartbeats 2000000
open PySem PySem.Spec PyProof.Rows L2
abbrev nlT : Str := ch 10
abbrev spZ : Str := ch 32
theorem join_noc {c b : Nat} (hcb : c ≠ b) : ∀ {ps : List Str}, (∀ p ∈ ps, NoC c p) → NoC c (Str.join (ch b) ps)
  | [], _ => fun h => by rw [show (Str.join (ch b) []).cps.toList = [] from cps_empty] at h; cases h
  | [x], h => h x List.mem_cons_self
  | x :: y :: r, h => fun hm => by
    rw [join_two] at hm
    rcases List.mem_append.mp hm with z | z
    · exact h x List.mem_cons_self z
    · rcases List.mem_cons.mp z with z | z
      · exact hcb z
      · exact join_noc hcb (ps := y :: r) (fun p hp => h p (List.mem_cons_of_mem _ hp)) z
end
/-! Texts spoilt at one place. -/
section
set_option maxRecDepth 100000
set_option maxHeartbeats 2000000
open PySem PySem.Spec PyProof.Rows L2
theorem cutS_to (z : Str) (n : Nat) : (cutS z none (some (n : Int))).cps.toList = z.cps.toList.take n := by
  show (z.cps.toList.drop (HT.sIx z.length 0 none)).take (HT.sIx z.length z.length (some (n : Int)) - HT.sIx z.length 0 none) = _
  rw [HT.sIx_none, HT.sIx_nat, List.drop_zero, Nat.sub_zero, tl_len]
  by_cases h : n ≤ z.cps.toList.length
  · rw [Nat.min_eq_left h]
  · rw [Nat.min_eq_right (by omega), List.take_length, List.take_of_length_le (by omega)]
theorem cutS_from (z : Str) (n : Nat) : (cutS z (some (n : Int)) none).cps.toList = z.cps.toList.drop n := by
  show (z.cps.toList.drop (HT.sIx z.length 0 (some (n : Int)))).take (HT.sIx z.length z.length none - HT.sIx z.length 0 (some (n : Int))) = _
  rw [HT.sIx_none, HT.sIx_nat, tl_len]
  by_cases h : n ≤ z.cps.toList.length
  · rw [Nat.min_eq_left h, List.take_of_length_le (by rw [List.length_drop]; omega)]
  · rw [Nat.min_eq_right (by omega), List.drop_length, List.take_nil, List.drop_of_length_le (by omega)]
theorem cutS_m1 (z : Str) : (cutS z none (some (-1))).cps.toList = z.cps.toList.take (z.cps.toList.length - 1) := by
  show (z.cps.toList.drop (HT.sIx z.length 0 none)).take (HT.sIx z.length z.length (some (-1)) - HT.sIx z.length 0 none) = _
  have e : HT.sIx z.length z.length (some (-1)) = z.length - 1 := by
    show (if (-1 : Int) < 0 then ((-1 : Int) + (z.length : Int)).toNat else min (-1 : Int).toNat z.length) = _
    rw [if_pos (by decide)]
    omega
  rw [HT.sIx_none, e, List.drop_zero, Nat.sub_zero, tl_len]
def tot (ps : List Str) : Nat := (ps.map (·.length)).sum + ps.length
theorem tot_nil : tot [] = 0 := rfl
theorem tot_cons (p : Str) (ps : List Str) : tot (p :: ps) = p.length + 1 + tot ps := by
  unfold tot
  rw [List.map_cons, List.sum_cons, List.length_cons]
  omega
theorem tot_app : ∀ (ps qs : List Str), tot (ps ++ qs) = tot ps + tot qs
  | [], qs => by rw [List.nil_append, tot_nil, Nat.zero_add]
  | p :: ps, qs => by rw [List.cons_append, tot_cons, tot_cons, tot_app ps qs]; omega
theorem tot_td (ps : List Str) (n : Nat) : tot (ps.take n) + tot (ps.drop n) = tot ps := by rw [← tot_app, List.take_append_drop]
theorem tot_drop (ps : List Str) (n m : Nat) (h : n ≤ m) : tot (ps.drop m) ≤ tot (ps.drop n) := by
  have := tot_td (ps.drop n) (m - n)
  rw [List.drop_drop, show n + (m - n) = m by omega] at this
  omega
theorem join_tot {c : Nat} {ps : List Str} : (Str.join (ch c) ps).length ≤ tot ps - 1 := by
  cases ps with
  | nil => rw [show (Str.join (ch c) []).length = 0 by rw [tl_len, show (Str.join (ch c) []).cps.toList = [] from cps_empty]; rfl]; exact Nat.zero_le _
  | cons p ps =>
    have := join_len1 (c := c) (ps := p :: ps) (List.cons_ne_nil _ _)
    unfold tot
    omega
theorem split_tot (z : Str) (c : Nat) : tot (Txt.split z (ch c)) = z.length + 1 := split_len z c
theorem tot_set : ∀ (ps : List Str) (k : Nat) (q : Str), tot (ps.set k q) ≤ tot ps + q.length
  | [], k, q => by rw [List.set_nil]; omega
  | p :: ps, 0, q => by rw [List.set_cons_zero, tot_cons, tot_cons]; omega
  | p :: ps, k + 1, q => by
    rw [List.set_cons_succ, tot_cons, tot_cons]
    have := tot_set ps k q
    omega
end
/-! Texts of signs that there are. -/
section
set_option maxRecDepth 100000
set_option maxHeartbeats 2000000
open PySem PySem.Spec PyProof.Rows L2
def CpOk (z : Str) : Prop := ∀ c, 0x110000 ≤ c → NoC c z
theorem CpOk.ok {z : Str} (h : CpOk z) : PyData.strOk z = true := by
  unfold PyData.strOk
  rw [← Array.all_toList, List.all_eq_true]
  intro c hc
  refine decide_eq_true (Nat.lt_of_not_le fun q => h c q hc)
theorem CpOk.of {z : Str} (h : PyData.strOk z = true) : CpOk z := by
  unfold PyData.strOk at h
  rw [← Array.all_toList, List.all_eq_true] at h
  intro c hc hm
  exact absurd (of_decide_eq_true (h c hm)) (Nat.not_lt_of_le hc)
theorem CpOk.app {a b : Str} (h1 : CpOk a) (h2 : CpOk b) : CpOk (a ++ b) := fun c hc hm => by
  rw [cps_app] at hm
  exact (List.mem_append.mp hm).elim (h1 c hc) (h2 c hc)
theorem CpOk.sub {a b : Str} (h : CpOk b) (hs : ∀ c ∈ a.cps.toList, c ∈ b.cps.toList) : CpOk a := fun c hc hm => h c hc (hs c hm)
theorem CpOk.word {b : Nat} {z p : Str} (h : CpOk z) (hp : p ∈ Txt.split z (ch b)) : CpOk p := fun c hc hm => by
  obtain ⟨x, y, e⟩ := factor (c := b) hp
  rw [StrLaws.join_split] at e
  exact h c hc (by rw [e]; exact List.mem_append_left _ (List.mem_append_right _ hm))
theorem CpOk.join {b : Nat} (hb : b < 0x110000) {ps : List Str} (h : ∀ p ∈ ps, CpOk p) : CpOk (Str.join (ch b) ps) := fun c hc => join_noc (by omega) fun p hp => h p hp c hc
theorem CpOk.join0 {ps : List Str} (h : ∀ p ∈ ps, CpOk p) : CpOk (Str.join "" ps) := fun c hc hm => by
  rw [join_nil_cps] at hm
  obtain ⟨l, hl, hm⟩ := List.mem_flatten.mp hm
  obtain ⟨p, hp, rfl⟩ := List.mem_map.mp hl
  exact h p hp c hc hm
theorem join0_len (ps : List Str) : (Str.join "" ps).length = (ps.map (·.length)).sum := by
  rw [tl_len, join_nil_cps, List.length_flatten, List.map_map]
  congr 1
end
/-! Things that are no words; a thing handed over; dict displays as values. -/
end Lf
namespace Lf
open PySem PySem.Spec PyProof.Rows L2
local macro_rules | `(tactic| walk_at "nq") => `(tactic| first | with_reducible assumption | with_reducible exact Ne.symm (by assumption) | with_reducible exact ne_of_none (by assumption) (by assumption) | with_reducible exact Ne.symm (ne_of_none (by assumption) (by assumption)))
local macro_rules | `(tactic| walk_at "gt") => `(tactic| first | with_reducible assumption | with_reducible exact upd_same | ((with_reducible refine' upd_new ?ha ?hb); (case hb => with_reducible assumption); (case ha => walk_at "gt")) | ((with_reducible refine' upd_old ?ha ?hb); (case hb => walk_at "nq"); (case ha => walk_at "gt")) | ((with_reducible refine' sm_get ?hb ?ha); (case hb => with_reducible assumption); (case ha => walk_at "gt")) | ((with_reducible refine' fr_get ?hb ?ha ?hc); (case hb => with_reducible assumption); (case hc => walk_at "nq"); (case ha => walk_at "gt")))
local macro_rules | `(tactic| walk_at "sl") => `(tactic| first | with_reducible assumption | ((with_reducible refine' sl_of ?ha); (case ha => walk_at "gt")) | ((with_reducible refine' sl_new ?ha ?hb); (case hb => with_reducible assumption); (case ha => walk_at "sl")) | ((with_reducible refine' sl_sm ?hb ?ha); (case hb => with_reducible assumption); (case ha => walk_at "sl")) | ((with_reducible refine' sl_fr ?hb ?hc ?ha); (case hb => with_reducible assumption); (case hc => walk_at "nq"); (case ha => walk_at "sl")))
local macro_rules | `(tactic| walk_at "st") => `(tactic| first | with_reducible assumption | ((with_reducible refine' st_of ?ha); (case ha => walk_at "gt")) | ((with_reducible refine' st_new ?ha ?hb); (case hb => with_reducible assumption); (case ha => walk_at "st")) | ((with_reducible refine' st_sm ?hb ?ha); (case hb => with_reducible assumption); (case ha => walk_at "st")) | ((with_reducible refine' st_fr ?hb ?hc ?ha); (case hb => with_reducible assumption); (case hc => walk_at "nq"); (case ha => walk_at "st")))
local macro_rules | `(tactic| walk_at "sa") => `(tactic| first | with_reducible assumption | ((with_reducible refine' sa_l ?ha); (case ha => walk_at "gt")) | ((with_reducible refine' sa_t ?ha); (case ha => walk_at "gt")) | ((with_reducible refine' sa_new ?ha ?hb); (case hb => with_reducible assumption); (case ha => walk_at "sa")) | ((with_reducible refine' sa_sm ?hb ?ha); (case hb => with_reducible assumption); (case ha => walk_at "sa")) | ((with_reducible refine' sa_fr ?hb ?hc ?ha); (case hb => with_reducible assumption); (case hc => walk_at "nq"); (case ha => walk_at "sa")) | ((with_reducible refine' Or.inl ?ha); (case ha => walk_at "sl")) | ((with_reducible refine' Or.inr ?ha); (case ha => walk_at "st")))
local macro_rules | `(tactic| walk_at "ln") => `(tactic| first | decide | omega | exact Nat.le_of_ble_eq_true rfl | (simp only [List.length_append, List.length_map, List.length_cons, List.length_nil, List.length_flatMap]; omega))
local macro_rules | `(tactic| walk_at "ty") => `(tactic| first | with_reducible assumption | with_reducible exact .base (.int _) | with_reducible exact .base (.str _) | with_reducible exact .base (.bl _) | with_reducible exact .base .non | ((with_reducible refine' TyX.base (TyOf.lst ?ha)); (case ha => walk_at "gt")) | ((with_reducible refine' TyX.base (TyOf.tup ?ha)); (case ha => walk_at "gt")) | ((with_reducible refine' TyX.base (TyOf.dK ?ha)); (case ha => walk_at "gt")) | ((with_reducible refine' ty_new ?ha ?hb); (case hb => with_reducible assumption); (case ha => walk_at "ty")) | ((with_reducible refine' ty_sm ?hb ?ha); (case hb => with_reducible assumption); (case ha => walk_at "ty")))
local macro_rules | `(tactic| walk_at "kb") => `(tactic| first | with_reducible assumption | exact kb_str_str | exact kb_int_str | exact kb_list_str | exact kb_tuple_str | exact kb_bool_str | exact kb_NoneType_str | exact kb_dict_str | exact kb_str_int | exact kb_int_int | exact kb_list_int | exact kb_tuple_int | exact kb_bool_int | exact kb_NoneType_int | exact kb_dict_int | exact kb_str_bool | exact kb_int_bool | exact kb_list_bool | exact kb_tuple_bool | exact kb_bool_bool | exact kb_NoneType_bool | exact kb_dict_bool | exact kb_str_list | exact kb_int_list | exact kb_list_list | exact kb_tuple_list | exact kb_bool_list | exact kb_NoneType_list | exact kb_dict_list | exact kb_str_tuple | exact kb_int_tuple | exact kb_list_tuple | exact kb_tuple_tuple | exact kb_bool_tuple | exact kb_NoneType_tuple | exact kb_dict_tuple | exact kb_str_dict | exact kb_int_dict | exact kb_list_dict | exact kb_tuple_dict | exact kb_bool_dict | exact kb_NoneType_dict | exact kb_dict_dict)
local macro_rules | `(tactic| walk_at "wk") => `(tactic| first | with_reducible assumption | ((with_reducible refine' WkAt.new ?ha ?hb); (case hb => with_reducible assumption); (case ha => walk_at "wk")) | ((with_reducible refine' WkAt.sm ?hb ?ha); (case hb => with_reducible assumption); (case ha => walk_at "wk")) | ((with_reducible refine' WkAt.dr ?hb ?hc ?ha); (case hb => with_reducible assumption); (case hc => with_reducible assumption); (case ha => walk_at "wk")))
local macro_rules | `(tactic| walk_at "ed") => `(tactic| first | with_reducible assumption | ((with_reducible refine' EdAt.new ?ha ?hb); (case hb => with_reducible assumption); (case ha => walk_at "ed")) | ((with_reducible refine' EdAt.sm ?hb ?ha); (case hb => with_reducible assumption); (case ha => walk_at "ed")) | ((with_reducible refine' EdAt.dr ?hb ?hc ?ha); (case hb => with_reducible assumption); (case hc => with_reducible assumption); (case ha => walk_at "ed")))
local macro_rules | `(tactic| walk_at "pl") => `(tactic| first | with_reducible assumption | ((with_reducible refine' PlAt.new ?ha ?hb); (case hb => with_reducible assumption); (case ha => walk_at "pl")) | ((with_reducible refine' PlAt.sm ?hb ?ha); (case hb => with_reducible assumption); (case ha => walk_at "pl")) | ((with_reducible refine' PlAt.dr ?hb ?hc ?ha); (case hb => with_reducible assumption); (case hc => with_reducible assumption); (case ha => walk_at "pl")))
local macro_rules | `(tactic| walk_at "fl") => `(tactic| first | with_reducible assumption | ((with_reducible refine' WkAt.rows ?hT ?hW); (case hT => assumption); (case hW => walk_at "wk")) | ((with_reducible refine' WkAt.name ?hT ?hW); (case hT => assumption); (case hW => walk_at "wk")) | ((with_reducible refine' EdAt.work ?hT ?hW); (case hT => assumption); (case hW => walk_at "ed")) | ((with_reducible refine' EdAt.nums ?hT ?hW); (case hT => assumption); (case hW => walk_at "ed")) | ((with_reducible refine' PlAt.edition ?hT ?hW); (case hT => assumption); (case hW => walk_at "pl")) | ((with_reducible refine' PlAt.count ?hT ?hW); (case hT => assumption); (case hW => walk_at "pl")))
local macro_rules | `(tactic| walk_at "mt") => `(tactic| first | with_reducible assumption | ((with_reducible refine' WkAt.mt ?hn1 ?hn2 ?hW); (case hW => walk_at "wk"); (case hn1 => decide +kernel); (case hn2 => decide +kernel)) | ((with_reducible refine' EdAt.mt ?hn1 ?hn2 ?hW); (case hW => walk_at "ed"); (case hn1 => decide +kernel); (case hn2 => decide +kernel)) | ((with_reducible refine' PlAt.mt ?hn1 ?hn2 ?hW); (case hW => walk_at "pl"); (case hn1 => decide +kernel); (case hn2 => decide +kernel)))
local macro_rules | `(tactic| walk_at "is") => `(tactic| first | with_reducible assumption | ((with_reducible refine' WkAt.is ?hW); (case hW => walk_at "wk")) | ((with_reducible refine' EdAt.is ?hW); (case hW => walk_at "ed")) | ((with_reducible refine' PlAt.is ?hW); (case hW => walk_at "pl")))
local macro_rules | `(tactic| walk_at "ic") => `(tactic| first
  | ((with_reducible show CMul _ _); first | exact Or.inl ⟨by decide, by decide⟩ | exact Or.inr ⟨by decide, by decide⟩ | exact Or.inl ⟨by omega, by omega⟩ | exact Or.inr ⟨by omega, by omega⟩)
  | ((with_reducible show CDiv _ _); first | exact ⟨by decide, by decide⟩ | exact ⟨by omega, by omega⟩)
  | ((with_reducible show CPow _ _); first | exact ⟨by decide, by decide, by decide⟩ | exact ⟨by decide, by decide, by omega⟩)
  | (show (0 : Int) < _; first | decide | omega))
local macro_rules | `(tactic| walk_at "s1") => `(tactic| first
  | with_reducible refine k_seq ?_
  | with_reducible refine k_set ?_
  | with_reducible refine k_asg ?_
  | with_reducible refine k_par ?_
  | with_reducible refine k_par2 ?_
  | with_reducible refine k_drop ?_
  | with_reducible refine k_ret ?_
  | with_reducible refine k_next ?_
  | with_reducible refine k_if ?_
  | ((with_reducible refine' k_aug ?hv ?_); (case hv => exact rfl))
  | with_reducible refine k_ipI ?_
  | with_reducible refine k_gname ?_
  | with_reducible refine k_gsub ?_
  | ((with_reducible refine' k_gtup ?hv ?hw ?_); (case hv => walk_at "st"); (case hw => rfl))
  | with_reducible refine k_gcons ?_
  | with_reducible refine k_gnil ?_
  | with_reducible refine k_test ?_
  | with_reducible refine k_B ?_
  | with_reducible refine k_blE ?_
  | with_reducible refine k_and ?_
  | with_reducible refine k_or ?_
  | with_reducible refine k_not ?_
  | with_reducible refine iteT ?_
  | with_reducible refine iteF ?_
  | with_reducible refine iteNT ?_
  | with_reducible refine iteNF ?_
  | ((with_reducible refine' k_var ?hv ?_); (case hv => exact rfl))
  | with_reducible refine k_c ?_
  | with_reducible refine k_op ?_
  | with_reducible refine k_un ?_
  | with_reducible refine k_U ?_
  | with_reducible refine k_I0 ?_
  | ((with_reducible refine' k_I ?hv ?_); (case hv => walk_at "ic"))
  | with_reducible refine k_eqI ?_
  | with_reducible refine k_neI ?_
  | with_reducible refine k_eqS ?_
  | with_reducible refine k_neS ?_
  | with_reducible refine k_eqB ?_
  | with_reducible refine k_neB ?_
  | with_reducible refine k_for ?_
  | with_reducible refine k_iE ?_
  | with_reducible refine k_iA ?_
  | ((with_reducible refine' k_itl ?hv ?_); (case hv => walk_at "sl"))
  | ((with_reducible refine' k_itt ?hv ?_); (case hv => walk_at "st"))
  | with_reducible refine k_its ?_
  | ((with_reducible refine' k_rg1n ?hv ?_); (case hv => first | decide | omega))
  | ((with_reducible refine' k_rg1 ?hv ?hw ?_); (case hv => first | decide | omega); (case hw => first | decide | omega))
  | ((with_reducible refine' k_inS ?hv ?_); (case hv => walk_at "sa"))
  | ((with_reducible refine' k_inI ?hv ?_); (case hv => walk_at "sa"))
  | ((with_reducible refine' k_ninS ?hv ?_); (case hv => walk_at "sa"))
  | ((with_reducible refine' k_ninI ?hv ?_); (case hv => walk_at "sa"))
  | ((with_reducible refine' k_zipl ?hv ?hw ?_); (case hv => walk_at "sl"); (case hw => walk_at "sl"))
  | with_reducible refine k_nil ?_
  | with_reducible refine k_cons ?_
  | with_reducible refine k_cb ?_
  | with_reducible refine k_call ?_
  | with_reducible refine k_lst ?_
  | with_reducible refine k_tup ?_
  | with_reducible refine k_ifx ?_
  | with_reducible refine k_andv ?_
  | with_reducible refine k_orv ?_
  | with_reducible refine k_notv ?_
  | with_reducible refine k_inti ?_
  | with_reducible refine k_intb ?_
  | with_reducible refine k_sl ?_
  | with_reducible refine k_nopart ?_
  | with_reducible refine k_part ?_
  | with_reducible refine k_parti ?_
  | ((with_reducible refine' k_lenl ?hv ?_); (case hv => walk_at "sl"))
  | ((with_reducible refine' k_lent ?hv ?_); (case hv => walk_at "st"))
  | ((with_reducible refine' k_lens ?hv ?_); (case hv => exact szl (by walk_at "ln")))
  | ((with_reducible refine' k_lena ?hv ?_); (case hv => walk_at "sa"))
  | ((with_reducible refine' k_ixl ?hv ?hn ?_); (case hv => walk_at "sl"); (case hn => first | rfl | assumption))
  | ((with_reducible refine' k_ixt ?hv ?hn ?_); (case hv => walk_at "st"); (case hn => first | rfl | assumption))
  | ((with_reducible refine' k_ixa ?hv ?hn ?_); (case hv => walk_at "sa"); (case hn => first | rfl | assumption))
  | with_reducible refine k_chain ?_
  | ((with_reducible refine' k_isi ?hv ?hw ?_); (case hv => walk_at "ty"); (case hw => walk_at "kb"))
  | ((with_reducible refine' k_isi2 ?hb ?hp ?hv ?hw ?hx ?_); (case hp => walk_at "gt"); (case hv => walk_at "ty"); (case hw => walk_at "kb"); (case hx => walk_at "kb"); (case hb => first | exact or_t | exact or_f))
  | ((with_reducible refine' k_all ?hv ?_); (case hv => walk_at "gt"))
  | ((with_reducible refine' k_any ?hv ?_); (case hv => walk_at "gt"))
  | with_reducible refine k_insign ?_
  | with_reducible refine k_fldR ?_
  | ((with_reducible refine' k_fl ?hv ?_); (case hv => walk_at "fl"))
  | with_reducible refine k_sfld ?_
  | with_reducible refine k_meth ?_
  | ((with_reducible refine' k_mt ?hv ?_); (case hv => walk_at "mt"))
  | with_reducible refine k_make ?_
  | ((with_reducible refine' k_own ?hv ?hw ?_); (case hv => walk_at "is"); (case hw => walk_at "is"))
  | ((with_reducible refine' k_ownin ?hv ?_); (case hv => walk_at "is"))
  | ((with_reducible refine' k_lenO ?hv ?_); (case hv => walk_at "is"))
  | with_reducible refine k_prop ?_
  | ((with_reducible refine' k_pr ?hv ?_); (case hv => walk_at "is"))
  | ((with_reducible refine' k_ownI ?hv ?_); (case hv => walk_at "is"))
  | ((with_reducible refine' k_ownR ?hv ?_); (case hv => walk_at "is"))
  | with_reducible refine k_mx ?_
  | with_reducible refine k_mn ?_
  | with_reducible refine k_lrg ?_
  | with_reducible refine k_rgt ?_
  | with_reducible refine k_rgti ?_
  | with_reducible refine k_bm ?_
  | with_reducible refine k_bm0 ?_
  | with_reducible refine k_tys ?_
  | ((with_reducible refine' k_tyl ?hv ?_); (case hv => walk_at "sl"))
  | ((with_reducible refine' k_ext ?hv ?hw ?hn ?_); (case hv => walk_at "gt"); (case hw => walk_at "gt"); (case hn => walk_at "ln"))
  | ((with_reducible refine' k_app ?hv ?hn ?_); (case hv => walk_at "gt"); (case hn => walk_at "ln"))
  | ((with_reducible refine' k_popat ?hv ?hn ?hw ?_); (case hv => walk_at "gt"); (case hn => with_reducible assumption); (case hw => walk_at "ln"))
  | with_reducible refine k_lc ?_
  | with_reducible refine k_yes0 ?_
  | ((with_reducible show wipe _ _ = wipe _ _ ∧ _); refine ⟨rfl, ?_⟩)
  | ((with_reducible refine' k_adds ?hv ?_); (case hv => walk_at "ln"))
  | ((with_reducible refine' k_st1 ?hv ?_); (case hv => walk_at "gt"))
  | ((with_reducible refine' k_st2 ?hv ?_); (case hv => walk_at "gt"))
  | ((with_reducible refine' k_st3 ?hv ?_); (case hv => walk_at "gt"))
  | ((with_reducible refine' k_setl ?hv ?hn ?_); (case hv => walk_at "gt"); (case hn => rfl)))
local macro_rules | `(tactic| walk_at "put") => `(tactic| ((refine' ⟨_, ?ha, sz ?hb, ?_⟩); (case ha => walk_at "gt"); (case hb => walk_at "ln")))
local macro_rules | `(tactic| walk_at "go") => `(tactic| repeat (walk_at "s1"))
local macro_rules | `(tactic| walk_at "dv") => `(tactic| first | exact rfl | with_reducible assumption)
local macro_rules | `(tactic| walk_at "dt") => `(tactic| first | with_reducible assumption | with_reducible exact .int | with_reducible exact .str | with_reducible exact .bl | with_reducible exact .non | with_reducible exact .lst | with_reducible exact .tup | with_reducible exact .dk | ((with_reducible refine' TyD.ins ?hc); (case hc => with_reducible assumption)))
local macro_rules | `(tactic| walk_at "dm") => `(tactic| first | exact trivial | exact List.mem_cons_self | exact List.mem_cons_of_mem _ List.mem_cons_self | exact List.mem_cons_of_mem _ (List.mem_cons_of_mem _ List.mem_cons_self))
local macro_rules | `(tactic| walk_at "dy") => `(tactic| first | exact Or.inl rfl | exact Or.inr rfl)
local macro_rules | `(tactic| walk_at "xExD") => `(tactic| first
  | ((with_reducible refine' ex_re ?hX ?_); (case hX => assumption))
  | ((with_reducible refine' ex_re2 ?hX ?_); (case hX => assumption))
  | ((with_reducible refine' ex_rz ?hX ?_); (case hX => assumption)))
local macro_rules | `(tactic| walk_at "xOpD") => `(tactic| first
  | ((with_reducible refine' od_ownX ?hX ?_); (case hX => assumption))
  | ((with_reducible refine' od_ownIX ?hX ?_); (case hX => assumption)))
local macro_rules | `(tactic| walk_at "xEvD") => `(tactic| first
  | ((with_reducible refine' ev_callT ?hX ?_); (case hX => assumption))
  | ((with_reducible refine' ev_callX ?hX ?_); (case hX => assumption))
  | ((with_reducible refine' ev_methX ?hX ?_); (case hX => assumption))
  | ((with_reducible refine' ev_makeX ?hX ?_); (case hX => assumption))
  | ((with_reducible refine' ev_kwX ?hX ?_); (case hX => assumption))
  | ((with_reducible refine' ev_mkKwX ?hX ?_); (case hX => assumption)))
local macro_rules | `(tactic| walk_at "gEvD") => `(tactic| first
  | ((with_reducible refine' ev_var ?hv ?_); (case hv => exact rfl))
  | ((with_reducible refine' ev_varO ?hv ?_); (case hv => exact rfl))
  | with_reducible refine ev_ci ?_
  | with_reducible refine ev_cs ?_
  | with_reducible refine ev_cb ?_
  | with_reducible refine ev_cn ?_
  | ((with_reducible refine' ev_kt ?h ?_); (case h => with_reducible assumption))
  | with_reducible refine ev_cr ?_
  | with_reducible refine ev_ct ?_
  | with_reducible refine ev_new (evN_op (r := rCat) ?_)
  | with_reducible refine ev_new (evN_op (r := rRep) ?_)
  | ((with_reducible refine' ev_ixO ?hv ?_); (case hv => exact rfl))
  | with_reducible refine ev_op ?_
  | with_reducible refine ev_un ?_
  | with_reducible refine ev_isi2 ?_
  | with_reducible refine ev_isi4 ?_
  | ((with_reducible refine' ev_new (evN_listO ?hv ?_)); (case hv => exact rfl))
  | with_reducible refine ev_new (evN_cb1 (f := rListOf _) ?_)
  | ((with_reducible refine' ev_lenO ?hv ?_); (case hv => exact rfl))
  | with_reducible refine ev_cb1 ?_
  | with_reducible refine ev_lst ?_
  | with_reducible refine ev_dnew ?_
  | with_reducible refine ev_tup ?_
  | with_reducible refine ev_if ?_
  | with_reducible refine ev_and ?_
  | with_reducible refine ev_or ?_
  | with_reducible refine ev_not ?_
  | with_reducible refine ev_chain ?_
  | ((with_reducible refine' ev_new (evN_lcO ?hv ?_)); (case hv => exact rfl))
  | with_reducible refine ev_new (evN_lc ?_)
  | with_reducible refine ev_new (evN_sl ?_)
  | with_reducible refine ev_slT ?_
  | ((with_reducible refine' ev_fldS (n := 0) ?hv ?hc ?hn ?h1 ?h2 ?_); (case hv => exact rfl); (case hc => with_reducible assumption); (case hn => with_reducible assumption); (case h1 => decide +kernel); (case h2 => exact rfl))
  | ((with_reducible refine' ev_fldS (n := 1) ?hv ?hc ?hn ?h1 ?h2 ?_); (case hv => exact rfl); (case hc => with_reducible assumption); (case hn => with_reducible assumption); (case h1 => decide +kernel); (case h2 => exact rfl))
  | ((with_reducible refine' ev_fldS (n := 2) ?hv ?hc ?hn ?h1 ?h2 ?_); (case hv => exact rfl); (case hc => with_reducible assumption); (case hn => with_reducible assumption); (case h1 => decide +kernel); (case h2 => exact rfl))
  | ((with_reducible refine' ev_fldS (n := 3) ?hv ?hc ?hn ?h1 ?h2 ?_); (case hv => exact rfl); (case hc => with_reducible assumption); (case hn => with_reducible assumption); (case h1 => decide +kernel); (case h2 => exact rfl))
  | with_reducible refine ev_fld ?_
  | with_reducible refine ev_call ?_
  | with_reducible refine ev_kw ?_
  | with_reducible refine ev_mkKw ?_
  | with_reducible refine ev_meth ?_
  | with_reducible refine ev_prop ?_
  | with_reducible refine ev_make ?_)
local macro_rules | `(tactic| walk_at "gOpD") => `(tactic| first
  | with_reducible refine od_int ?_
  | with_reducible refine od_bl ?_
  | ((with_reducible refine' od_I ?hv ?_); (case hv => walk_at "ic"))
  | with_reducible refine od_ip ?_
  | with_reducible refine od_eqI ?_
  | with_reducible refine od_neI ?_
  | with_reducible refine od_eqS ?_
  | with_reducible refine od_neS ?_
  | with_reducible refine od_eqB ?_
  | with_reducible refine od_neB ?_
  | with_reducible refine od_isbl ?_
  | ((with_reducible refine' od_ixl ?hv ?_); (case hv => walk_at "dv"))
  | ((with_reducible refine' od_ixt ?hv ?_); (case hv => walk_at "dv"))
  | ((with_reducible refine' od_ixL ?hv ?_); (case hv => walk_at "dv"))
  | ((with_reducible refine' od_ixT ?hv ?_); (case hv => walk_at "dv"))
  | ((with_reducible refine' od_inN ?hv ?_); (case hv => walk_at "dy"))
  | ((with_reducible refine' od_inI ?hv ?_); (case hv => walk_at "dy"))
  | ((with_reducible refine' od_inS ?hv ?_); (case hv => walk_at "dy"))
  | with_reducible refine od_sign ?_
  | ((with_reducible refine' od_adds ?hv ?_); (case hv => walk_at "ln"))
  | with_reducible refine od_own ?_
  | with_reducible refine od_ownI ?_
  | with_reducible refine od_ownR ?_
  | with_reducible refine od_ownin ?_)
local macro_rules | `(tactic| walk_at "gExD") => `(tactic| first
  | with_reducible refine ex_seq ?_
  | ((with_reducible refine' ex_new (te := tLst tNil) ?hi ?_); (case hi => exact Nat.le_of_ble_eq_true rfl))
  | ((with_reducible refine' ex_newO ?hi ?_); (case hi => exact Nat.le_of_ble_eq_true rfl))
  | with_reducible refine ex_set ?_
  | with_reducible refine ex_asg ?_
  | ((with_reducible refine' ex_par ?hi ?_); (case hi => decide))
  | with_reducible refine ex_par3 ?_
  | ((with_reducible refine' ex_retO ?hv ?_); (case hv => exact rfl))
  | with_reducible refine ex_ret ?_
  | with_reducible refine ex_retN ?_
  | with_reducible refine ex_next ?_
  | with_reducible refine ex_break ?_
  | with_reducible refine ex_cont ?_
  | with_reducible refine ex_ifB ?_
  | ((with_reducible refine' ex_aug ?hv ?_); (case hv => exact rfl))
  | ((with_reducible refine' ex_app ?hv ?hl ?_); (case hv => exact rfl); (case hl => walk_at "ln"))
  | ((with_reducible refine' ex_insO ?hv ?hl ?_); (case hv => exact rfl); (case hl => walk_at "ln"))
  | ((with_reducible refine' ex_fld ?hv ?hc ?hn ?hl ?_); (case hv => exact rfl); (case hc => with_reducible assumption); (case hn => with_reducible assumption); (case hl => exact Nat.le_of_ble_eq_true rfl))
  | ((with_reducible refine' ex_extO ?hv ?_); (case hv => exact rfl))
  | ((with_reducible refine' ex_clrO ?hv ?_); (case hv => exact rfl))
  | with_reducible refine ex_drop ?_
  | with_reducible refine ex_for ?_)
local macro_rules | `(tactic| walk_at "gEvT") => `(tactic| first
  | with_reducible refine et_test ?_
  | with_reducible refine et_B ?_
  | with_reducible refine et_and ?_
  | with_reducible refine et_or ?_
  | with_reducible refine et_not ?_
  | with_reducible refine et_yes ?_)
local macro_rules | `(tactic| walk_at "gite") => `(tactic| first
  | with_reducible refine iteT ?_
  | with_reducible refine iteF ?_
  | with_reducible refine iteNT ?_
  | with_reducible refine iteNF ?_)
local macro_rules | `(tactic| walk_at "gUnD") => `(tactic| first
  | with_reducible refine ud_U ?_
  | ((with_reducible refine' fW_name ?hT ?_); (case hT => assumption))
  | ((with_reducible refine' fW_rows ?hT ?_); (case hT => assumption))
  | ((with_reducible refine' fE_work ?hT ?_); (case hT => assumption))
  | ((with_reducible refine' fE_nums ?hT ?_); (case hT => assumption))
  | ((with_reducible refine' fP_edition ?hT ?_); (case hT => assumption))
  | ((with_reducible refine' fP_count ?hT ?_); (case hT => assumption))
  | ((with_reducible refine' fK_work ?hT ?_); (case hT => assumption))
  | ((with_reducible refine' fK_rows ?hT ?_); (case hT => assumption))
  | ((with_reducible refine' fK_told ?hT ?_); (case hT => assumption))
  | ((with_reducible refine' fS_rule ?hT ?_); (case hT => assumption))
  | ((with_reducible refine' fS_tables ?hT ?_); (case hT => assumption))
  | ((with_reducible refine' fS_spots ?hT ?_); (case hT => assumption))
  | ((with_reducible refine' fS_held ?hT ?_); (case hT => assumption))
  | ((with_reducible refine' fS_stamps ?hT ?_); (case hT => assumption))
  | ((with_reducible refine' fS_row ?hT ?_); (case hT => assumption))
  | ((with_reducible refine' fS_top ?hT ?_); (case hT => assumption))
  | ((with_reducible refine' fS_come ?hT ?_); (case hT => assumption))
  | ((with_reducible refine' fR_parts ?hT ?_); (case hT => assumption))
  | ((with_reducible refine' fR_way ?hT ?_); (case hT => assumption)))
local macro_rules | `(tactic| walk_at "gCbD") => `(tactic| first
  | ((with_reducible refine' cd_isi ?ht ?hk ?_); (case ht => walk_at "dt"); (case hk => walk_at "kb"))
  | ((with_reducible refine' cd_isiO ?ht ?hk ?_); (case ht => walk_at "dt"); (case hk => first | with_reducible assumption | exact kit_same))
  | ((with_reducible refine' cd_lens ?hv ?_); (case hv => walk_at "ln"))
  | with_reducible refine cd_len ?_
  | with_reducible refine cd_all ?_
  | with_reducible refine cd_any ?_
  | with_reducible refine cd_int ?_
  | with_reducible refine cd_intb ?_
  | with_reducible refine cd_mx ?_
  | with_reducible refine cd_mn ?_
  | with_reducible refine cd_tuple ?_
  | with_reducible refine cd_lenO ?_)
local macro_rules | `(tactic| walk_at "gEvI") => `(tactic| first
  | with_reducible refine ei_seq ?_
  | with_reducible refine ei_str ?_
  | with_reducible refine ei_rg1 ?_
  | with_reducible refine ei_rg2 ?_
  | with_reducible refine ei_enum ?_
  | with_reducible refine ei_zip ?_
  | with_reducible refine ei_zipA ?_
  | with_reducible refine ei_zipB ?_
  | with_reducible refine ei_zipB3 ?_)
local macro_rules | `(tactic| walk_at "gEvN") => `(tactic| first
  | ((with_reducible refine' evN_listO ?hv ?_); (case hv => exact rfl))
  | ((with_reducible refine' evN_lcO ?hv ?_); (case hv => exact rfl))
  | with_reducible refine evN_lc ?_
  | with_reducible refine evN_sl ?_
  | with_reducible refine evN_op ?_
  | with_reducible refine evN_cb1 ?_
  | with_reducible refine evN_lst ?_)
local macro_rules | `(tactic| walk_at "d1") => `(tactic| first
  | ((with_reducible show EvD _ _ _ _ _); walk_at "gEvD")
  | ((with_reducible show OpD _ _ _ _ _ _); walk_at "gOpD")
  | with_reducible refine ev_nil ?_
  | with_reducible refine ev_cons ?_
  | ((with_reducible show ExD _ _ _ _ _); walk_at "gExD")
  | ((with_reducible show EvT _ _ _ _ _); walk_at "gEvT")
  | with_reducible refine isB_mk ?_
  | walk_at "gite"
  | ((with_reducible show UnD _ _ _ _ _); walk_at "gUnD")
  | ((with_reducible show CbD _ _ _ _ _); walk_at "gCbD")
  | ((with_reducible refine' tg_name ?hi ?_); (case hi => walk_at "dm"))
  | ((with_reducible refine' tg_tup ?hi ?_); (case hi => exact rfl))
  | ((with_reducible refine' tg_unl ?hi ?_); (case hi => exact rfl))
  | with_reducible refine tg_cons ?_
  | with_reducible refine tg_nil ?_
  | ((with_reducible show EvI _ _ _ _ _); walk_at "gEvI")
  | ((with_reducible refine' few_mk ?hl ?_); (case hl => exact Nat.le_of_ble_eq_true rfl))
  | ((with_reducible show EvN _ _ _ _ _); walk_at "gEvN")
  | ((with_reducible refine' on_cat ?hv ?_); (case hv => walk_at "ln"))
  | ((with_reducible refine' on_rep ?hv ?hw ?_); (case hv => walk_at "ln"); (case hw => walk_at "ln"))
  | with_reducible refine cn_list ?_
  | with_reducible refine eo_no ?_
  | with_reducible refine eo_part ?_
  | with_reducible refine seq_l ?_
  | with_reducible refine seq_t ?_
  | with_reducible refine ⟨insD_mk (by decide +kernel), ?_⟩)
local macro_rules | `(tactic| walk_at "dx") => `(tactic| first
  | ((with_reducible show EvD _ _ _ _ _); walk_at "xEvD")
  | ((with_reducible show OpD _ _ _ _ _ _); walk_at "xOpD")
  | ((with_reducible show ExD _ _ _ _ _); walk_at "xExD"))
local macro_rules | `(tactic| walk_at "dX") => `(tactic| repeat (first | walk_at "d1" | walk_at "dx"))
local macro_rules | `(tactic| walk_at "dg") => `(tactic| repeat (walk_at "d1"))
section
set_option maxRecDepth 100000
set_option maxHeartbeats 2000000

section
variable {P : Program} {w : World} {K : PySem.W.Frag} {mg : Str → Option Value} {base : Heap}
end
/-- a string, or a thing that is none -/
def Anyd (K : PySem.W.Frag) (d : D) : Prop := (∃ z, d = .str z ∧ z.length < 100000) ∨ ∃ t, TyD K d t ∧ PySem.W.kitOne K t (.type "str") = some false
theorem Anyd.str {K : PySem.W.Frag} {z : Str} (h : z.length < 100000) : Anyd K (.str z) := .inl ⟨z, rfl, h⟩
end
/-! Works that are refused. -/
end Lf
namespace Lf
open PySem L2
local macro_rules | `(tactic| walk_at "nq") => `(tactic| first | with_reducible assumption | with_reducible exact Ne.symm (by assumption) | with_reducible exact ne_of_none (by assumption) (by assumption) | with_reducible exact Ne.symm (ne_of_none (by assumption) (by assumption)))
local macro_rules | `(tactic| walk_at "gt") => `(tactic| first | with_reducible assumption | with_reducible exact upd_same | ((with_reducible refine' upd_new ?ha ?hb); (case hb => with_reducible assumption); (case ha => walk_at "gt")) | ((with_reducible refine' upd_old ?ha ?hb); (case hb => walk_at "nq"); (case ha => walk_at "gt")) | ((with_reducible refine' sm_get ?hb ?ha); (case hb => with_reducible assumption); (case ha => walk_at "gt")) | ((with_reducible refine' fr_get ?hb ?ha ?hc); (case hb => with_reducible assumption); (case hc => walk_at "nq"); (case ha => walk_at "gt")))
local macro_rules | `(tactic| walk_at "sl") => `(tactic| first | with_reducible assumption | ((with_reducible refine' sl_of ?ha); (case ha => walk_at "gt")) | ((with_reducible refine' sl_new ?ha ?hb); (case hb => with_reducible assumption); (case ha => walk_at "sl")) | ((with_reducible refine' sl_sm ?hb ?ha); (case hb => with_reducible assumption); (case ha => walk_at "sl")) | ((with_reducible refine' sl_fr ?hb ?hc ?ha); (case hb => with_reducible assumption); (case hc => walk_at "nq"); (case ha => walk_at "sl")))
local macro_rules | `(tactic| walk_at "st") => `(tactic| first | with_reducible assumption | ((with_reducible refine' st_of ?ha); (case ha => walk_at "gt")) | ((with_reducible refine' st_new ?ha ?hb); (case hb => with_reducible assumption); (case ha => walk_at "st")) | ((with_reducible refine' st_sm ?hb ?ha); (case hb => with_reducible assumption); (case ha => walk_at "st")) | ((with_reducible refine' st_fr ?hb ?hc ?ha); (case hb => with_reducible assumption); (case hc => walk_at "nq"); (case ha => walk_at "st")))
local macro_rules | `(tactic| walk_at "sa") => `(tactic| first | with_reducible assumption | ((with_reducible refine' sa_l ?ha); (case ha => walk_at "gt")) | ((with_reducible refine' sa_t ?ha); (case ha => walk_at "gt")) | ((with_reducible refine' sa_new ?ha ?hb); (case hb => with_reducible assumption); (case ha => walk_at "sa")) | ((with_reducible refine' sa_sm ?hb ?ha); (case hb => with_reducible assumption); (case ha => walk_at "sa")) | ((with_reducible refine' sa_fr ?hb ?hc ?ha); (case hb => with_reducible assumption); (case hc => walk_at "nq"); (case ha => walk_at "sa")) | ((with_reducible refine' Or.inl ?ha); (case ha => walk_at "sl")) | ((with_reducible refine' Or.inr ?ha); (case ha => walk_at "st")))
local macro_rules | `(tactic| walk_at "ln") => `(tactic| first | decide | omega | exact Nat.le_of_ble_eq_true rfl | (simp only [List.length_append, List.length_map, List.length_cons, List.length_nil, List.length_flatMap]; omega))
local macro_rules | `(tactic| walk_at "ty") => `(tactic| first | with_reducible assumption | with_reducible exact .base (.int _) | with_reducible exact .base (.str _) | with_reducible exact .base (.bl _) | with_reducible exact .base .non | ((with_reducible refine' TyX.base (TyOf.lst ?ha)); (case ha => walk_at "gt")) | ((with_reducible refine' TyX.base (TyOf.tup ?ha)); (case ha => walk_at "gt")) | ((with_reducible refine' TyX.base (TyOf.dK ?ha)); (case ha => walk_at "gt")) | ((with_reducible refine' ty_new ?ha ?hb); (case hb => with_reducible assumption); (case ha => walk_at "ty")) | ((with_reducible refine' ty_sm ?hb ?ha); (case hb => with_reducible assumption); (case ha => walk_at "ty")))
local macro_rules | `(tactic| walk_at "kb") => `(tactic| first | with_reducible assumption | exact kb_str_str | exact kb_int_str | exact kb_list_str | exact kb_tuple_str | exact kb_bool_str | exact kb_NoneType_str | exact kb_dict_str | exact kb_str_int | exact kb_int_int | exact kb_list_int | exact kb_tuple_int | exact kb_bool_int | exact kb_NoneType_int | exact kb_dict_int | exact kb_str_bool | exact kb_int_bool | exact kb_list_bool | exact kb_tuple_bool | exact kb_bool_bool | exact kb_NoneType_bool | exact kb_dict_bool | exact kb_str_list | exact kb_int_list | exact kb_list_list | exact kb_tuple_list | exact kb_bool_list | exact kb_NoneType_list | exact kb_dict_list | exact kb_str_tuple | exact kb_int_tuple | exact kb_list_tuple | exact kb_tuple_tuple | exact kb_bool_tuple | exact kb_NoneType_tuple | exact kb_dict_tuple | exact kb_str_dict | exact kb_int_dict | exact kb_list_dict | exact kb_tuple_dict | exact kb_bool_dict | exact kb_NoneType_dict | exact kb_dict_dict)
local macro_rules | `(tactic| walk_at "wk") => `(tactic| first | with_reducible assumption | ((with_reducible refine' WkAt.new ?ha ?hb); (case hb => with_reducible assumption); (case ha => walk_at "wk")) | ((with_reducible refine' WkAt.sm ?hb ?ha); (case hb => with_reducible assumption); (case ha => walk_at "wk")) | ((with_reducible refine' WkAt.dr ?hb ?hc ?ha); (case hb => with_reducible assumption); (case hc => with_reducible assumption); (case ha => walk_at "wk")))
local macro_rules | `(tactic| walk_at "ed") => `(tactic| first | with_reducible assumption | ((with_reducible refine' EdAt.new ?ha ?hb); (case hb => with_reducible assumption); (case ha => walk_at "ed")) | ((with_reducible refine' EdAt.sm ?hb ?ha); (case hb => with_reducible assumption); (case ha => walk_at "ed")) | ((with_reducible refine' EdAt.dr ?hb ?hc ?ha); (case hb => with_reducible assumption); (case hc => with_reducible assumption); (case ha => walk_at "ed")))
local macro_rules | `(tactic| walk_at "pl") => `(tactic| first | with_reducible assumption | ((with_reducible refine' PlAt.new ?ha ?hb); (case hb => with_reducible assumption); (case ha => walk_at "pl")) | ((with_reducible refine' PlAt.sm ?hb ?ha); (case hb => with_reducible assumption); (case ha => walk_at "pl")) | ((with_reducible refine' PlAt.dr ?hb ?hc ?ha); (case hb => with_reducible assumption); (case hc => with_reducible assumption); (case ha => walk_at "pl")))
local macro_rules | `(tactic| walk_at "fl") => `(tactic| first | with_reducible assumption | ((with_reducible refine' WkAt.rows ?hT ?hW); (case hT => assumption); (case hW => walk_at "wk")) | ((with_reducible refine' WkAt.name ?hT ?hW); (case hT => assumption); (case hW => walk_at "wk")) | ((with_reducible refine' EdAt.work ?hT ?hW); (case hT => assumption); (case hW => walk_at "ed")) | ((with_reducible refine' EdAt.nums ?hT ?hW); (case hT => assumption); (case hW => walk_at "ed")) | ((with_reducible refine' PlAt.edition ?hT ?hW); (case hT => assumption); (case hW => walk_at "pl")) | ((with_reducible refine' PlAt.count ?hT ?hW); (case hT => assumption); (case hW => walk_at "pl")))
local macro_rules | `(tactic| walk_at "mt") => `(tactic| first | with_reducible assumption | ((with_reducible refine' WkAt.mt ?hn1 ?hn2 ?hW); (case hW => walk_at "wk"); (case hn1 => decide +kernel); (case hn2 => decide +kernel)) | ((with_reducible refine' EdAt.mt ?hn1 ?hn2 ?hW); (case hW => walk_at "ed"); (case hn1 => decide +kernel); (case hn2 => decide +kernel)) | ((with_reducible refine' PlAt.mt ?hn1 ?hn2 ?hW); (case hW => walk_at "pl"); (case hn1 => decide +kernel); (case hn2 => decide +kernel)))
local macro_rules | `(tactic| walk_at "is") => `(tactic| first | with_reducible assumption | ((with_reducible refine' WkAt.is ?hW); (case hW => walk_at "wk")) | ((with_reducible refine' EdAt.is ?hW); (case hW => walk_at "ed")) | ((with_reducible refine' PlAt.is ?hW); (case hW => walk_at "pl")))
local macro_rules | `(tactic| walk_at "ic") => `(tactic| first
  | ((with_reducible show CMul _ _); first | exact Or.inl ⟨by decide, by decide⟩ | exact Or.inr ⟨by decide, by decide⟩ | exact Or.inl ⟨by omega, by omega⟩ | exact Or.inr ⟨by omega, by omega⟩)
  | ((with_reducible show CDiv _ _); first | exact ⟨by decide, by decide⟩ | exact ⟨by omega, by omega⟩)
  | ((with_reducible show CPow _ _); first | exact ⟨by decide, by decide, by decide⟩ | exact ⟨by decide, by decide, by omega⟩)
  | (show (0 : Int) < _; first | decide | omega))
local macro_rules | `(tactic| walk_at "s1") => `(tactic| first
  | with_reducible refine k_seq ?_
  | with_reducible refine k_set ?_
  | with_reducible refine k_asg ?_
  | with_reducible refine k_par ?_
  | with_reducible refine k_par2 ?_
  | with_reducible refine k_drop ?_
  | with_reducible refine k_ret ?_
  | with_reducible refine k_next ?_
  | with_reducible refine k_if ?_
  | ((with_reducible refine' k_aug ?hv ?_); (case hv => exact rfl))
  | with_reducible refine k_ipI ?_
  | with_reducible refine k_gname ?_
  | with_reducible refine k_gsub ?_
  | ((with_reducible refine' k_gtup ?hv ?hw ?_); (case hv => walk_at "st"); (case hw => rfl))
  | with_reducible refine k_gcons ?_
  | with_reducible refine k_gnil ?_
  | with_reducible refine k_test ?_
  | with_reducible refine k_B ?_
  | with_reducible refine k_blE ?_
  | with_reducible refine k_and ?_
  | with_reducible refine k_or ?_
  | with_reducible refine k_not ?_
  | with_reducible refine iteT ?_
  | with_reducible refine iteF ?_
  | with_reducible refine iteNT ?_
  | with_reducible refine iteNF ?_
  | ((with_reducible refine' k_var ?hv ?_); (case hv => exact rfl))
  | with_reducible refine k_c ?_
  | with_reducible refine k_op ?_
  | with_reducible refine k_un ?_
  | with_reducible refine k_U ?_
  | with_reducible refine k_I0 ?_
  | ((with_reducible refine' k_I ?hv ?_); (case hv => walk_at "ic"))
  | with_reducible refine k_eqI ?_
  | with_reducible refine k_neI ?_
  | with_reducible refine k_eqS ?_
  | with_reducible refine k_neS ?_
  | with_reducible refine k_eqB ?_
  | with_reducible refine k_neB ?_
  | with_reducible refine k_for ?_
  | with_reducible refine k_iE ?_
  | with_reducible refine k_iA ?_
  | ((with_reducible refine' k_itl ?hv ?_); (case hv => walk_at "sl"))
  | ((with_reducible refine' k_itt ?hv ?_); (case hv => walk_at "st"))
  | with_reducible refine k_its ?_
  | ((with_reducible refine' k_rg1n ?hv ?_); (case hv => first | decide | omega))
  | ((with_reducible refine' k_rg1 ?hv ?hw ?_); (case hv => first | decide | omega); (case hw => first | decide | omega))
  | ((with_reducible refine' k_inS ?hv ?_); (case hv => walk_at "sa"))
  | ((with_reducible refine' k_inI ?hv ?_); (case hv => walk_at "sa"))
  | ((with_reducible refine' k_ninS ?hv ?_); (case hv => walk_at "sa"))
  | ((with_reducible refine' k_ninI ?hv ?_); (case hv => walk_at "sa"))
  | ((with_reducible refine' k_zipl ?hv ?hw ?_); (case hv => walk_at "sl"); (case hw => walk_at "sl"))
  | with_reducible refine k_nil ?_
  | with_reducible refine k_cons ?_
  | with_reducible refine k_cb ?_
  | with_reducible refine k_call ?_
  | with_reducible refine k_lst ?_
  | with_reducible refine k_tup ?_
  | with_reducible refine k_ifx ?_
  | with_reducible refine k_andv ?_
  | with_reducible refine k_orv ?_
  | with_reducible refine k_notv ?_
  | with_reducible refine k_inti ?_
  | with_reducible refine k_intb ?_
  | with_reducible refine k_sl ?_
  | with_reducible refine k_nopart ?_
  | with_reducible refine k_part ?_
  | with_reducible refine k_parti ?_
  | ((with_reducible refine' k_lenl ?hv ?_); (case hv => walk_at "sl"))
  | ((with_reducible refine' k_lent ?hv ?_); (case hv => walk_at "st"))
  | ((with_reducible refine' k_lens ?hv ?_); (case hv => exact szl (by walk_at "ln")))
  | ((with_reducible refine' k_lena ?hv ?_); (case hv => walk_at "sa"))
  | ((with_reducible refine' k_ixl ?hv ?hn ?_); (case hv => walk_at "sl"); (case hn => first | rfl | assumption))
  | ((with_reducible refine' k_ixt ?hv ?hn ?_); (case hv => walk_at "st"); (case hn => first | rfl | assumption))
  | ((with_reducible refine' k_ixa ?hv ?hn ?_); (case hv => walk_at "sa"); (case hn => first | rfl | assumption))
  | with_reducible refine k_chain ?_
  | ((with_reducible refine' k_isi ?hv ?hw ?_); (case hv => walk_at "ty"); (case hw => walk_at "kb"))
  | ((with_reducible refine' k_isi2 ?hb ?hp ?hv ?hw ?hx ?_); (case hp => walk_at "gt"); (case hv => walk_at "ty"); (case hw => walk_at "kb"); (case hx => walk_at "kb"); (case hb => first | exact or_t | exact or_f))
  | ((with_reducible refine' k_all ?hv ?_); (case hv => walk_at "gt"))
  | ((with_reducible refine' k_any ?hv ?_); (case hv => walk_at "gt"))
  | with_reducible refine k_insign ?_
  | with_reducible refine k_fldR ?_
  | ((with_reducible refine' k_fl ?hv ?_); (case hv => walk_at "fl"))
  | with_reducible refine k_sfld ?_
  | with_reducible refine k_meth ?_
  | ((with_reducible refine' k_mt ?hv ?_); (case hv => walk_at "mt"))
  | with_reducible refine k_make ?_
  | ((with_reducible refine' k_own ?hv ?hw ?_); (case hv => walk_at "is"); (case hw => walk_at "is"))
  | ((with_reducible refine' k_ownin ?hv ?_); (case hv => walk_at "is"))
  | ((with_reducible refine' k_lenO ?hv ?_); (case hv => walk_at "is"))
  | with_reducible refine k_prop ?_
  | ((with_reducible refine' k_pr ?hv ?_); (case hv => walk_at "is"))
  | ((with_reducible refine' k_ownI ?hv ?_); (case hv => walk_at "is"))
  | ((with_reducible refine' k_ownR ?hv ?_); (case hv => walk_at "is"))
  | with_reducible refine k_mx ?_
  | with_reducible refine k_mn ?_
  | with_reducible refine k_lrg ?_
  | with_reducible refine k_rgt ?_
  | with_reducible refine k_rgti ?_
  | with_reducible refine k_bm ?_
  | with_reducible refine k_bm0 ?_
  | with_reducible refine k_tys ?_
  | ((with_reducible refine' k_tyl ?hv ?_); (case hv => walk_at "sl"))
  | ((with_reducible refine' k_ext ?hv ?hw ?hn ?_); (case hv => walk_at "gt"); (case hw => walk_at "gt"); (case hn => walk_at "ln"))
  | ((with_reducible refine' k_app ?hv ?hn ?_); (case hv => walk_at "gt"); (case hn => walk_at "ln"))
  | ((with_reducible refine' k_popat ?hv ?hn ?hw ?_); (case hv => walk_at "gt"); (case hn => with_reducible assumption); (case hw => walk_at "ln"))
  | with_reducible refine k_lc ?_
  | with_reducible refine k_yes0 ?_
  | ((with_reducible show wipe _ _ = wipe _ _ ∧ _); refine ⟨rfl, ?_⟩)
  | ((with_reducible refine' k_adds ?hv ?_); (case hv => walk_at "ln"))
  | ((with_reducible refine' k_st1 ?hv ?_); (case hv => walk_at "gt"))
  | ((with_reducible refine' k_st2 ?hv ?_); (case hv => walk_at "gt"))
  | ((with_reducible refine' k_st3 ?hv ?_); (case hv => walk_at "gt"))
  | ((with_reducible refine' k_setl ?hv ?hn ?_); (case hv => walk_at "gt"); (case hn => rfl)))
local macro_rules | `(tactic| walk_at "put") => `(tactic| ((refine' ⟨_, ?ha, sz ?hb, ?_⟩); (case ha => walk_at "gt"); (case hb => walk_at "ln")))
local macro_rules | `(tactic| walk_at "go") => `(tactic| repeat (walk_at "s1"))
local macro_rules | `(tactic| walk_at "dv") => `(tactic| first | exact rfl | with_reducible assumption)
local macro_rules | `(tactic| walk_at "dt") => `(tactic| first | with_reducible assumption | with_reducible exact .int | with_reducible exact .str | with_reducible exact .bl | with_reducible exact .non | with_reducible exact .lst | with_reducible exact .tup | with_reducible exact .dk | ((with_reducible refine' TyD.ins ?hc); (case hc => with_reducible assumption)))
local macro_rules | `(tactic| walk_at "dm") => `(tactic| first | exact trivial | exact List.mem_cons_self | exact List.mem_cons_of_mem _ List.mem_cons_self | exact List.mem_cons_of_mem _ (List.mem_cons_of_mem _ List.mem_cons_self))
local macro_rules | `(tactic| walk_at "dy") => `(tactic| first | exact Or.inl rfl | exact Or.inr rfl)
local macro_rules | `(tactic| walk_at "xExD") => `(tactic| first
  | ((with_reducible refine' ex_re ?hX ?_); (case hX => assumption))
  | ((with_reducible refine' ex_re2 ?hX ?_); (case hX => assumption))
  | ((with_reducible refine' ex_rz ?hX ?_); (case hX => assumption)))
local macro_rules | `(tactic| walk_at "xOpD") => `(tactic| first
  | ((with_reducible refine' od_ownX ?hX ?_); (case hX => assumption))
  | ((with_reducible refine' od_ownIX ?hX ?_); (case hX => assumption)))
local macro_rules | `(tactic| walk_at "xEvD") => `(tactic| first
  | ((with_reducible refine' ev_callT ?hX ?_); (case hX => assumption))
  | ((with_reducible refine' ev_callX ?hX ?_); (case hX => assumption))
  | ((with_reducible refine' ev_methX ?hX ?_); (case hX => assumption))
  | ((with_reducible refine' ev_makeX ?hX ?_); (case hX => assumption))
  | ((with_reducible refine' ev_kwX ?hX ?_); (case hX => assumption))
  | ((with_reducible refine' ev_mkKwX ?hX ?_); (case hX => assumption)))
local macro_rules | `(tactic| walk_at "gEvD") => `(tactic| first
  | ((with_reducible refine' ev_var ?hv ?_); (case hv => exact rfl))
  | ((with_reducible refine' ev_varO ?hv ?_); (case hv => exact rfl))
  | with_reducible refine ev_ci ?_
  | with_reducible refine ev_cs ?_
  | with_reducible refine ev_cb ?_
  | with_reducible refine ev_cn ?_
  | ((with_reducible refine' ev_kt ?h ?_); (case h => with_reducible assumption))
  | with_reducible refine ev_cr ?_
  | with_reducible refine ev_ct ?_
  | with_reducible refine ev_new (evN_op (r := rCat) ?_)
  | with_reducible refine ev_new (evN_op (r := rRep) ?_)
  | ((with_reducible refine' ev_ixO ?hv ?_); (case hv => exact rfl))
  | with_reducible refine ev_op ?_
  | with_reducible refine ev_un ?_
  | with_reducible refine ev_isi2 ?_
  | with_reducible refine ev_isi4 ?_
  | ((with_reducible refine' ev_new (evN_listO ?hv ?_)); (case hv => exact rfl))
  | with_reducible refine ev_new (evN_cb1 (f := rListOf _) ?_)
  | ((with_reducible refine' ev_lenO ?hv ?_); (case hv => exact rfl))
  | with_reducible refine ev_cb1 ?_
  | with_reducible refine ev_lst ?_
  | with_reducible refine ev_dnew ?_
  | with_reducible refine ev_tup ?_
  | with_reducible refine ev_if ?_
  | with_reducible refine ev_and ?_
  | with_reducible refine ev_or ?_
  | with_reducible refine ev_not ?_
  | with_reducible refine ev_chain ?_
  | ((with_reducible refine' ev_new (evN_lcO ?hv ?_)); (case hv => exact rfl))
  | with_reducible refine ev_new (evN_lc ?_)
  | with_reducible refine ev_new (evN_sl ?_)
  | with_reducible refine ev_slT ?_
  | ((with_reducible refine' ev_fldS (n := 0) ?hv ?hc ?hn ?h1 ?h2 ?_); (case hv => exact rfl); (case hc => with_reducible assumption); (case hn => with_reducible assumption); (case h1 => decide +kernel); (case h2 => exact rfl))
  | ((with_reducible refine' ev_fldS (n := 1) ?hv ?hc ?hn ?h1 ?h2 ?_); (case hv => exact rfl); (case hc => with_reducible assumption); (case hn => with_reducible assumption); (case h1 => decide +kernel); (case h2 => exact rfl))
  | ((with_reducible refine' ev_fldS (n := 2) ?hv ?hc ?hn ?h1 ?h2 ?_); (case hv => exact rfl); (case hc => with_reducible assumption); (case hn => with_reducible assumption); (case h1 => decide +kernel); (case h2 => exact rfl))
  | ((with_reducible refine' ev_fldS (n := 3) ?hv ?hc ?hn ?h1 ?h2 ?_); (case hv => exact rfl); (case hc => with_reducible assumption); (case hn => with_reducible assumption); (case h1 => decide +kernel); (case h2 => exact rfl))
  | with_reducible refine ev_fld ?_
  | with_reducible refine ev_call ?_
  | with_reducible refine ev_kw ?_
  | with_reducible refine ev_mkKw ?_
  | with_reducible refine ev_meth ?_
  | with_reducible refine ev_prop ?_
  | with_reducible refine ev_make ?_)
local macro_rules | `(tactic| walk_at "gOpD") => `(tactic| first
  | with_reducible refine od_int ?_
  | with_reducible refine od_bl ?_
  | ((with_reducible refine' od_I ?hv ?_); (case hv => walk_at "ic"))
  | with_reducible refine od_ip ?_
  | with_reducible refine od_eqI ?_
  | with_reducible refine od_neI ?_
  | with_reducible refine od_eqS ?_
  | with_reducible refine od_neS ?_
  | with_reducible refine od_eqB ?_
  | with_reducible refine od_neB ?_
  | with_reducible refine od_isbl ?_
  | ((with_reducible refine' od_ixl ?hv ?_); (case hv => walk_at "dv"))
  | ((with_reducible refine' od_ixt ?hv ?_); (case hv => walk_at "dv"))
  | ((with_reducible refine' od_ixL ?hv ?_); (case hv => walk_at "dv"))
  | ((with_reducible refine' od_ixT ?hv ?_); (case hv => walk_at "dv"))
  | ((with_reducible refine' od_inN ?hv ?_); (case hv => walk_at "dy"))
  | ((with_reducible refine' od_inI ?hv ?_); (case hv => walk_at "dy"))
  | ((with_reducible refine' od_inS ?hv ?_); (case hv => walk_at "dy"))
  | with_reducible refine od_sign ?_
  | ((with_reducible refine' od_adds ?hv ?_); (case hv => walk_at "ln"))
  | with_reducible refine od_own ?_
  | with_reducible refine od_ownI ?_
  | with_reducible refine od_ownR ?_
  | with_reducible refine od_ownin ?_)
local macro_rules | `(tactic| walk_at "gExD") => `(tactic| first
  | with_reducible refine ex_seq ?_
  | ((with_reducible refine' ex_new (te := tLst tNil) ?hi ?_); (case hi => exact Nat.le_of_ble_eq_true rfl))
  | ((with_reducible refine' ex_newO ?hi ?_); (case hi => exact Nat.le_of_ble_eq_true rfl))
  | with_reducible refine ex_set ?_
  | with_reducible refine ex_asg ?_
  | ((with_reducible refine' ex_par ?hi ?_); (case hi => decide))
  | with_reducible refine ex_par3 ?_
  | ((with_reducible refine' ex_retO ?hv ?_); (case hv => exact rfl))
  | with_reducible refine ex_ret ?_
  | with_reducible refine ex_retN ?_
  | with_reducible refine ex_next ?_
  | with_reducible refine ex_break ?_
  | with_reducible refine ex_cont ?_
  | with_reducible refine ex_ifB ?_
  | ((with_reducible refine' ex_aug ?hv ?_); (case hv => exact rfl))
  | ((with_reducible refine' ex_app ?hv ?hl ?_); (case hv => exact rfl); (case hl => walk_at "ln"))
  | ((with_reducible refine' ex_insO ?hv ?hl ?_); (case hv => exact rfl); (case hl => walk_at "ln"))
  | ((with_reducible refine' ex_fld ?hv ?hc ?hn ?hl ?_); (case hv => exact rfl); (case hc => with_reducible assumption); (case hn => with_reducible assumption); (case hl => exact Nat.le_of_ble_eq_true rfl))
  | ((with_reducible refine' ex_extO ?hv ?_); (case hv => exact rfl))
  | ((with_reducible refine' ex_clrO ?hv ?_); (case hv => exact rfl))
  | with_reducible refine ex_drop ?_
  | with_reducible refine ex_for ?_)
local macro_rules | `(tactic| walk_at "gEvT") => `(tactic| first
  | with_reducible refine et_test ?_
  | with_reducible refine et_B ?_
  | with_reducible refine et_and ?_
  | with_reducible refine et_or ?_
  | with_reducible refine et_not ?_
  | with_reducible refine et_yes ?_)
local macro_rules | `(tactic| walk_at "gite") => `(tactic| first
  | with_reducible refine iteT ?_
  | with_reducible refine iteF ?_
  | with_reducible refine iteNT ?_
  | with_reducible refine iteNF ?_)
local macro_rules | `(tactic| walk_at "gUnD") => `(tactic| first
  | with_reducible refine ud_U ?_
  | ((with_reducible refine' fW_name ?hT ?_); (case hT => assumption))
  | ((with_reducible refine' fW_rows ?hT ?_); (case hT => assumption))
  | ((with_reducible refine' fE_work ?hT ?_); (case hT => assumption))
  | ((with_reducible refine' fE_nums ?hT ?_); (case hT => assumption))
  | ((with_reducible refine' fP_edition ?hT ?_); (case hT => assumption))
  | ((with_reducible refine' fP_count ?hT ?_); (case hT => assumption))
  | ((with_reducible refine' fK_work ?hT ?_); (case hT => assumption))
  | ((with_reducible refine' fK_rows ?hT ?_); (case hT => assumption))
  | ((with_reducible refine' fK_told ?hT ?_); (case hT => assumption))
  | ((with_reducible refine' fS_rule ?hT ?_); (case hT => assumption))
  | ((with_reducible refine' fS_tables ?hT ?_); (case hT => assumption))
  | ((with_reducible refine' fS_spots ?hT ?_); (case hT => assumption))
  | ((with_reducible refine' fS_held ?hT ?_); (case hT => assumption))
  | ((with_reducible refine' fS_stamps ?hT ?_); (case hT => assumption))
  | ((with_reducible refine' fS_row ?hT ?_); (case hT => assumption))
  | ((with_reducible refine' fS_top ?hT ?_); (case hT => assumption))
  | ((with_reducible refine' fS_come ?hT ?_); (case hT => assumption))
  | ((with_reducible refine' fR_parts ?hT ?_); (case hT => assumption))
  | ((with_reducible refine' fR_way ?hT ?_); (case hT => assumption)))
local macro_rules | `(tactic| walk_at "gCbD") => `(tactic| first
  | ((with_reducible refine' cd_isi ?ht ?hk ?_); (case ht => walk_at "dt"); (case hk => walk_at "kb"))
  | ((with_reducible refine' cd_isiO ?ht ?hk ?_); (case ht => walk_at "dt"); (case hk => first | with_reducible assumption | exact kit_same))
  | ((with_reducible refine' cd_lens ?hv ?_); (case hv => walk_at "ln"))
  | with_reducible refine cd_len ?_
  | with_reducible refine cd_all ?_
  | with_reducible refine cd_any ?_
  | with_reducible refine cd_int ?_
  | with_reducible refine cd_intb ?_
  | with_reducible refine cd_mx ?_
  | with_reducible refine cd_mn ?_
  | with_reducible refine cd_tuple ?_
  | with_reducible refine cd_lenO ?_)
local macro_rules | `(tactic| walk_at "gEvI") => `(tactic| first
  | with_reducible refine ei_seq ?_
  | with_reducible refine ei_str ?_
  | with_reducible refine ei_rg1 ?_
  | with_reducible refine ei_rg2 ?_
  | with_reducible refine ei_enum ?_
  | with_reducible refine ei_zip ?_
  | with_reducible refine ei_zipA ?_
  | with_reducible refine ei_zipB ?_
  | with_reducible refine ei_zipB3 ?_)
local macro_rules | `(tactic| walk_at "gEvN") => `(tactic| first
  | ((with_reducible refine' evN_listO ?hv ?_); (case hv => exact rfl))
  | ((with_reducible refine' evN_lcO ?hv ?_); (case hv => exact rfl))
  | with_reducible refine evN_lc ?_
  | with_reducible refine evN_sl ?_
  | with_reducible refine evN_op ?_
  | with_reducible refine evN_cb1 ?_
  | with_reducible refine evN_lst ?_)
local macro_rules | `(tactic| walk_at "d1") => `(tactic| first
  | ((with_reducible show EvD _ _ _ _ _); walk_at "gEvD")
  | ((with_reducible show OpD _ _ _ _ _ _); walk_at "gOpD")
  | with_reducible refine ev_nil ?_
  | with_reducible refine ev_cons ?_
  | ((with_reducible show ExD _ _ _ _ _); walk_at "gExD")
  | ((with_reducible show EvT _ _ _ _ _); walk_at "gEvT")
  | with_reducible refine isB_mk ?_
  | walk_at "gite"
  | ((with_reducible show UnD _ _ _ _ _); walk_at "gUnD")
  | ((with_reducible show CbD _ _ _ _ _); walk_at "gCbD")
  | ((with_reducible refine' tg_name ?hi ?_); (case hi => walk_at "dm"))
  | ((with_reducible refine' tg_tup ?hi ?_); (case hi => exact rfl))
  | ((with_reducible refine' tg_unl ?hi ?_); (case hi => exact rfl))
  | with_reducible refine tg_cons ?_
  | with_reducible refine tg_nil ?_
  | ((with_reducible show EvI _ _ _ _ _); walk_at "gEvI")
  | ((with_reducible refine' few_mk ?hl ?_); (case hl => exact Nat.le_of_ble_eq_true rfl))
  | ((with_reducible show EvN _ _ _ _ _); walk_at "gEvN")
  | ((with_reducible refine' on_cat ?hv ?_); (case hv => walk_at "ln"))
  | ((with_reducible refine' on_rep ?hv ?hw ?_); (case hv => walk_at "ln"); (case hw => walk_at "ln"))
  | with_reducible refine cn_list ?_
  | with_reducible refine eo_no ?_
  | with_reducible refine eo_part ?_
  | with_reducible refine seq_l ?_
  | with_reducible refine seq_t ?_
  | with_reducible refine ⟨insD_mk (by decide +kernel), ?_⟩)
local macro_rules | `(tactic| walk_at "dx") => `(tactic| first
  | ((with_reducible show EvD _ _ _ _ _); walk_at "xEvD")
  | ((with_reducible show OpD _ _ _ _ _ _); walk_at "xOpD")
  | ((with_reducible show ExD _ _ _ _ _); walk_at "xExD"))
local macro_rules | `(tactic| walk_at "dX") => `(tactic| repeat (first | walk_at "d1" | walk_at "dx"))
local macro_rules | `(tactic| walk_at "dg") => `(tactic| repeat (walk_at "d1"))
section
set_option maxRecDepth 100000
set_option maxHeartbeats 2000000

/-- where works alone are there -/
structure Tww (K : PySem.W.Frag) (mg : Str → Option Value) (Z : Cs) : Prop where
  mgW : mg "Work" = some (.ref Z.W)
  caW : PySem.W.findIn K (.ref Z.W) "__class__" = some (some (.builtin "object.__class__"))
  cn : PySem.W.specialIn K (.builtin "object.__class__") "__get__" = some (some (.builtin "getset_descriptor.__get__"))
  ct : PySem.W.takesIn K (.builtin "object.__class__") = some true
  cmW : PySem.W.mroIn K Z.W (.type "object") = some true
  clW : Cls K Z.W
  nName : NoAttr K Z.W "name"
  nRows : NoAttr K Z.W "rows"
def wordD : D → Option Str
  | .str z => if isW z = true then some z else none
  | _ => none
def endP {α β : Type} : α ⊕ β → (β → Prop) → (α → Prop) → Prop
  | .inr b, f, _ => f b
  | .inl a, _, g => g a
/-- no word -/
def noWd (K : PySem.W.Frag) (x : D) : Prop := (∃ z, x = .str z ∧ isW z = false ∧ z.length < 100000) ∨ ∃ t, TyD K x t ∧ PySem.W.kitOne K t (.type "str") = some false
section
variable {P : Program} {w : World} {K : PySem.W.Frag} {mg : Str → Option Value} {base : Heap} {Z : Cs} {XBadPassage XBadWord : Addr}
theorem noWd.ask {x : D} {Φ : D → Prop} (h : noWd K x) (k : Φ (.bl false)) : fIsWord K [x] Φ := by
  rcases h with ⟨z, rfl, h1, h2⟩ | ⟨t, h1, h2⟩
  · exact ⟨_, rfl, .inl ⟨z, rfl, h2, by rw [h1]; exact k⟩⟩
  · exact ⟨_, rfl, .inr ⟨t, h1, h2, k⟩⟩
end
end
/-! Rules: fields, what is shown. -/
section
set_option maxRecDepth 100000
set_option maxHeartbeats 2000000
open PySem PySem.Spec PyProof.Rows L2
/-- a written tuple of texts -/
def KTup (K : PySem.W.Frag) (a : Addr) (ws : List Str) : Prop := ∃ (o : Obj) (its : Array Value) (n : Nat), K.lookup a = some o ∧ o.cls = .type "tuple" ∧ o.data = .seq its n ∧ its.size ≤ sizeLine ∧ Vals (ws.map V.str) its.toList
theorem x_kd {X : Cx} (K : PySem.W.Frag) (w : World) (h : X.K = K := by rfl) (hw : X.w = w := by rfl) : IxR X (rIxD K w) := by
  subst h hw
  exact ix_kdict
section
variable {K : PySem.W.Frag} {S : Sx} {ρ : List Sl} {Φ : D → Prop} {w : World} {a d : Addr} {z : Str} {ws : List Str}
theorem KTup.dat {F : Hp} (h : KTup K a ws) : Dat K S F (.tup (dS ws)) (.ref a) := by
  obtain ⟨o, its, n, h1, h2, h3, h4, h5⟩ := h
  exact ⟨a, _, rfl, .inr ⟨o, its, n, h1, h2, h3, h4, h5⟩, dats_dS.mpr rfl⟩
theorem ev_kt (h : KTup K a ws) (k : Φ (.tup (dS ws))) : EvD K S (tC (.ref a)) ρ Φ := ev_cK (fun S F => h.dat) k
theorem od_kd (h : KDct K w d z (.ref a)) (h2 : KTup K a ws) (k : Φ (.tup (dS ws))) : OpD K S (rIxD K w) (.raw (.ref d)) (.str z) Φ := fun u v F H s dr h3 h4 Q q => by
  cases h3
  cases h4
  exact ⟨d, z, .ref a, rfl, rfl, h, q _ _ F H k h2.dat (Ag.refl s dr)⟩
end
/-- the class of rules and the written tables -/
structure Ra where
  R : Addr
  P : Addr
  W : Addr
  D : Addr
structure Tr (K : PySem.W.Frag) (mg : Str → Option Value) (Yr : Ra) : Prop where
  mg : mg "Rule" = some (.ref Yr.R)
  ca : PySem.W.findIn K (.ref Yr.R) "__class__" = some (some (.builtin "object.__class__"))
  cm : PySem.W.mroIn K Yr.R (.type "object") = some true
  cl : Cls K Yr.R
  nParts : NoAttr K Yr.R "parts"
  nWay : NoAttr K Yr.R "way"
abbrev partsL : List Str := ["read", "jump", "anew", "give", "take", "kept"]
abbrev waysL : List Str := ["stay", "field", "greater"]
def wordsL : List (List Str) := [["no", "last", "raise", "row"], ["no", "last", "raise", "lower"], ["no", "least"], ["no", "last", "raise", "later"], ["no", "last", "raise", "later"], ["exact", "floored"]]
structure Trc (K : PySem.W.Frag) (w : World) (mg : Str → Option Value) (Yr : Ra) : Prop where
  parts : mg "PARTS" = some (.ref Yr.P)
  ways : mg "WAYS" = some (.ref Yr.W)
  words : mg "WORDS" = some (.ref Yr.D)
  most : ∃ t, mg "MOST_FIELDS" = some (.int 3 t)
  kP : KTup K Yr.P partsL
  kW : KTup K Yr.W waysL
  kD : ∀ (i : Nat) (p : Str) (us : List Str), partsL[i]? = some p → wordsL[i]? = some us → ∃ t, KDct K w Yr.D p (.ref t) ∧ KTup K t us
theorem cut_tl (a : Str) (us : List Str) : cutD (dS (a :: us)) (some 1) none = dS us := by
  rw [show (1 : Int) = ((1 : Nat) : Int) from rfl, cutD_from]
  rfl
theorem dS_mem {ws : List Str} {i : Nat} {y : D} (h : (dS ws)[i]? = some y) : ∃ u, ws[i]? = some u ∧ y = .str u := by
  unfold dS at h
  rw [List.getElem?_map] at h
  cases e : ws[i]? with
  | none => rw [e] at h; cases h
  | some u => rw [e] at h; exact ⟨u, rfl, (Option.some.inj h).symm⟩
/-- a field -/
def OkF (f : List Str) : Prop := ∃ (a : Str) (us : List Str), f = a :: us ∧ isW a = true ∧ us.length = 6 ∧ ∀ (i : Nat) (u : Str) (vs : List Str), us[i]? = some u → wordsL[i]? = some vs → u ∈ vs
def headF (f : List Str) : Str := f.headD ""
/-- the fields of a rule, what it shows -/
structure OkR (rows : List (List Str)) (way nm : Str) : Prop where
  ne : 0 < rows.length
  le : rows.length ≤ 3
  ok : ∀ f ∈ rows, OkF f
  nd : (rows.map headF).Nodup
  way : way ∈ waysL
  nm : nm ∈ rows.map headF
abbrev dF (f : List Str) : D := .tup (dS f)
abbrev dR (Yr : Ra) (rows : List (List Str)) (way nm : Str) : D := .ins Yr.R ["parts", "way"] [.lst (rows.map dF), .tup [.str way, .str nm]]
theorem OkF.len {f : List Str} (h : OkF f) : f.length = 7 := by
  obtain ⟨a, us, rfl, _, h2, _⟩ := h
  rw [List.length_cons, h2]
section
variable {K : PySem.W.Frag} {mg : Str → Option Value} {Yr : Ra} {S : Sx} {Φ : D → Prop} {rows : List (List Str)} {way nm : Str}
theorem fR_parts (U : Tr K mg Yr) (k : Φ (.lst (rows.map dF))) : UnD K S (rFld K "parts") (dR Yr rows way nm) Φ := ud_fld U.cl U.nParts (n := 0) (by decide +kernel) rfl k
theorem fR_way (U : Tr K mg Yr) (k : Φ (.tup [.str way, .str nm])) : UnD K S (rFld K "way") (dR Yr rows way nm) Φ := ud_fld U.cl U.nWay (n := 1) (by decide +kernel) rfl k
end
end
end Lf
namespace Lf
open PySem PySem.Spec PyProof.Rows L2
local macro_rules | `(tactic| walk_at "nq") => `(tactic| first | with_reducible assumption | with_reducible exact Ne.symm (by assumption) | with_reducible exact ne_of_none (by assumption) (by assumption) | with_reducible exact Ne.symm (ne_of_none (by assumption) (by assumption)))
local macro_rules | `(tactic| walk_at "gt") => `(tactic| first | with_reducible assumption | with_reducible exact upd_same | ((with_reducible refine' upd_new ?ha ?hb); (case hb => with_reducible assumption); (case ha => walk_at "gt")) | ((with_reducible refine' upd_old ?ha ?hb); (case hb => walk_at "nq"); (case ha => walk_at "gt")) | ((with_reducible refine' sm_get ?hb ?ha); (case hb => with_reducible assumption); (case ha => walk_at "gt")) | ((with_reducible refine' fr_get ?hb ?ha ?hc); (case hb => with_reducible assumption); (case hc => walk_at "nq"); (case ha => walk_at "gt")))
local macro_rules | `(tactic| walk_at "sl") => `(tactic| first | with_reducible assumption | ((with_reducible refine' sl_of ?ha); (case ha => walk_at "gt")) | ((with_reducible refine' sl_new ?ha ?hb); (case hb => with_reducible assumption); (case ha => walk_at "sl")) | ((with_reducible refine' sl_sm ?hb ?ha); (case hb => with_reducible assumption); (case ha => walk_at "sl")) | ((with_reducible refine' sl_fr ?hb ?hc ?ha); (case hb => with_reducible assumption); (case hc => walk_at "nq"); (case ha => walk_at "sl")))
local macro_rules | `(tactic| walk_at "st") => `(tactic| first | with_reducible assumption | ((with_reducible refine' st_of ?ha); (case ha => walk_at "gt")) | ((with_reducible refine' st_new ?ha ?hb); (case hb => with_reducible assumption); (case ha => walk_at "st")) | ((with_reducible refine' st_sm ?hb ?ha); (case hb => with_reducible assumption); (case ha => walk_at "st")) | ((with_reducible refine' st_fr ?hb ?hc ?ha); (case hb => with_reducible assumption); (case hc => walk_at "nq"); (case ha => walk_at "st")))
local macro_rules | `(tactic| walk_at "sa") => `(tactic| first | with_reducible assumption | ((with_reducible refine' sa_l ?ha); (case ha => walk_at "gt")) | ((with_reducible refine' sa_t ?ha); (case ha => walk_at "gt")) | ((with_reducible refine' sa_new ?ha ?hb); (case hb => with_reducible assumption); (case ha => walk_at "sa")) | ((with_reducible refine' sa_sm ?hb ?ha); (case hb => with_reducible assumption); (case ha => walk_at "sa")) | ((with_reducible refine' sa_fr ?hb ?hc ?ha); (case hb => with_reducible assumption); (case hc => walk_at "nq"); (case ha => walk_at "sa")) | ((with_reducible refine' Or.inl ?ha); (case ha => walk_at "sl")) | ((with_reducible refine' Or.inr ?ha); (case ha => walk_at "st")))
local macro_rules | `(tactic| walk_at "ln") => `(tactic| first | decide | omega | exact Nat.le_of_ble_eq_true rfl | (simp only [List.length_append, List.length_map, List.length_cons, List.length_nil, List.length_flatMap]; omega))
local macro_rules | `(tactic| walk_at "ty") => `(tactic| first | with_reducible assumption | with_reducible exact .base (.int _) | with_reducible exact .base (.str _) | with_reducible exact .base (.bl _) | with_reducible exact .base .non | ((with_reducible refine' TyX.base (TyOf.lst ?ha)); (case ha => walk_at "gt")) | ((with_reducible refine' TyX.base (TyOf.tup ?ha)); (case ha => walk_at "gt")) | ((with_reducible refine' TyX.base (TyOf.dK ?ha)); (case ha => walk_at "gt")) | ((with_reducible refine' ty_new ?ha ?hb); (case hb => with_reducible assumption); (case ha => walk_at "ty")) | ((with_reducible refine' ty_sm ?hb ?ha); (case hb => with_reducible assumption); (case ha => walk_at "ty")))
local macro_rules | `(tactic| walk_at "kb") => `(tactic| first | with_reducible assumption | exact kb_str_str | exact kb_int_str | exact kb_list_str | exact kb_tuple_str | exact kb_bool_str | exact kb_NoneType_str | exact kb_dict_str | exact kb_str_int | exact kb_int_int | exact kb_list_int | exact kb_tuple_int | exact kb_bool_int | exact kb_NoneType_int | exact kb_dict_int | exact kb_str_bool | exact kb_int_bool | exact kb_list_bool | exact kb_tuple_bool | exact kb_bool_bool | exact kb_NoneType_bool | exact kb_dict_bool | exact kb_str_list | exact kb_int_list | exact kb_list_list | exact kb_tuple_list | exact kb_bool_list | exact kb_NoneType_list | exact kb_dict_list | exact kb_str_tuple | exact kb_int_tuple | exact kb_list_tuple | exact kb_tuple_tuple | exact kb_bool_tuple | exact kb_NoneType_tuple | exact kb_dict_tuple | exact kb_str_dict | exact kb_int_dict | exact kb_list_dict | exact kb_tuple_dict | exact kb_bool_dict | exact kb_NoneType_dict | exact kb_dict_dict)
local macro_rules | `(tactic| walk_at "wk") => `(tactic| first | with_reducible assumption | ((with_reducible refine' WkAt.new ?ha ?hb); (case hb => with_reducible assumption); (case ha => walk_at "wk")) | ((with_reducible refine' WkAt.sm ?hb ?ha); (case hb => with_reducible assumption); (case ha => walk_at "wk")) | ((with_reducible refine' WkAt.dr ?hb ?hc ?ha); (case hb => with_reducible assumption); (case hc => with_reducible assumption); (case ha => walk_at "wk")))
local macro_rules | `(tactic| walk_at "ed") => `(tactic| first | with_reducible assumption | ((with_reducible refine' EdAt.new ?ha ?hb); (case hb => with_reducible assumption); (case ha => walk_at "ed")) | ((with_reducible refine' EdAt.sm ?hb ?ha); (case hb => with_reducible assumption); (case ha => walk_at "ed")) | ((with_reducible refine' EdAt.dr ?hb ?hc ?ha); (case hb => with_reducible assumption); (case hc => with_reducible assumption); (case ha => walk_at "ed")))
local macro_rules | `(tactic| walk_at "pl") => `(tactic| first | with_reducible assumption | ((with_reducible refine' PlAt.new ?ha ?hb); (case hb => with_reducible assumption); (case ha => walk_at "pl")) | ((with_reducible refine' PlAt.sm ?hb ?ha); (case hb => with_reducible assumption); (case ha => walk_at "pl")) | ((with_reducible refine' PlAt.dr ?hb ?hc ?ha); (case hb => with_reducible assumption); (case hc => with_reducible assumption); (case ha => walk_at "pl")))
local macro_rules | `(tactic| walk_at "fl") => `(tactic| first | with_reducible assumption | ((with_reducible refine' WkAt.rows ?hT ?hW); (case hT => assumption); (case hW => walk_at "wk")) | ((with_reducible refine' WkAt.name ?hT ?hW); (case hT => assumption); (case hW => walk_at "wk")) | ((with_reducible refine' EdAt.work ?hT ?hW); (case hT => assumption); (case hW => walk_at "ed")) | ((with_reducible refine' EdAt.nums ?hT ?hW); (case hT => assumption); (case hW => walk_at "ed")) | ((with_reducible refine' PlAt.edition ?hT ?hW); (case hT => assumption); (case hW => walk_at "pl")) | ((with_reducible refine' PlAt.count ?hT ?hW); (case hT => assumption); (case hW => walk_at "pl")))
local macro_rules | `(tactic| walk_at "mt") => `(tactic| first | with_reducible assumption | ((with_reducible refine' WkAt.mt ?hn1 ?hn2 ?hW); (case hW => walk_at "wk"); (case hn1 => decide +kernel); (case hn2 => decide +kernel)) | ((with_reducible refine' EdAt.mt ?hn1 ?hn2 ?hW); (case hW => walk_at "ed"); (case hn1 => decide +kernel); (case hn2 => decide +kernel)) | ((with_reducible refine' PlAt.mt ?hn1 ?hn2 ?hW); (case hW => walk_at "pl"); (case hn1 => decide +kernel); (case hn2 => decide +kernel)))
local macro_rules | `(tactic| walk_at "is") => `(tactic| first | with_reducible assumption | ((with_reducible refine' WkAt.is ?hW); (case hW => walk_at "wk")) | ((with_reducible refine' EdAt.is ?hW); (case hW => walk_at "ed")) | ((with_reducible refine' PlAt.is ?hW); (case hW => walk_at "pl")))
local macro_rules | `(tactic| walk_at "ic") => `(tactic| first
  | ((with_reducible show CMul _ _); first | exact Or.inl ⟨by decide, by decide⟩ | exact Or.inr ⟨by decide, by decide⟩ | exact Or.inl ⟨by omega, by omega⟩ | exact Or.inr ⟨by omega, by omega⟩)
  | ((with_reducible show CDiv _ _); first | exact ⟨by decide, by decide⟩ | exact ⟨by omega, by omega⟩)
  | ((with_reducible show CPow _ _); first | exact ⟨by decide, by decide, by decide⟩ | exact ⟨by decide, by decide, by omega⟩)
  | (show (0 : Int) < _; first | decide | omega))
local macro_rules | `(tactic| walk_at "s1") => `(tactic| first
  | with_reducible refine k_seq ?_
  | with_reducible refine k_set ?_
  | with_reducible refine k_asg ?_
  | with_reducible refine k_par ?_
  | with_reducible refine k_par2 ?_
  | with_reducible refine k_drop ?_
  | with_reducible refine k_ret ?_
  | with_reducible refine k_next ?_
  | with_reducible refine k_if ?_
  | ((with_reducible refine' k_aug ?hv ?_); (case hv => exact rfl))
  | with_reducible refine k_ipI ?_
  | with_reducible refine k_gname ?_
  | with_reducible refine k_gsub ?_
  | ((with_reducible refine' k_gtup ?hv ?hw ?_); (case hv => walk_at "st"); (case hw => rfl))
  | with_reducible refine k_gcons ?_
  | with_reducible refine k_gnil ?_
  | with_reducible refine k_test ?_
  | with_reducible refine k_B ?_
  | with_reducible refine k_blE ?_
  | with_reducible refine k_and ?_
  | with_reducible refine k_or ?_
  | with_reducible refine k_not ?_
  | with_reducible refine iteT ?_
  | with_reducible refine iteF ?_
  | with_reducible refine iteNT ?_
  | with_reducible refine iteNF ?_
  | ((with_reducible refine' k_var ?hv ?_); (case hv => exact rfl))
  | with_reducible refine k_c ?_
  | with_reducible refine k_op ?_
  | with_reducible refine k_un ?_
  | with_reducible refine k_U ?_
  | with_reducible refine k_I0 ?_
  | ((with_reducible refine' k_I ?hv ?_); (case hv => walk_at "ic"))
  | with_reducible refine k_eqI ?_
  | with_reducible refine k_neI ?_
  | with_reducible refine k_eqS ?_
  | with_reducible refine k_neS ?_
  | with_reducible refine k_eqB ?_
  | with_reducible refine k_neB ?_
  | with_reducible refine k_for ?_
  | with_reducible refine k_iE ?_
  | with_reducible refine k_iA ?_
  | ((with_reducible refine' k_itl ?hv ?_); (case hv => walk_at "sl"))
  | ((with_reducible refine' k_itt ?hv ?_); (case hv => walk_at "st"))
  | with_reducible refine k_its ?_
  | ((with_reducible refine' k_rg1n ?hv ?_); (case hv => first | decide | omega))
  | ((with_reducible refine' k_rg1 ?hv ?hw ?_); (case hv => first | decide | omega); (case hw => first | decide | omega))
  | ((with_reducible refine' k_inS ?hv ?_); (case hv => walk_at "sa"))
  | ((with_reducible refine' k_inI ?hv ?_); (case hv => walk_at "sa"))
  | ((with_reducible refine' k_ninS ?hv ?_); (case hv => walk_at "sa"))
  | ((with_reducible refine' k_ninI ?hv ?_); (case hv => walk_at "sa"))
  | ((with_reducible refine' k_zipl ?hv ?hw ?_); (case hv => walk_at "sl"); (case hw => walk_at "sl"))
  | with_reducible refine k_nil ?_
  | with_reducible refine k_cons ?_
  | with_reducible refine k_cb ?_
  | with_reducible refine k_call ?_
  | with_reducible refine k_lst ?_
  | with_reducible refine k_tup ?_
  | with_reducible refine k_ifx ?_
  | with_reducible refine k_andv ?_
  | with_reducible refine k_orv ?_
  | with_reducible refine k_notv ?_
  | with_reducible refine k_inti ?_
  | with_reducible refine k_intb ?_
  | with_reducible refine k_sl ?_
  | with_reducible refine k_nopart ?_
  | with_reducible refine k_part ?_
  | with_reducible refine k_parti ?_
  | ((with_reducible refine' k_lenl ?hv ?_); (case hv => walk_at "sl"))
  | ((with_reducible refine' k_lent ?hv ?_); (case hv => walk_at "st"))
  | ((with_reducible refine' k_lens ?hv ?_); (case hv => exact szl (by walk_at "ln")))
  | ((with_reducible refine' k_lena ?hv ?_); (case hv => walk_at "sa"))
  | ((with_reducible refine' k_ixl ?hv ?hn ?_); (case hv => walk_at "sl"); (case hn => first | rfl | assumption))
  | ((with_reducible refine' k_ixt ?hv ?hn ?_); (case hv => walk_at "st"); (case hn => first | rfl | assumption))
  | ((with_reducible refine' k_ixa ?hv ?hn ?_); (case hv => walk_at "sa"); (case hn => first | rfl | assumption))
  | with_reducible refine k_chain ?_
  | ((with_reducible refine' k_isi ?hv ?hw ?_); (case hv => walk_at "ty"); (case hw => walk_at "kb"))
  | ((with_reducible refine' k_isi2 ?hb ?hp ?hv ?hw ?hx ?_); (case hp => walk_at "gt"); (case hv => walk_at "ty"); (case hw => walk_at "kb"); (case hx => walk_at "kb"); (case hb => first | exact or_t | exact or_f))
  | ((with_reducible refine' k_all ?hv ?_); (case hv => walk_at "gt"))
  | ((with_reducible refine' k_any ?hv ?_); (case hv => walk_at "gt"))
  | with_reducible refine k_insign ?_
  | with_reducible refine k_fldR ?_
  | ((with_reducible refine' k_fl ?hv ?_); (case hv => walk_at "fl"))
  | with_reducible refine k_sfld ?_
  | with_reducible refine k_meth ?_
  | ((with_reducible refine' k_mt ?hv ?_); (case hv => walk_at "mt"))
  | with_reducible refine k_make ?_
  | ((with_reducible refine' k_own ?hv ?hw ?_); (case hv => walk_at "is"); (case hw => walk_at "is"))
  | ((with_reducible refine' k_ownin ?hv ?_); (case hv => walk_at "is"))
  | ((with_reducible refine' k_lenO ?hv ?_); (case hv => walk_at "is"))
  | with_reducible refine k_prop ?_
  | ((with_reducible refine' k_pr ?hv ?_); (case hv => walk_at "is"))
  | ((with_reducible refine' k_ownI ?hv ?_); (case hv => walk_at "is"))
  | ((with_reducible refine' k_ownR ?hv ?_); (case hv => walk_at "is"))
  | with_reducible refine k_mx ?_
  | with_reducible refine k_mn ?_
  | with_reducible refine k_lrg ?_
  | with_reducible refine k_rgt ?_
  | with_reducible refine k_rgti ?_
  | with_reducible refine k_bm ?_
  | with_reducible refine k_bm0 ?_
  | with_reducible refine k_tys ?_
  | ((with_reducible refine' k_tyl ?hv ?_); (case hv => walk_at "sl"))
  | ((with_reducible refine' k_ext ?hv ?hw ?hn ?_); (case hv => walk_at "gt"); (case hw => walk_at "gt"); (case hn => walk_at "ln"))
  | ((with_reducible refine' k_app ?hv ?hn ?_); (case hv => walk_at "gt"); (case hn => walk_at "ln"))
  | ((with_reducible refine' k_popat ?hv ?hn ?hw ?_); (case hv => walk_at "gt"); (case hn => with_reducible assumption); (case hw => walk_at "ln"))
  | with_reducible refine k_lc ?_
  | with_reducible refine k_yes0 ?_
  | ((with_reducible show wipe _ _ = wipe _ _ ∧ _); refine ⟨rfl, ?_⟩)
  | ((with_reducible refine' k_adds ?hv ?_); (case hv => walk_at "ln"))
  | ((with_reducible refine' k_st1 ?hv ?_); (case hv => walk_at "gt"))
  | ((with_reducible refine' k_st2 ?hv ?_); (case hv => walk_at "gt"))
  | ((with_reducible refine' k_st3 ?hv ?_); (case hv => walk_at "gt"))
  | ((with_reducible refine' k_setl ?hv ?hn ?_); (case hv => walk_at "gt"); (case hn => rfl)))
local macro_rules | `(tactic| walk_at "put") => `(tactic| ((refine' ⟨_, ?ha, sz ?hb, ?_⟩); (case ha => walk_at "gt"); (case hb => walk_at "ln")))
local macro_rules | `(tactic| walk_at "go") => `(tactic| repeat (walk_at "s1"))
local macro_rules | `(tactic| walk_at "dv") => `(tactic| first | exact rfl | with_reducible assumption)
local macro_rules | `(tactic| walk_at "dt") => `(tactic| first | with_reducible assumption | with_reducible exact .int | with_reducible exact .str | with_reducible exact .bl | with_reducible exact .non | with_reducible exact .lst | with_reducible exact .tup | with_reducible exact .dk | ((with_reducible refine' TyD.ins ?hc); (case hc => with_reducible assumption)))
local macro_rules | `(tactic| walk_at "dm") => `(tactic| first | exact trivial | exact List.mem_cons_self | exact List.mem_cons_of_mem _ List.mem_cons_self | exact List.mem_cons_of_mem _ (List.mem_cons_of_mem _ List.mem_cons_self))
local macro_rules | `(tactic| walk_at "dy") => `(tactic| first | exact Or.inl rfl | exact Or.inr rfl)
local macro_rules | `(tactic| walk_at "xExD") => `(tactic| first
  | ((with_reducible refine' ex_re ?hX ?_); (case hX => assumption))
  | ((with_reducible refine' ex_re2 ?hX ?_); (case hX => assumption))
  | ((with_reducible refine' ex_rz ?hX ?_); (case hX => assumption)))
local macro_rules | `(tactic| walk_at "xOpD") => `(tactic| first
  | ((with_reducible refine' od_ownX ?hX ?_); (case hX => assumption))
  | ((with_reducible refine' od_ownIX ?hX ?_); (case hX => assumption)))
local macro_rules | `(tactic| walk_at "xEvD") => `(tactic| first
  | ((with_reducible refine' ev_callT ?hX ?_); (case hX => assumption))
  | ((with_reducible refine' ev_callX ?hX ?_); (case hX => assumption))
  | ((with_reducible refine' ev_methX ?hX ?_); (case hX => assumption))
  | ((with_reducible refine' ev_makeX ?hX ?_); (case hX => assumption))
  | ((with_reducible refine' ev_kwX ?hX ?_); (case hX => assumption))
  | ((with_reducible refine' ev_mkKwX ?hX ?_); (case hX => assumption)))
local macro_rules | `(tactic| walk_at "gEvD") => `(tactic| first
  | ((with_reducible refine' ev_var ?hv ?_); (case hv => exact rfl))
  | ((with_reducible refine' ev_varO ?hv ?_); (case hv => exact rfl))
  | with_reducible refine ev_ci ?_
  | with_reducible refine ev_cs ?_
  | with_reducible refine ev_cb ?_
  | with_reducible refine ev_cn ?_
  | ((with_reducible refine' ev_kt ?h ?_); (case h => with_reducible assumption))
  | with_reducible refine ev_cr ?_
  | with_reducible refine ev_ct ?_
  | with_reducible refine ev_new (evN_op (r := rCat) ?_)
  | with_reducible refine ev_new (evN_op (r := rRep) ?_)
  | ((with_reducible refine' ev_ixO ?hv ?_); (case hv => exact rfl))
  | with_reducible refine ev_op ?_
  | with_reducible refine ev_un ?_
  | with_reducible refine ev_isi2 ?_
  | with_reducible refine ev_isi4 ?_
  | ((with_reducible refine' ev_new (evN_listO ?hv ?_)); (case hv => exact rfl))
  | with_reducible refine ev_new (evN_cb1 (f := rListOf _) ?_)
  | ((with_reducible refine' ev_lenO ?hv ?_); (case hv => exact rfl))
  | with_reducible refine ev_cb1 ?_
  | with_reducible refine ev_lst ?_
  | with_reducible refine ev_dnew ?_
  | with_reducible refine ev_tup ?_
  | with_reducible refine ev_if ?_
  | with_reducible refine ev_and ?_
  | with_reducible refine ev_or ?_
  | with_reducible refine ev_not ?_
  | with_reducible refine ev_chain ?_
  | ((with_reducible refine' ev_new (evN_lcO ?hv ?_)); (case hv => exact rfl))
  | with_reducible refine ev_new (evN_lc ?_)
  | with_reducible refine ev_new (evN_sl ?_)
  | with_reducible refine ev_slT ?_
  | ((with_reducible refine' ev_fldS (n := 0) ?hv ?hc ?hn ?h1 ?h2 ?_); (case hv => exact rfl); (case hc => with_reducible assumption); (case hn => with_reducible assumption); (case h1 => decide +kernel); (case h2 => exact rfl))
  | ((with_reducible refine' ev_fldS (n := 1) ?hv ?hc ?hn ?h1 ?h2 ?_); (case hv => exact rfl); (case hc => with_reducible assumption); (case hn => with_reducible assumption); (case h1 => decide +kernel); (case h2 => exact rfl))
  | ((with_reducible refine' ev_fldS (n := 2) ?hv ?hc ?hn ?h1 ?h2 ?_); (case hv => exact rfl); (case hc => with_reducible assumption); (case hn => with_reducible assumption); (case h1 => decide +kernel); (case h2 => exact rfl))
  | ((with_reducible refine' ev_fldS (n := 3) ?hv ?hc ?hn ?h1 ?h2 ?_); (case hv => exact rfl); (case hc => with_reducible assumption); (case hn => with_reducible assumption); (case h1 => decide +kernel); (case h2 => exact rfl))
  | with_reducible refine ev_fld ?_
  | with_reducible refine ev_call ?_
  | with_reducible refine ev_kw ?_
  | with_reducible refine ev_mkKw ?_
  | with_reducible refine ev_meth ?_
  | with_reducible refine ev_prop ?_
  | with_reducible refine ev_make ?_)
local macro_rules | `(tactic| walk_at "gOpD") => `(tactic| first
  | with_reducible refine od_int ?_
  | with_reducible refine od_bl ?_
  | ((with_reducible refine' od_I ?hv ?_); (case hv => walk_at "ic"))
  | with_reducible refine od_ip ?_
  | with_reducible refine od_eqI ?_
  | with_reducible refine od_neI ?_
  | with_reducible refine od_eqS ?_
  | with_reducible refine od_neS ?_
  | with_reducible refine od_eqB ?_
  | with_reducible refine od_neB ?_
  | with_reducible refine od_isbl ?_
  | ((with_reducible refine' od_ixl ?hv ?_); (case hv => walk_at "dv"))
  | ((with_reducible refine' od_ixt ?hv ?_); (case hv => walk_at "dv"))
  | ((with_reducible refine' od_ixL ?hv ?_); (case hv => walk_at "dv"))
  | ((with_reducible refine' od_ixT ?hv ?_); (case hv => walk_at "dv"))
  | ((with_reducible refine' od_inN ?hv ?_); (case hv => walk_at "dy"))
  | ((with_reducible refine' od_inI ?hv ?_); (case hv => walk_at "dy"))
  | ((with_reducible refine' od_inS ?hv ?_); (case hv => walk_at "dy"))
  | with_reducible refine od_sign ?_
  | ((with_reducible refine' od_adds ?hv ?_); (case hv => walk_at "ln"))
  | with_reducible refine od_own ?_
  | with_reducible refine od_ownI ?_
  | with_reducible refine od_ownR ?_
  | with_reducible refine od_ownin ?_)
local macro_rules | `(tactic| walk_at "gExD") => `(tactic| first
  | with_reducible refine ex_seq ?_
  | ((with_reducible refine' ex_new (te := tLst tNil) ?hi ?_); (case hi => exact Nat.le_of_ble_eq_true rfl))
  | ((with_reducible refine' ex_newO ?hi ?_); (case hi => exact Nat.le_of_ble_eq_true rfl))
  | with_reducible refine ex_set ?_
  | with_reducible refine ex_asg ?_
  | ((with_reducible refine' ex_par ?hi ?_); (case hi => decide))
  | with_reducible refine ex_par3 ?_
  | ((with_reducible refine' ex_retO ?hv ?_); (case hv => exact rfl))
  | with_reducible refine ex_ret ?_
  | with_reducible refine ex_retN ?_
  | with_reducible refine ex_next ?_
  | with_reducible refine ex_break ?_
  | with_reducible refine ex_cont ?_
  | with_reducible refine ex_ifB ?_
  | ((with_reducible refine' ex_aug ?hv ?_); (case hv => exact rfl))
  | ((with_reducible refine' ex_app ?hv ?hl ?_); (case hv => exact rfl); (case hl => walk_at "ln"))
  | ((with_reducible refine' ex_insO ?hv ?hl ?_); (case hv => exact rfl); (case hl => walk_at "ln"))
  | ((with_reducible refine' ex_fld ?hv ?hc ?hn ?hl ?_); (case hv => exact rfl); (case hc => with_reducible assumption); (case hn => with_reducible assumption); (case hl => exact Nat.le_of_ble_eq_true rfl))
  | ((with_reducible refine' ex_extO ?hv ?_); (case hv => exact rfl))
  | ((with_reducible refine' ex_clrO ?hv ?_); (case hv => exact rfl))
  | with_reducible refine ex_drop ?_
  | with_reducible refine ex_for ?_)
local macro_rules | `(tactic| walk_at "gEvT") => `(tactic| first
  | with_reducible refine et_test ?_
  | with_reducible refine et_B ?_
  | with_reducible refine et_and ?_
  | with_reducible refine et_or ?_
  | with_reducible refine et_not ?_
  | with_reducible refine et_yes ?_)
local macro_rules | `(tactic| walk_at "gite") => `(tactic| first
  | with_reducible refine iteT ?_
  | with_reducible refine iteF ?_
  | with_reducible refine iteNT ?_
  | with_reducible refine iteNF ?_)
local macro_rules | `(tactic| walk_at "gUnD") => `(tactic| first
  | with_reducible refine ud_U ?_
  | ((with_reducible refine' fW_name ?hT ?_); (case hT => assumption))
  | ((with_reducible refine' fW_rows ?hT ?_); (case hT => assumption))
  | ((with_reducible refine' fE_work ?hT ?_); (case hT => assumption))
  | ((with_reducible refine' fE_nums ?hT ?_); (case hT => assumption))
  | ((with_reducible refine' fP_edition ?hT ?_); (case hT => assumption))
  | ((with_reducible refine' fP_count ?hT ?_); (case hT => assumption))
  | ((with_reducible refine' fK_work ?hT ?_); (case hT => assumption))
  | ((with_reducible refine' fK_rows ?hT ?_); (case hT => assumption))
  | ((with_reducible refine' fK_told ?hT ?_); (case hT => assumption))
  | ((with_reducible refine' fS_rule ?hT ?_); (case hT => assumption))
  | ((with_reducible refine' fS_tables ?hT ?_); (case hT => assumption))
  | ((with_reducible refine' fS_spots ?hT ?_); (case hT => assumption))
  | ((with_reducible refine' fS_held ?hT ?_); (case hT => assumption))
  | ((with_reducible refine' fS_stamps ?hT ?_); (case hT => assumption))
  | ((with_reducible refine' fS_row ?hT ?_); (case hT => assumption))
  | ((with_reducible refine' fS_top ?hT ?_); (case hT => assumption))
  | ((with_reducible refine' fS_come ?hT ?_); (case hT => assumption))
  | ((with_reducible refine' fR_parts ?hT ?_); (case hT => assumption))
  | ((with_reducible refine' fR_way ?hT ?_); (case hT => assumption)))
local macro_rules | `(tactic| walk_at "gCbD") => `(tactic| first
  | ((with_reducible refine' cd_isi ?ht ?hk ?_); (case ht => walk_at "dt"); (case hk => walk_at "kb"))
  | ((with_reducible refine' cd_isiO ?ht ?hk ?_); (case ht => walk_at "dt"); (case hk => first | with_reducible assumption | exact kit_same))
  | ((with_reducible refine' cd_lens ?hv ?_); (case hv => walk_at "ln"))
  | with_reducible refine cd_len ?_
  | with_reducible refine cd_all ?_
  | with_reducible refine cd_any ?_
  | with_reducible refine cd_int ?_
  | with_reducible refine cd_intb ?_
  | with_reducible refine cd_mx ?_
  | with_reducible refine cd_mn ?_
  | with_reducible refine cd_tuple ?_
  | with_reducible refine cd_lenO ?_)
local macro_rules | `(tactic| walk_at "gEvI") => `(tactic| first
  | with_reducible refine ei_seq ?_
  | with_reducible refine ei_str ?_
  | with_reducible refine ei_rg1 ?_
  | with_reducible refine ei_rg2 ?_
  | with_reducible refine ei_enum ?_
  | with_reducible refine ei_zip ?_
  | with_reducible refine ei_zipA ?_
  | with_reducible refine ei_zipB ?_
  | with_reducible refine ei_zipB3 ?_)
local macro_rules | `(tactic| walk_at "gEvN") => `(tactic| first
  | ((with_reducible refine' evN_listO ?hv ?_); (case hv => exact rfl))
  | ((with_reducible refine' evN_lcO ?hv ?_); (case hv => exact rfl))
  | with_reducible refine evN_lc ?_
  | with_reducible refine evN_sl ?_
  | with_reducible refine evN_op ?_
  | with_reducible refine evN_cb1 ?_
  | with_reducible refine evN_lst ?_)
local macro_rules | `(tactic| walk_at "d1") => `(tactic| first
  | ((with_reducible show EvD _ _ _ _ _); walk_at "gEvD")
  | ((with_reducible show OpD _ _ _ _ _ _); walk_at "gOpD")
  | with_reducible refine ev_nil ?_
  | with_reducible refine ev_cons ?_
  | ((with_reducible show ExD _ _ _ _ _); walk_at "gExD")
  | ((with_reducible show EvT _ _ _ _ _); walk_at "gEvT")
  | with_reducible refine isB_mk ?_
  | walk_at "gite"
  | ((with_reducible show UnD _ _ _ _ _); walk_at "gUnD")
  | ((with_reducible show CbD _ _ _ _ _); walk_at "gCbD")
  | ((with_reducible refine' tg_name ?hi ?_); (case hi => walk_at "dm"))
  | ((with_reducible refine' tg_tup ?hi ?_); (case hi => exact rfl))
  | ((with_reducible refine' tg_unl ?hi ?_); (case hi => exact rfl))
  | with_reducible refine tg_cons ?_
  | with_reducible refine tg_nil ?_
  | ((with_reducible show EvI _ _ _ _ _); walk_at "gEvI")
  | ((with_reducible refine' few_mk ?hl ?_); (case hl => exact Nat.le_of_ble_eq_true rfl))
  | ((with_reducible show EvN _ _ _ _ _); walk_at "gEvN")
  | ((with_reducible refine' on_cat ?hv ?_); (case hv => walk_at "ln"))
  | ((with_reducible refine' on_rep ?hv ?hw ?_); (case hv => walk_at "ln"); (case hw => walk_at "ln"))
  | with_reducible refine cn_list ?_
  | with_reducible refine eo_no ?_
  | with_reducible refine eo_part ?_
  | with_reducible refine seq_l ?_
  | with_reducible refine seq_t ?_
  | with_reducible refine ⟨insD_mk (by decide +kernel), ?_⟩)
local macro_rules | `(tactic| walk_at "dx") => `(tactic| first
  | ((with_reducible show EvD _ _ _ _ _); walk_at "xEvD")
  | ((with_reducible show OpD _ _ _ _ _ _); walk_at "xOpD")
  | ((with_reducible show ExD _ _ _ _ _); walk_at "xExD"))
local macro_rules | `(tactic| walk_at "dX") => `(tactic| repeat (first | walk_at "d1" | walk_at "dx"))
local macro_rules | `(tactic| walk_at "dg") => `(tactic| repeat (walk_at "d1"))
section
set_option maxRecDepth 100000
set_option maxHeartbeats 2000000

abbrev sis_one_of : Stmt := top 15
theorem scis_one_of : FnScope ["thing", "words"] ["thing", "words"] (defScope sis_one_of) := ⟨rfl, rfl, rfl, by decide +kernel, rfl, by decide +kernel, by decide +kernel⟩
abbrev sfield_reason : Stmt := top 16
theorem scfield_reason : FnScope ["thing", "ahead", "part", "word"] ["thing", "ahead"] (defScope sfield_reason) := ⟨rfl, rfl, rfl, by decide +kernel, rfl, by decide +kernel, by decide +kernel⟩
abbrev schecked_fields : Stmt := top 17
theorem scchecked_fields : FnScope ["things", "found", "index", "thing", "reason", "field"] ["things"] (defScope schecked_fields) := ⟨rfl, rfl, rfl, by decide +kernel, rfl, by decide +kernel, by decide +kernel⟩
abbrev schecked_show : Stmt := top 18
theorem scchecked_show : FnScope ["show", "names"] ["show", "names"] (defScope schecked_show) := ⟨rfl, rfl, rfl, by decide +kernel, rfl, by decide +kernel, by decide +kernel⟩
abbrev sRule___init__ : Stmt := inClass (top 19) 0
theorem scRule___init__ : FnScope ["self", "fields", "show", "field"] ["self", "fields", "show"] (defScope sRule___init__) := ⟨rfl, rfl, rfl, by decide +kernel, rfl, by decide +kernel, by decide +kernel⟩
section
variable {P : Program} {w : World} {K : PySem.W.Frag} {mg : Str → Option Value} {base : Heap} {Z : Cs} {Yr : Ra}
theorem headF_at {f : List Str} (h : OkF f) : atI (dS f) 0 = some (.str (headF f)) := by
  obtain ⟨a, us, rfl, _⟩ := h
  exact atI_nat (xs := dS (a :: us)) (j := 0) rfl
end
end
/-! For the head: the written tables of rules. -/
section
set_option maxRecDepth 100000
set_option maxHeartbeats 0
theorem kd_rows {K : PySem.W.Frag} {w : World} {d : Addr} {ps : List Str} {uss : List (List Str)} (D : ∃ es n, KDict K w d es n) (h : rowsB K d (ps.zip uss) = true) (i : Nat) (p : Str) (us : List Str) (h1 : ps[i]? = some p) (h2 : uss[i]? = some us) :
    ∃ t, KDct K w d p (.ref t) ∧ KTup K t us := by
  have hp : (p, us) ∈ ps.zip uss := List.mem_of_getElem? (i := i) (by rw [List.getElem?_zip_eq_some]; exact ⟨h1, h2⟩)
  obtain ⟨t, ht, hx⟩ := rowsB_ok h hp
  obtain ⟨es, n, D⟩ := D
  exact ⟨t, ⟨es, n, _, D.at_, D.lit, ht, rfl⟩, txB_ok hx⟩
end
/-! What a rule tells of itself. -/
section
set_option maxRecDepth 100000
set_option maxHeartbeats 2000000

abbrev sRule_fields : Stmt := inClass (top 19) 2
theorem scRule_fields : FnScope ["self"] ["self"] (defScope sRule_fields) := ⟨rfl, rfl, rfl, by decide +kernel, rfl, by decide +kernel, by decide +kernel⟩
abbrev sRule_show : Stmt := inClass (top 19) 3
theorem scRule_show : FnScope ["self"] ["self"] (defScope sRule_show) := ⟨rfl, rfl, rfl, by decide +kernel, rfl, by decide +kernel, by decide +kernel⟩
section
variable {P : Program} {w : World} {K : PySem.W.Frag} {mg : Str → Option Value} {base : Heap} {Yr : Ra}
def fRFields (Yr : Ra) : FD := fun ds Φ => ∃ rows way nm, ds = [dR Yr rows way nm] ∧ rows.length ≤ 3 ∧ Φ (.lst (rows.map dF))
theorem okM_fields (B : Bn mg) (Ur : Tr K mg Yr) (Df : DefM K Yr.R "fields" "Rule.fields" sRule_fields) : CalM P w K mg base 1 Yr.R "fields" ["self"] (spD K (fRFields Yr)) := by
  refine CalM.ofD Df scRule_fields (fun _ _ _ _ _ _ us hl => match us, hl with | [_], _ => rfl) (fun ds Φ h => ?_) (fun fa cdv A outer s H hr => ⟨_, (pss_one (ps_ret (pe_callTy (n_list K) (by rfl) B.list (by decide +kernel) (pa_cons (e_fld K (pv 0)) pa_nil)))), fun S ds Φ h => ?_⟩)
  · obtain ⟨_, _, _, rfl, _⟩ := h; rfl
  · obtain ⟨rows, way, nm, rfl, h3, k⟩ := h
    walk_at "dg"
    exact k
def fRShow (Yr : Ra) : FD := fun ds Φ => ∃ rows way nm, ds = [dR Yr rows way nm] ∧ Φ (.tup [.str way, .str nm])
theorem okM_show (B : Bn mg) (Ur : Tr K mg Yr) (Df : DefM K Yr.R "show" "Rule.show" sRule_show) : CalM P w K mg base 1 Yr.R "show" ["self"] (spD K (fRShow Yr)) := by
  refine CalM.ofD Df scRule_show (fun _ _ _ _ _ _ us hl => match us, hl with | [_], _ => rfl) (fun ds Φ h => ?_) (fun fa cdv A outer s H hr => ⟨_, (pss_one (ps_ret (e_fld K (pv 0)))), fun S ds Φ h => ?_⟩)
  · obtain ⟨_, _, _, rfl, _⟩ := h; rfl
  · obtain ⟨rows, way, nm, rfl, k⟩ := h
    walk_at "dg"
    exact k
end
end
/-! Rules that are refused: the program's side. -/
section
set_option maxRecDepth 100000
set_option maxHeartbeats 4000000

abbrev sBadRule___init__ : Stmt := inClass (top 3) 0
theorem xc_BadRule {P : Program} {w : World} {K : PySem.W.Frag} {mg : Str → Option Value} {base : Heap} {C : Addr} (D : XiD P K mg "BadRule" C "index" "BadRule.__init__" sBadRule___init__) (ng : PySem.W.findIn K (.ref C) "reason" = some none) : Xc2 P w K mg base "BadRule" C "index" "reason" :=
  xc2_of (p0 := ⟨10, 8, 10, 13⟩) (p1 := ⟨10, 8, 10, 15⟩) (p2 := ⟨10, 8, 10, 24⟩) (p3 := ⟨10, 25, 10, 30⟩) (q3 := ⟨10, 32, 10, 38⟩) (p4 := ⟨10, 8, 10, 39⟩) (p5 := ⟨10, 8, 10, 39⟩) (p6 := ⟨11, 8, 11, 12⟩) (p7 := ⟨11, 8, 11, 18⟩) (p8 := ⟨11, 21, 11, 26⟩) (p9 := ⟨11, 8, 11, 26⟩) (p10 := ⟨12, 8, 12, 12⟩) (p11 := ⟨12, 8, 12, 19⟩) (p12 := ⟨12, 22, 12, 28⟩) (p13 := ⟨12, 8, 12, 28⟩) D ng rfl ⟨rfl, rfl, rfl, by decide +kernel, by decide +kernel, rfl, rfl, rfl, rfl, rfl, by decide +kernel, by decide +kernel, by decide +kernel⟩ rfl rfl (fun _ _ _ _ _ _ _ _ us hl => match us, hl with | [_, _, _], _ => rfl) (fun _ => rfl) (fun _ => rfl) (fun _ => rfl) (fun _ => rfl) (by decide) (by decide) (by decide) (by decide)
def wordIn (vs : List Str) : D → Bool
  | .str z => decide (z ∈ vs)
  | _ => false
def partsR : List Str → List (List Str) → List D → Option Str
  | p :: ps, vs :: vss, d :: ds => if wordIn vs d = true then partsR ps vss ds else some p
  | _, _, _ => none
/-- why a thing is no field behind fields with some names -/
def reasonD (ahead : List Str) (x : D) : Option Str := match itsD x with
  | none => some "field"
  | some [] => some "field"
  | some (a :: rest) => if rest.length = 6 then (match wordD a with
    | none => some "name"
    | some z => if z ∈ ahead then some "name" else partsR partsL wordsL rest) else some "field"
def txtD : D → Str
  | .str z => z
  | _ => ""
def fieldOf (x : D) : List Str := ((itsD x).getD []).map txtD
/-- a rule's fields, one by one, or where and why it ends -/
def goF : List (List Str) → List D → (Nat × Str) ⊕ List (List Str)
  | acc, [] => .inr acc
  | acc, x :: xs => if acc.length = 3 then .inl (acc.length, "field") else match reasonD (acc.map headF) x with
    | some r => .inl (acc.length, r)
    | none => goF (acc ++ [fieldOf x]) xs
theorem goF_cons (acc : List (List Str)) (x : D) (xs : List D) : goF acc (x :: xs) = if acc.length = 3 then .inl (acc.length, "field") else match reasonD (acc.map headF) x with
    | some r => .inl (acc.length, r)
    | none => goF (acc ++ [fieldOf x]) xs := rfl
def dueF (its : List D) : (Nat × Str) ⊕ List (List Str) := if its = [] then .inl (0, "field") else goF [] its
/-- a thing where a field may stand -/
def FdOk (K : PySem.W.Frag) (x : D) : Prop := noSq K x ∨ ∃ its, (x = .lst its ∨ x = .tup its) ∧ its.length < 1000 ∧ ∀ d ∈ its, Anyd K d
theorem itsD_of {x : D} {its : List D} (h : x = .lst its ∨ x = .tup its) : itsD x = some its := by rcases h with rfl | rfl <;> rfl
theorem dS_tx (us : List Str) : (dS us).map txtD = us := by
  unfold dS
  rw [List.map_map]
  exact List.map_id _
theorem partsR_none : ∀ {ps : List Str} {vss : List (List Str)} {ds : List D}, ps.length = ds.length → vss.length = ds.length → partsR ps vss ds = none → ∃ us, ds = dS us ∧ ∀ (i : Nat) (u : Str) (vs : List Str), us[i]? = some u → vss[i]? = some vs → u ∈ vs
  | [], [], [], _, _, _ => ⟨[], rfl, fun i u vs h => by simp at h⟩
  | p :: ps, vs :: vss, d :: ds, h1, h2, h => by
    unfold partsR at h
    by_cases c : wordIn vs d = true
    · rw [if_pos c] at h
      obtain ⟨us, e, k⟩ := partsR_none (by simpa using h1) (by simpa using h2) h
      cases d with
      | str z =>
        refine ⟨z :: us, by rw [e]; rfl, fun i u ws h3 h4 => ?_⟩
        cases i with
        | zero =>
          cases h3
          cases h4
          exact of_decide_eq_true c
        | succ i => exact k i u ws (by simpa using h3) (by simpa using h4)
      | _ => cases c
    · rw [if_neg c] at h
      cases h
  | [], [], _ :: _, h, _, _ => by cases h
  | _ :: _, _, [], h, _, _ => by cases h
  | [], _ :: _, _, h, g, _ => by rw [← h] at g; cases g
  | _ :: _, [], _ :: _, _, g, _ => by cases g
theorem reasonD_ok {ahead : List Str} {x : D} (h : reasonD ahead x = none) : ∃ f, (x = .lst (dS f) ∨ x = .tup (dS f)) ∧ OkF f ∧ headF f ∉ ahead ∧ fieldOf x = f := by
  unfold reasonD at h
  have key : ∀ a rest, (if rest.length = 6 then (match wordD a with
    | none => some "name"
    | some z => if z ∈ ahead then some "name" else partsR partsL wordsL rest) else some ("field" : Str)) = none → ∃ f, a :: rest = dS f ∧ OkF f ∧ headF f ∉ ahead := fun a rest h => by
    by_cases h6 : rest.length = 6
    · rw [if_pos h6] at h
      cases hw : wordD a with
      | none => rw [hw] at h; cases h
      | some z =>
        rw [hw] at h
        dsimp only at h
        by_cases hz : z ∈ ahead
        · rw [if_pos hz] at h; cases h
        · rw [if_neg hz] at h
          obtain ⟨us, e, k⟩ := partsR_none (show partsL.length = rest.length by rw [h6]; rfl) (show wordsL.length = rest.length by rw [h6]; rfl) h
          cases a with
          | str y =>
            have hy : isW y = true ∧ y = z := by
              by_cases c : isW y = true
              · rw [show wordD (.str y) = some y from if_pos c] at hw
                exact ⟨c, Option.some.inj hw⟩
              · rw [show wordD (.str y) = none from if_neg c] at hw
                cases hw
            obtain ⟨c, rfl⟩ := hy
            refine ⟨y :: us, by rw [e]; rfl, ⟨y, us, rfl, c, ?_, k⟩, hz⟩
            rw [e, dS_len] at h6
            exact h6
          | _ => cases hw
    · rw [if_neg h6] at h
      cases h
  cases x with
  | lst its =>
    cases its with
    | nil => cases h
    | cons a rest =>
      obtain ⟨f, e, o, n⟩ := key a rest h
      exact ⟨f, .inl (by rw [e]), o, n, by show (a :: rest).map txtD = f; rw [e, dS_tx]⟩
  | tup its =>
    cases its with
    | nil => cases h
    | cons a rest =>
      obtain ⟨f, e, o, n⟩ := key a rest h
      exact ⟨f, .inr (by rw [e]), o, n, by show (a :: rest).map txtD = f; rw [e, dS_tx]⟩
  | _ => cases h
/-- what is shown, a pair -/
def showD (names : List Str) : List D → Option (Str × Str)
  | [.str a, .str b] => if a ∈ waysL ∧ b ∈ names then some (a, b) else none
  | _ => none
section
variable {P : Program} {w : World} {K : PySem.W.Frag} {mg : Str → Option Value} {base : Heap} {Yr : Ra} {XBadRule : Addr}
def fOneOfG (K : PySem.W.Frag) : FD := fun ds Φ => ∃ d x ws, ds = [d, x] ∧ (x = .tup (dS ws) ∨ x = .lst (dS ws)) ∧ Anyd K d ∧ Φ (.bl (wordIn ws d))
theorem okD_one_ofG (B : Bn mg) (Df : Def K mg "is_one_of" sis_one_of) : Cal P w K mg base 1 "is_one_of" ["thing", "words"] (spD K (fOneOfG K)) := by
  refine Cal.ofD Df scis_one_of (fun _ _ _ _ _ _ us hl => match us, hl with | [_, _], _ => rfl) (fun ds Φ h => ?_) (fun fa cdv A outer s H hr => ⟨_, (pss_one (ps_ret (pe_and (pe_callB (n_isi K) (by rfl) B.isinstance (by decide +kernel) (pa_cons (pv 0) (pa_cons (pe_bltn (v := .ty "str") (by rfl) B.str (by decide +kernel) rfl) pa_nil))) (pe_one (pe_cmpR (o_inq K) (pv 0) (pv 1) rfl))))), fun S ds Φ h => ?_⟩)
  · obtain ⟨_, _, _, rfl, _⟩ := h; rfl
  · obtain ⟨d, x, ws, rfl, hx, hd, k⟩ := h
    rcases hd with ⟨z, rfl, hz⟩ | ⟨t, ht, hk⟩
    · rcases hx with rfl | rfl
      · walk_at "dg"
        exact k
      · walk_at "dg"
        exact k
    · have e : wordIn ws d = false := by
        cases d with
        | str z => cases ht; rw [show PySem.W.kitOne K (.type "str") (.type "str") = some true from kb_str_str] at hk; cases hk
        | _ => rfl
      rw [e] at k
      walk_at "dg"
      exact k
def optD : Option Str → D
  | none => .non
  | some r => .str r
def fReasonG (K : PySem.W.Frag) : FD := fun ds Φ => ∃ x names, ds = [x, .lst (dS names)] ∧ FdOk K x ∧ names.length < 100 ∧ Φ (optD (reasonD names x))
theorem okD_reasonG (B : Bn mg) (Cs1 : Trc K w mg Yr) (Cis_row : Cal P w K mg base 1 "is_row" ["thing"] (spD K (fIsRow K))) (Cis_word : Cal P w K mg base 1 "is_word" ["thing"] (spD K (fIsWord K))) (Cis_one_of : Cal P w K mg base 1 "is_one_of" ["thing", "words"] (spD K (fOneOfG K))) (Df : Def K mg "field_reason" sfield_reason) :
    Cal P w K mg base 2 "field_reason" ["thing", "ahead"] (spD K (fReasonG K)) := by
  refine Cal.ofD Df scfield_reason (fun _ _ _ _ _ _ us hl => match us, hl with | [_, _], _ => rfl) (fun ds Φ h => ?_) (fun fa cdv A outer s H hr => ⟨_, (pss_cons (ps_if (PW.pt (pw_or (pt_not (pt_val (pe_fn Cis_row hr (by decide) (pa_cons (pv 0) pa_nil)))) (pw_or1 (pt_cmpR op_ne (pe_callB (n_len K) (by rfl) B.len PySem.boot_len (pa_cons (pv 0) pa_nil)) (pe_op op_add pe_int (pe_callB (n_len K) (by rfl) B.len PySem.boot_len (pa_cons (pe_glob (v := .ref Yr.P) rfl Cs1.parts rfl) pa_nil))) (nomark _))))) (pss_one (ps_ret pe_str)) pss_nil)
      (pss_cons (ps_if (PW.pt (pw_or (pt_not (pt_val (pe_fn Cis_word hr (by decide) (pa_cons (pe_ix (x_seq K) (pv 0) pe_int (fun _ _ => rfl)) pa_nil)))) (pw_or1 (pt_cmpR (o_inq K) (pe_ix (x_seq K) (pv 0) pe_int (fun _ _ => rfl)) (pv 1) rfl)))) (pss_one (ps_ret pe_str)) pss_nil)
      (pss_cons (ps_for PassesOwn.never rfl (q_zipB K false true B.zip (pa_cons (pe_glob (v := .ref Yr.P) rfl Cs1.parts rfl) (pa_cons (pe_slice (y_list K) (pe_callTy (n_list K) (by rfl) B.list (by decide +kernel) (pa_cons (pv 0) pa_nil)) (po_some pe_int) po_none) pa_nil))) (pg_tup rfl (pgs_cons (pg_name (i := 2) scfield_reason.nd rfl (Or.inl rfl)) (pgs_cons (pg_name (i := 3) scfield_reason.nd rfl (Or.inl rfl)) pgs_nil))) (pss_one (ps_if (pt_not (pt_val (pe_fn Cis_one_of hr (by decide) (pa_cons (pv 3) (pa_cons (pe_ix (x_kd K w) (pe_glob (v := .ref Yr.D) rfl Cs1.words rfl) (pv 2) (fun _ _ => rfl)) pa_nil))))) (pss_one (ps_ret (pv 2))) pss_nil)))
      (pss_one (ps_ret pe_non))))), fun S ds Φ h => ?_⟩)
  · obtain ⟨_, _, rfl, _⟩ := h; rfl
  · obtain ⟨x, names, rfl, hx, hnl, k⟩ := h
    have hP := Cs1.kP
    rcases hx with hn | ⟨its, hx, hl, hA⟩
    · have e : reasonD names x = some ("field" : Str) := by unfold reasonD; rw [hn.none]
      rw [e] at k
      walk_at "dg"
      refine hn.ask ?_
      walk_at "dg"
      exact k
    · walk_at "dg"
      refine fIsRow.seq hx ?_
      walk_at "dg"
      refine ⟨_, hx, ?_⟩
      walk_at "dg"
      by_cases h7 : its.length = 7
      rotate_left
      · have e : reasonD names x = some ("field" : Str) := by
          unfold reasonD
          rw [itsD_of hx]
          cases its with
          | nil => rfl
          | cons a rest => exact if_neg (by rw [List.length_cons] at h7; omega)
        rw [e] at k
        refine k_yes (by rw [dS_len]; simp; omega) ?_
        walk_at "dg"
        exact k
      refine k_no (by rw [dS_len, h7]; rfl) ?_
      walk_at "dg"
      cases its with
      | nil => cases h7
      | cons a rest =>
      have h6 : rest.length = 6 := by rw [List.length_cons] at h7; omega
      have hat0 : atI (a :: rest) 0 = some a := atI_nat (xs := a :: rest) (j := 0) rfl
      have step : ∀ (S : Sx) (Φ' : D → Prop), Φ' a → OpD K S (rIx K) x (.int 0) Φ' := fun S Φ' k' => by
        rcases hx with rfl | rfl
        · exact od_ixL hat0 k'
        · exact od_ixT hat0 k'
      have er : reasonD names x = (match wordD a with
          | none => some ("name" : Str)
          | some z => if z ∈ names then some ("name" : Str) else partsR partsL wordsL rest) := by
        unfold reasonD
        rw [itsD_of hx]
        exact if_pos h6
      rw [er] at k
      clear er
      refine step _ _ ?_
      walk_at "dg"
      rcases hA a List.mem_cons_self with ⟨z, rfl, hz⟩ | ⟨t, ht, hk⟩
      rotate_left
      · have e : wordD a = none := by
          cases a with
          | str z => cases ht; rw [show PySem.W.kitOne K (.type "str") (.type "str") = some true from kb_str_str] at hk; cases hk
          | _ => rfl
        rw [e] at k
        refine ⟨_, rfl, .inr ⟨t, ht, hk, ?_⟩⟩
        walk_at "dg"
        exact k
      refine ⟨_, rfl, .inl ⟨z, rfl, hz, ?_⟩⟩
      cases hw : isW z with
      | false =>
        rw [show wordD (.str z) = none from if_neg (by rw [hw]; exact Bool.false_ne_true)] at k
        walk_at "dg"
        exact k
      | true =>
        rw [show wordD (.str z) = some z from if_pos hw] at k
        dsimp only at k
        walk_at "dg"
        refine step _ _ ?_
        walk_at "dg"
        by_cases hm : z ∈ names
        · rw [if_pos hm] at k
          refine k_yes (decide_eq_true hm) ?_
          walk_at "dg"
          exact k
        · rw [if_neg hm] at k
          refine k_no (decide_eq_false hm) ?_
          walk_at "dg"
          refine ⟨_, hx, _, rfl, ?_⟩
          walk_at "dg"
          refine ⟨1, rfl, ?_⟩
          walk_at "dg"
          rw [show cutD (D.str z :: rest) (some (1 : Int)) none = rest from by rw [show (1 : Int) = ((1 : Nat) : Int) from rfl, cutD_from]; rfl]
          refine ⟨dS partsL, rest, rfl, fun i ρ => ∃ b c, ρ = [.val x, .val (.lst (dS names)), b, c] ∧ partsR partsL wordsL rest = partsR (partsL.drop i) (wordsL.drop i) (rest.drop i), ⟨_, _, rfl, rfl⟩, ?_, ?_⟩
          · rintro i d ρ' hd ⟨b, c, rfl, hp⟩
            obtain ⟨y1, y2, h1, h2, rfl⟩ := zipD_get hd
            obtain ⟨p, hpp, rfl⟩ := dS_mem h1
            have hi : i < 6 := (List.getElem?_eq_some_iff.mp hpp).1
            obtain ⟨vs, hvs⟩ : ∃ vs, wordsL[i]? = some vs := ⟨_, List.getElem?_eq_getElem (show i < wordsL.length from hi)⟩
            obtain ⟨tt, ht, hkt⟩ := Cs1.kD i p vs hpp hvs
            have hy := hA y2 (List.mem_cons_of_mem _ (List.mem_of_getElem? h2))
            have dr : ∀ {α : Type} {l : List α} {v : α}, l[i]? = some v → l.drop i = v :: l.drop (i + 1) := fun {α l v} h => by
              have hi := (List.getElem?_eq_some_iff.mp h).1
              have he := (List.getElem?_eq_some_iff.mp h).2
              rw [List.drop_eq_getElem_cons hi, he]
            rw [dr hpp, dr hvs, dr h2] at hp
            have hp2 : partsR partsL wordsL rest = if wordIn vs y2 = true then partsR (partsL.drop (i + 1)) (wordsL.drop (i + 1)) (rest.drop (i + 1)) else some p := hp
            walk_at "dg"
            refine od_kd ht hkt ?_
            walk_at "dg"
            refine ⟨y2, _, vs, rfl, .inl rfl, hy, ?_⟩
            cases hwi : wordIn vs y2 with
            | true =>
              rw [hwi] at hp2
              walk_at "dg"
              exact ⟨_, _, rfl, hp2⟩
            | false =>
              rw [hwi] at hp2
              walk_at "dg"
              rw [show partsR partsL wordsL rest = some p from hp2] at k
              exact k
          · rintro ρ' ⟨b, c, rfl, hp⟩
            walk_at "dg"
            rw [zipD_len, dS_len, h6] at hp
            rw [show partsR partsL wordsL rest = none from hp] at k
            exact k
def FldArg (K : PySem.W.Frag) (Xr : Addr) (x : D) (Φ : List (List Str) → Prop) (Ψ : Ex → Prop) : Prop := (noSq K x ∧ Ψ ⟨Xr, ["reason", "index"], [.str "field", .int 0]⟩) ∨
  ∃ its, (x = .lst its ∨ x = .tup its) ∧ its.length < 1000 ∧ (∀ d ∈ its, FdOk K d) ∧ endP (dueF its) Φ fun p => Ψ ⟨Xr, ["reason", "index"], [.str p.2, .int ((p.1 : Nat) : Int)]⟩
def fFieldsX (K : PySem.W.Frag) (Xr : Addr) : FX := fun ds Φ Ψ => ∃ x, ds = [x] ∧ FldArg K Xr x (fun rows => Φ (.lst (rows.map dF))) Ψ
theorem okX_fields (B : Bn mg) (Cs1 : Trc K w mg Yr) (XC_BadRule : Xc2 P w K mg base "BadRule" XBadRule "index" "reason") (Cis_row : Cal P w K mg base 1 "is_row" ["thing"] (spD K (fIsRow K))) (Cfield_reason : Cal P w K mg base 2 "field_reason" ["thing", "ahead"] (spD K (fReasonG K))) (Df : Def K mg "checked_fields" schecked_fields) :
    CalX P w K mg base 3 "checked_fields" ["things"] (spX K (fFieldsX K XBadRule)) := by
  obtain ⟨tM, cMF⟩ := Cs1.most
  refine CalX.ofD Df scchecked_fields (fun _ _ _ _ _ _ us hl => match us, hl with | [_], _ => rfl) (fun ds Φ Ψ h => ?_) (fun fa cdv A outer s H E hr => ⟨_, (pss_cons (ps_if (PW.pt (pw_or (pt_not (pt_val (pe_fn Cis_row hr (by decide) (pa_cons (pv 0) pa_nil)))) (pw_or1 (pt_cmpR op_eq (pe_callB (n_len K) (by rfl) B.len PySem.boot_len (pa_cons (pv 0) pa_nil)) pe_int (nomark _))))) (pss_one (ps_re2 rfl XC_BadRule hr tkX pe_int pe_str)) pss_nil)
      (pss_cons (ps_own (ps_set (i := 1) scchecked_fields.nd rfl (Or.inl rfl) (pe_lst pa_nil)))
      (pss_cons (ps_for poX rfl (q_enum K B.enumerate (pa_cons (pv 0) pa_nil)) (pg_tup rfl (pgs_cons (pg_name (i := 2) scchecked_fields.nd rfl (Or.inl rfl)) (pgs_cons (pg_name (i := 3) scchecked_fields.nd rfl (Or.inl rfl)) pgs_nil))) (pss_cons (ps_set (i := 4) scchecked_fields.nd rfl (Or.inl rfl) (pe_ifExp (pt_cmpR op_eq (pv 2) (pe_glob (v := .int 3) rfl cMF ⟨_, rfl⟩) (nomark _)) pe_str (pe_fn Cfield_reason hr (by decide) (pa_cons (pv 3) (pa_cons (pe_lc (own := [("field", 5)]) (g := (gName 5)) rfl scchecked_fields.nd (q_seq K (pv 1)) (blkOk_by (own := [("field", 5)]) (N := ["things", "found", "index", "thing", "reason", "field"]) (sc := defScope schecked_fields) (by decide +kernel)) (fun _ _ _ _ _ => (pg_name (i := 5) scchecked_fields.nd rfl (Or.inl rfl) (.inr rfl))) (fun _ _ _ _ _ => pts_nil) (fun _ _ _ _ _ => (pe_ix (x_tup K) (pv 5) pe_int (fun _ _ => rfl)))) pa_nil)))))
      (pss_cons (ps_if (pt_cmpR op_notN (pv 4) pe_non (nomark _)) (pss_one (ps_re2 rfl XC_BadRule hr tkX (pv 2) (pv 4))) pss_nil)
      (pss_one (ps_expr (e_bm K PySem.F.plainAttrs_list PySem.F.slot_list_append PySem.F.type_list_append mt_append (pv 1) (pa_cons (pe_callTy (n_tuple K) (by rfl) B.tuple (by decide +kernel) (pa_cons (pv 3) pa_nil)) pa_nil)))))))
      (pss_one (ps_ret (pv 1)))))), fun S Ψ hX ds Φ h => ?_⟩)
  · obtain ⟨_, rfl, _⟩ := h; rfl
  · obtain ⟨x, rfl, ⟨hn, k⟩ | ⟨its, hx, hl, hA, k⟩⟩ := h
    · walk_at "dX"
      refine hn.ask ?_
      walk_at "dX"
      exact k
    · walk_at "dX"
      refine fIsRow.seq hx ?_
      walk_at "dX"
      refine ⟨_, hx, ?_⟩
      walk_at "dX"
      unfold dueF at k
      by_cases h0 : its = []
      · rw [if_pos h0] at k
        refine k_yes (by rw [h0]; rfl) ?_
        walk_at "dX"
        exact k
      · rw [if_neg h0] at k
        refine k_no (decide_eq_false (by have := List.length_pos_iff.mpr h0; omega)) ?_
        walk_at "dX"
        refine ⟨x, rfl, its, hx, fun i ρ => ∃ acc a b c d, ρ = [.val x, .own (acc.map dF), a, b, c, d] ∧ acc.length = i ∧ acc.length ≤ 3 ∧ goF [] its = goF acc (its.drop i) ∧ ∀ f ∈ acc, OkF f, ⟨[], _, _, _, _, rfl, rfl, by decide, rfl, fun f hf => nomatch hf⟩, ?_, ?_⟩
        · rintro i d ρ' hd ⟨acc, a, b, c, d', rfl, hai, ha3, hgo, hok⟩
          obtain ⟨y, hy, rfl⟩ := enumD_get hd
          have hi : i < its.length := (List.getElem?_eq_some_iff.mp hy).1
          have ey : its[i] = y := Option.some.inj ((List.getElem?_eq_getElem hi).symm.trans hy)
          rw [List.drop_eq_getElem_cons hi, ey, goF_cons] at hgo
          have hacc : (acc.map dF).length < 100000 := by rw [List.length_map]; omega
          have hyF := hA y (List.mem_of_getElem? hy)
          walk_at "dX"
          by_cases h3 : acc.length = 3
          · rw [if_pos h3] at hgo
            rw [hgo, hai] at k
            refine k_yes (decide_eq_true (by omega)) ?_
            walk_at "dX"
            refine od_notN1 rfl ?_
            walk_at "dX"
            exact k
          · rw [if_neg h3] at hgo
            refine k_no (decide_eq_false (by omega)) ?_
            walk_at "dX"
            refine lc_m acc dF (fun f => .str (headF f)) rfl (by omega) (fun g hg => ?_) ?_
            · have hat := headF_at (hok g hg)
              walk_at "dX"
              rfl
            rw [show acc.map (fun f => D.str (headF f)) = dS (acc.map headF) by unfold dS; rw [List.map_map]; rfl]
            walk_at "dX"
            refine ⟨y, _, rfl, hyF, by rw [List.length_map]; omega, ?_⟩
            cases hr : reasonD (acc.map headF) y with
            | some r =>
              rw [hr] at hgo
              rw [show goF [] its = .inl (acc.length, r) from hgo, hai] at k
              show ExD K S _ _ _
              walk_at "dX"
              refine od_notN1 rfl ?_
              walk_at "dX"
              exact k
            | none =>
              rw [hr] at hgo
              obtain ⟨f, hf1, hf2, hf3, hf4⟩ := reasonD_ok hr
              have hgo' : goF [] its = goF (acc ++ [fieldOf y]) (its.drop (i + 1)) := hgo
              rw [hf4] at hgo'
              show ExD K S _ _ _
              walk_at "dX"
              refine od_notN0 ?_
              walk_at "dX"
              refine ⟨_, hf1, ?_⟩
              refine ⟨acc ++ [f], _, _, _, _, by rw [List.map_append]; rfl, by rw [List.length_append, hai]; rfl, by rw [List.length_append]; show acc.length + 1 ≤ 3; omega, hgo', fun g hg => ?_⟩
              rcases List.mem_append.mp hg with z | z
              · exact hok g z
              · rw [List.mem_singleton.mp z]; exact hf2
        · rintro ρ' ⟨acc, a, b, c, d, rfl, hai, ha3, hgo, hok⟩
          rw [enumD_len] at hgo hai
          rw [List.drop_length] at hgo
          rw [show goF [] its = .inr acc from hgo] at k
          walk_at "dX"
          exact k
def ShwArg (K : PySem.W.Frag) (Xr : Addr) (names : List Str) (x : D) (Φ : Str × Str → Prop) (Ψ : Ex → Prop) : Prop := (noSq K x ∧ Ψ ⟨Xr, ["reason", "index"], [.str "show", .non]⟩) ∨
  ∃ its, (x = .lst its ∨ x = .tup its) ∧ its.length < 1000 ∧ (∀ d ∈ its, Anyd K d) ∧ match showD names its with | some p => Φ p | none => Ψ ⟨Xr, ["reason", "index"], [.str "show", .non]⟩
def fShowX (K : PySem.W.Frag) (Xr : Addr) : FX := fun ds Φ Ψ => ∃ x names, ds = [x, .lst (dS names)] ∧ ShwArg K Xr names x (fun p => Φ (.tup [.str p.1, .str p.2])) Ψ
theorem okX_show (B : Bn mg) (Cs1 : Trc K w mg Yr) (XC_BadRule : Xc2 P w K mg base "BadRule" XBadRule "index" "reason") (Cis_row : Cal P w K mg base 1 "is_row" ["thing"] (spD K (fIsRow K))) (Cis_one_of : Cal P w K mg base 1 "is_one_of" ["thing", "words"] (spD K (fOneOfG K))) (Df : Def K mg "checked_show" schecked_show) :
    CalX P w K mg base 3 "checked_show" ["show", "names"] (spX K (fShowX K XBadRule)) := by
  refine CalX.ofD Df scchecked_show (fun _ _ _ _ _ _ us hl => match us, hl with | [_, _], _ => rfl) (fun ds Φ Ψ h => ?_) (fun fa cdv A outer s H E hr => ⟨_, (pss_cons (ps_if (PW.pt (pw_or (pt_not (pt_val (pe_fn Cis_row hr (by decide) (pa_cons (pv 0) pa_nil)))) (pw_or (pt_cmpR op_ne (pe_callB (n_len K) (by rfl) B.len PySem.boot_len (pa_cons (pv 0) pa_nil)) pe_int (nomark _)) (pw_or (pt_not (pt_val (pe_fn Cis_one_of hr (by decide) (pa_cons (pe_ix (x_seq K) (pv 0) pe_int (fun _ _ => rfl)) (pa_cons (pe_glob (v := .ref Yr.W) rfl Cs1.ways rfl) pa_nil))))) (pw_or1 (pt_not (pt_val (pe_fn Cis_one_of hr (by decide) (pa_cons (pe_ix (x_seq K) (pv 0) pe_int (fun _ _ => rfl)) (pa_cons (pv 1) pa_nil)))))))))) (pss_one (ps_re2 rfl XC_BadRule hr tkX pe_non pe_str)) pss_nil)
      (pss_one (ps_ret (pe_callTy (n_tuple K) (by rfl) B.tuple (by decide +kernel) (pa_cons (pv 0) pa_nil))))), fun S Ψ hX ds Φ h => ?_⟩)
  · obtain ⟨_, _, rfl, _⟩ := h; rfl
  · obtain ⟨x, names, rfl, ⟨hn, k⟩ | ⟨its, hx, hl, hA, k⟩⟩ := h
    · walk_at "dX"
      refine hn.ask ?_
      walk_at "dX"
      exact k
    · have hW := Cs1.kW
      walk_at "dX"
      refine fIsRow.seq hx ?_
      walk_at "dX"
      refine ⟨_, hx, ?_⟩
      walk_at "dX"
      by_cases h2 : its.length = 2
      rotate_left
      · have e : showD names its = none := by
          match its, h2 with
          | [], _ => rfl
          | [a], _ => cases a <;> rfl
          | [_, _], h => exact absurd rfl h
          | a :: b :: c :: r, _ => cases a <;> cases b <;> rfl
        rw [e] at k
        refine k_yes (by simp; omega) ?_
        walk_at "dX"
        exact k
      refine k_no (by rw [h2]; rfl) ?_
      walk_at "dX"
      match its, h2, hx, hA, k with
      | [a, b], _, hx, hA, k =>
      have hat0 : atI [a, b] 0 = some a := atI_nat (xs := [a, b]) (j := 0) rfl
      have hat1 : atI [a, b] 1 = some b := atI_nat (xs := [a, b]) (j := 1) rfl
      have st0 : ∀ (S : Sx) (Φ' : D → Prop), Φ' a → OpD K S (rIx K) x (.int 0) Φ' := fun S Φ' k' => by
        rcases hx with rfl | rfl
        · exact od_ixL hat0 k'
        · exact od_ixT hat0 k'
      have st1 : ∀ (S : Sx) (Φ' : D → Prop), Φ' b → OpD K S (rIx K) x (.int 1) Φ' := fun S Φ' k' => by
        rcases hx with rfl | rfl
        · exact od_ixL hat1 k'
        · exact od_ixT hat1 k'
      refine st0 _ _ ?_
      walk_at "dX"
      refine ⟨a, _, waysL, rfl, .inl rfl, hA a List.mem_cons_self, ?_⟩
      cases ha : wordIn waysL a with
      | false =>
        have e : showD names [a, b] = none := by
          cases a with
          | str z =>
            cases b with
            | str y => exact if_neg fun h => absurd (decide_eq_true h.1) (by rw [show decide (z ∈ waysL) = false from ha]; exact Bool.false_ne_true)
            | _ => rfl
          | _ => cases b <;> rfl
        rw [e] at k
        walk_at "dX"
        exact k
      | true =>
        walk_at "dX"
        refine st1 _ _ ?_
        walk_at "dX"
        refine ⟨b, _, names, rfl, .inr rfl, hA b (List.mem_cons_of_mem _ List.mem_cons_self), ?_⟩
        cases a with
        | str z =>
          cases hb : wordIn names b with
          | false =>
            have e : showD names [.str z, b] = none := by
              cases b with
              | str y => exact if_neg fun h => absurd (decide_eq_true h.2) (by rw [show decide (y ∈ names) = false from hb]; exact Bool.false_ne_true)
              | _ => rfl
            rw [e] at k
            walk_at "dX"
            exact k
          | true =>
            cases b with
            | str y =>
              rw [show showD names [.str z, .str y] = some (z, y) from if_pos ⟨of_decide_eq_true ha, of_decide_eq_true hb⟩] at k
              walk_at "dX"
              exact ⟨_, hx, k⟩
            | _ => cases hb
        | _ => cases ha
def fRuleIX (K : PySem.W.Frag) (Xr : Addr) : FIX := fun ds Φ Ψ => ∃ x y, ds = [x, y] ∧ FldArg K Xr x (fun rows => ShwArg K Xr (rows.map headF) y (fun p => Φ ["parts", "way"] [.lst (rows.map dF), .tup [.str p.1, .str p.2]]) Ψ) Ψ
theorem goF_ok : ∀ {its : List D} {acc rows : List (List Str)}, goF acc its = .inr rows → acc.length ≤ 3 → (∀ f ∈ acc, OkF f) → rows.length ≤ 3 ∧ ∀ f ∈ rows, OkF f
  | [], acc, rows, h, h3, ha => by cases h; exact ⟨h3, ha⟩
  | x :: xs, acc, rows, h, h3, ha => by
    rw [goF_cons] at h
    by_cases c : acc.length = 3
    · rw [if_pos c] at h; cases h
    · rw [if_neg c] at h
      cases hr : reasonD (acc.map headF) x with
      | some r => rw [hr] at h; cases h
      | none =>
        rw [hr] at h
        obtain ⟨f, _, hf2, _, hf4⟩ := reasonD_ok hr
        have h' : goF (acc ++ [fieldOf x]) xs = .inr rows := h
        rw [hf4] at h'
        refine goF_ok h' (by rw [List.length_append]; show acc.length + 1 ≤ 3; omega) fun g hg => ?_
        rcases List.mem_append.mp hg with z | z
        · exact ha g z
        · rw [List.mem_singleton.mp z]; exact hf2
theorem dueF_ok {its : List D} {rows : List (List Str)} (h : dueF its = .inr rows) : rows.length ≤ 3 ∧ ∀ f ∈ rows, OkF f := by
  unfold dueF at h
  by_cases h0 : its = []
  · rw [if_pos h0] at h; cases h
  · rw [if_neg h0] at h
    exact goF_ok h (by decide) fun f hf => nomatch hf
theorem okX_rule_init (B : Bn mg) (Ur : Tr K mg Yr) (CXchecked_fields : CalX P w K mg base 3 "checked_fields" ["things"] (spX K (fFieldsX K XBadRule))) (CXchecked_show : CalX P w K mg base 3 "checked_show" ["show", "names"] (spX K (fShowX K XBadRule))) (Df : DefM K Yr.R "__init__" "Rule.__init__" sRule___init__) :
    CalMX P w K mg base 4 Yr.R "__init__" ["self", "fields", "show"] (spIX K Yr.R (fRuleIX K XBadRule)) := by
  refine CalMA.x (CalMA.ofI Df scRule___init__ (fun ds Φ Ψ h => ?_) (fun fa cdv A outer s H E hr => ⟨_, (pss_cons (t_fld K (pv 0) (pe_fnX CXchecked_fields hr (by decide) tkX (pa_cons (pv 1) pa_nil)))
      (pss_one (t_fld K (pv 0) (pe_fnX CXchecked_show hr (by decide) tkX (pa_cons (pv 2) (pa_cons (pe_lc (own := [("field", 3)]) (g := (gName 3)) rfl scRule___init__.nd (q_seq K (e_fld K (pv 0))) (blkOk_by (own := [("field", 3)]) (N := ["self", "fields", "show", "field"]) (sc := defScope sRule___init__) (by decide +kernel)) (fun _ _ _ _ _ => (pg_name (i := 3) scRule___init__.nd rfl (Or.inl rfl) (.inr rfl))) (fun _ _ _ _ _ => pts_nil) (fun _ _ _ _ _ => (pe_ix (x_tup K) (pv 3) pe_int (fun _ _ => rfl)))) pa_nil)))))), fun S Ψ hX p dx ds Φ h => ?_⟩)) (fun _ _ _ _ _ _ us hl => match us, hl with | [_, _, _], _ => rfl)
  · obtain ⟨_, _, rfl, _⟩ := h; rfl
  · obtain ⟨x, y, rfl, h⟩ := h
    have c1 := Ur.cl
    have c2 := Ur.nParts
    have c3 := Ur.nWay
    walk_at "dX"
    rcases h with ⟨hn, k⟩ | ⟨its, hx, hl, hA, h⟩
    · exact ⟨x, rfl, .inl ⟨hn, k⟩⟩
    · refine ⟨x, rfl, .inr ⟨its, hx, hl, hA, ?_⟩⟩
      cases e : dueF its with
      | inl i =>
        rw [e] at h
        exact h
      | inr rows =>
        rw [e] at h
        obtain ⟨h3, hok⟩ := dueF_ok e
        show ExD K S _ [.slf p dx Yr.R ["parts"] [.lst (rows.map dF)], .val x, .val y, .un] _
        walk_at "dX"
        refine lc_m rows dF (fun f => .str (headF f)) rfl (by omega) (fun g hg => ?_) ?_
        · have hat := headF_at (hok g hg)
          walk_at "dX"
          rfl
        rw [show rows.map (fun f => D.str (headF f)) = dS (rows.map headF) by unfold dS; rw [List.map_map]; rfl]
        walk_at "dX"
        have e2 : ∀ d, putD "way" d ["parts"] [.lst (rows.map dF)] = ((["parts", "way"] : List Str), ([.lst (rows.map dF), d] : List D)) := fun d => by rw [putD_ne (by decide +kernel)]; rfl
        rcases h with ⟨hn, k⟩ | ⟨its2, hy, hl2, hA2, k⟩
        · exact ⟨y, _, rfl, .inl ⟨hn, k⟩⟩
        · refine ⟨y, _, rfl, .inr ⟨its2, hy, hl2, hA2, ?_⟩⟩
          cases es : showD (rows.map headF) its2 with
          | none =>
            rw [es] at k
            exact k
          | some q =>
            rw [es] at k
            refine ⟨_, _, rfl, ?_⟩
            show Φ (putD "way" _ ["parts"] [.lst (rows.map dF)]).1 (putD "way" _ ["parts"] [.lst (rows.map dF)]).2
            rw [e2]
            exact k
end
end
/-! Rules as texts: the plain side. -/
section
set_option maxRecDepth 100000
set_option maxHeartbeats 2000000
def wAt (ws : List Str) (i : Nat) : Str := ws.getD i ""
/-- the words of a field are right behind the first i parts -/
def PartOk (ws : List Str) (i : Nat) : Prop := wAt ws (2 + 2 * i) = partsL.getD i "" ∧ wAt ws (3 + 2 * i) ∈ wordsL.getD i []
instance (ws : List Str) (i : Nat) : Decidable (PartOk ws i) := inferInstanceAs (Decidable (_ ∧ _))
def FieldT (ws : List Str) : Prop := ws.length = 13 ∧ wAt ws 0 = "field" ∧ isW (wAt ws 1) = true ∧ (∀ i, i < 5 → PartOk ws i) ∧ wAt ws 12 ∈ wordsL.getD 5 []
instance (ws : List Str) : Decidable (FieldT ws) := inferInstanceAs (Decidable (_ ∧ _))
def fieldW (ws : List Str) : List Str := wAt ws 1 :: ((List.range 5).map fun i => wAt ws (3 + 2 * i)) ++ [wAt ws 12]
/-- the field that a line's words tell -/
def fieldT (ws : List Str) : Option (List Str) := if FieldT ws then some (fieldW ws) else none
def ShowT (ws : List Str) : Prop := ws.length = 3 ∧ wAt ws 0 = "show" ∧ wAt ws 1 ∈ waysL ∧ isW (wAt ws 2) = true
instance (ws : List Str) : Decidable (ShowT ws) := inferInstanceAs (Decidable (_ ∧ _))
def showT (ws : List Str) : Option (Str × Str) := if ShowT ws then some (wAt ws 1, wAt ws 2) else none
theorem fieldT_ok {ws f : List Str} (h : fieldT ws = some f) : OkF f := by
  unfold fieldT at h
  split at h
  · rename_i hc
    cases h
    obtain ⟨h1, h2, h3, h4, h5⟩ := hc
    refine ⟨wAt ws 1, ((List.range 5).map fun i => wAt ws (3 + 2 * i)) ++ [wAt ws 12], rfl, h3, by simp, fun i u vs hu hv => ?_⟩
    by_cases hi : i < 5
    · rw [List.getElem?_append_left (by simpa using hi), List.getElem?_map, List.getElem?_range hi] at hu
      cases hu
      have := (h4 i hi).2
      rw [List.getD_eq_getElem?_getD, hv] at this
      exact this
    · have h6 : i = 5 := by
        have := (List.getElem?_eq_some_iff.mp hv).1
        have : wordsL.length = 6 := rfl
        omega
      subst h6
      rw [List.getElem?_append_right (by simp)] at hu
      simp at hu
      cases hu
      rw [List.getD_eq_getElem?_getD, hv] at h5
      exact h5
  · cases h
/-- what a text tells: fields and what is shown, or the line that is none -/
def goL : List Str → List (List Str) → Option (Str × Str) → Nat → Nat ⊕ (List (List Str) × (Str × Str))
  | [], _, _, n => .inl n
  | [l], acc, sh, n => if l = "" then (match sh with
    | some p => .inr (acc, p)
    | none => .inl (n + 1)) else .inl (n + 1)
  | l :: m :: r, acc, sh, n => match sh with
    | some _ => .inl (n + 1)
    | none => match fieldT (Txt.split l spZ) with
      | some f => if acc.length = 3 then .inl (n + 1) else goL (m :: r) (acc ++ [f]) none (n + 1)
      | none => if acc = [] then .inl (n + 1) else match showT (Txt.split l spZ) with
        | none => .inl (n + 1)
        | some p => goL (m :: r) acc (some p) (n + 1)
/-- .. as the law looks at it -/
def dueL : List Str → List (List Str) → Nat → Nat ⊕ (List (List Str) × (Str × Str))
  | [], _, n => .inl n
  | [_], _, n => .inl (n + 1)
  | l :: m :: r, acc, n => match fieldT (Txt.split l spZ) with
    | some f => if acc.length = 3 then .inl (n + 1) else dueL (m :: r) (acc ++ [f]) (n + 1)
    | none => if acc = [] then .inl (n + 1) else match showT (Txt.split l spZ) with
      | none => .inl (n + 1)
      | some p => if m :: r = [("" : Str)] then .inr (acc, p) else .inl (n + 2)
theorem goL_some {l m : Str} {r : List Str} {acc : List (List Str)} {p : Str × Str} {n : Nat} : goL (l :: m :: r) acc (some p) n = .inl (n + 1) := by rw [goL]
theorem goL_none {l m : Str} {r : List Str} {acc : List (List Str)} {n : Nat} : goL (l :: m :: r) acc none n = match fieldT (Txt.split l spZ) with
    | some f => if acc.length = 3 then .inl (n + 1) else goL (m :: r) (acc ++ [f]) none (n + 1)
    | none => if acc = [] then .inl (n + 1) else match showT (Txt.split l spZ) with
      | none => .inl (n + 1)
      | some p => goL (m :: r) acc (some p) (n + 1) := by rw [goL]
theorem goL_one {l : Str} {acc : List (List Str)} {sh : Option (Str × Str)} {n : Nat} : goL [l] acc sh n = if l = "" then (match sh with
    | some p => .inr (acc, p)
    | none => .inl (n + 1)) else .inl (n + 1) := by cases sh <;> rw [goL]
theorem goL_due : ∀ (ls : List Str) (acc : List (List Str)) (n : Nat), goL ls acc none n = dueL ls acc n
  | [], _, _ => rfl
  | [l], acc, n => by
    rw [goL, dueL]
    split <;> rfl
  | l :: m :: r, acc, n => by
    rw [goL, dueL]
    cases fieldT (Txt.split l spZ) with
    | some f =>
      dsimp only
      rw [goL_due (m :: r)]
    | none =>
      dsimp only
      split
      · rfl
      · cases showT (Txt.split l spZ) with
        | none => rfl
        | some p =>
          dsimp only
          cases r with
          | nil =>
            rw [goL]
            by_cases h : m = ""
            · rw [if_pos h, if_pos (by rw [h])]
            · rw [if_neg h, if_neg (fun e => h (List.cons.inj e).1)]
          | cons m2 r =>
            rw [goL, if_neg (fun e => by cases (List.cons.inj e).2)]
def readL (z : Str) : Nat ⊕ (List (List Str) × (Str × Str)) := dueL (Txt.split z nlT) [] 0
/-- the first field whose name stands ahead already -/
def dupF : List (List Str) → List (List Str) → Option Nat
  | _, [] => none
  | acc, f :: fs => if headF f ∈ acc.map headF then some acc.length else dupF (acc ++ [f]) fs
theorem dueL_ok : ∀ {ls : List Str} {acc : List (List Str)} {n : Nat} {rows : List (List Str)} {p : Str × Str}, dueL ls acc n = .inr (rows, p) → (∀ f ∈ acc, OkF f) → acc.length ≤ 3 → (∀ f ∈ rows, OkF f) ∧ rows.length ≤ 3 ∧ rows ≠ [] ∧ p.1 ∈ waysL ∧ isW p.2 = true
  | [], _, _, _, _, h, _, _ => by cases h
  | [l], _, _, _, _, h, _, _ => by cases h
  | l :: m :: r, acc, n, rows, p, h, ha, hl => by
    rw [dueL] at h
    cases hf : fieldT (Txt.split l spZ) with
    | some f =>
      rw [hf] at h
      dsimp only at h
      split at h
      · cases h
      · rename_i h3
        refine dueL_ok h (fun g hg => ?_) (by rw [List.length_append]; show acc.length + 1 ≤ 3; omega)
        rcases List.mem_append.mp hg with z | z
        · exact ha g z
        · rw [List.mem_singleton.mp z]; exact fieldT_ok hf
    | none =>
      rw [hf] at h
      dsimp only at h
      split at h
      · cases h
      · rename_i hne
        cases hs : showT (Txt.split l spZ) with
        | none => rw [hs] at h; cases h
        | some q =>
          rw [hs] at h
          dsimp only at h
          split at h
          · cases h
            unfold showT at hs
            split at hs
            · rename_i hc
              cases hs
              exact ⟨ha, hl, hne, hc.2.2.1, hc.2.2.2⟩
            · cases hs
          · cases h
/-! ### the checked fields of such rows -/
theorem partsR_of : ∀ {ps : List Str} {vss : List (List Str)} {us : List Str}, (∀ (i : Nat) (u : Str) (vs : List Str), us[i]? = some u → vss[i]? = some vs → u ∈ vs) → partsR ps vss (dS us) = none
  | [], _, _, _ => rfl
  | _ :: _, [], _, _ => rfl
  | _ :: _, _ :: _, [], _ => rfl
  | p :: ps, vs :: vss, u :: us, h => by
    show (if wordIn vs (.str u) = true then partsR ps vss (dS us) else some p) = none
    rw [if_pos (show wordIn vs (.str u) = true from decide_eq_true (h 0 u vs rfl rfl))]
    exact partsR_of fun i u' vs' h1 h2 => h (i + 1) u' vs' (by simpa using h1) (by simpa using h2)
theorem reasonD_of {f : List Str} {ahead : List Str} (h : OkF f) : reasonD ahead (dF f) = if headF f ∈ ahead then some ("name" : Str) else none := by
  obtain ⟨y, us, rfl, hy, hl, hp⟩ := h
  show (if (dS us).length = 6 then (match wordD (.str y) with
    | none => some "name"
    | some z => if z ∈ ahead then some "name" else partsR partsL wordsL (dS us)) else some ("field" : Str)) = _
  rw [dS_len, if_pos hl, show wordD (.str y) = some y from if_pos hy]
  dsimp only
  rw [partsR_of hp]
  rfl
theorem fieldOf_dF (f : List Str) : fieldOf (dF f) = f := dS_tx f
theorem goF_dup : ∀ (fs acc : List (List Str)), (∀ f ∈ fs, OkF f) → acc.length + fs.length ≤ 3 → goF acc (fs.map dF) = match dupF acc fs with
    | some k => .inl (k, "name")
    | none => .inr (acc ++ fs)
  | [], acc, _, _ => by rw [List.append_nil]; rfl
  | f :: fs, acc, h, hl => by
    rw [List.length_cons] at hl
    rw [List.map_cons, goF_cons, if_neg (by omega), reasonD_of (h f List.mem_cons_self), dupF]
    by_cases hm : headF f ∈ acc.map headF
    · rw [if_pos hm, if_pos hm]
    · rw [if_neg hm, if_neg hm]
      dsimp only
      rw [fieldOf_dF, goF_dup fs (acc ++ [f]) (fun g hg => h g (List.mem_cons_of_mem _ hg)) (by rw [List.length_append]; show acc.length + 1 + fs.length ≤ 3; omega), List.append_assoc]
      rfl
theorem dueF_dup {fs : List (List Str)} (h : ∀ f ∈ fs, OkF f) (hl : fs.length ≤ 3) (h0 : fs ≠ []) : dueF (fs.map dF) = match dupF [] fs with
    | some k => .inl (k, "name")
    | none => .inr fs := by
  unfold dueF
  rw [if_neg (fun e => h0 (List.map_eq_nil_iff.mp e)), goF_dup fs [] h (by simpa using hl), List.nil_append]
end
/-! Rows of fields compared. -/
section
set_option maxRecDepth 100000
set_option maxHeartbeats 2000000
section
variable {K : PySem.W.Frag} {S : Sx} {Φ : D → Prop} {rows : List (List Str)}
theorem okF_w {f : List Str} (h : OkF f) : ∀ z ∈ f, isW z = true := fun z hz => by
  obtain ⟨a, us, rfl, ha, hul, hus⟩ := h
  have all : ∀ vs ∈ wordsL, ∀ u ∈ vs, isW u = true := by decide +kernel
  rcases List.mem_cons.mp hz with rfl | hz
  · exact ha
  · obtain ⟨i, hi⟩ := List.mem_iff_getElem?.mp hz
    have hi6 : i < 6 := by have := (List.getElem?_eq_some_iff.mp hi).1; omega
    obtain ⟨vs, hvs⟩ : ∃ vs, wordsL[i]? = some vs := ⟨_, List.getElem?_eq_getElem (show i < wordsL.length from hi6)⟩
    exact all vs (List.mem_of_getElem? hvs) z (hus i z vs hi hvs)
theorem plain_dS (f : List Str) : D.plains (dS f) = true := by
  induction f with
  | nil => rfl
  | cons a l ih =>
    show (true && D.plains (dS l)) = true
    rw [ih]; rfl
theorem plain_rows (rows : List (List Str)) : (D.lst (rows.map dF)).plain = true := by
  show D.plains (rows.map dF) = true
  induction rows with
  | nil => rfl
  | cons a l ih =>
    show (D.plains (dS a) && D.plains (l.map dF)) = true
    rw [ih, plain_dS]; rfl
theorem pys_rows (rows : List (List Str)) : D.pys (rows.map dF) = rows.map fun f => PyData.tuple (f.map PyData.str) := by
  induction rows with
  | nil => rfl
  | cons a l ih =>
    show PyData.tuple (D.pys (dS a)) :: D.pys (l.map dF) = _
    rw [ih, pys_dS]; rfl
theorem shape_rows (h : ∀ f ∈ rows, ∀ z ∈ f, PyData.strOk z = true) : SeqAt.shaped (D.py (.lst (rows.map dF))) = true := by
  show SeqAt.shaped (.list (D.pys (rows.map dF))) = true
  rw [pys_rows]
  refine shaped_l ?_ ?_
  · induction rows with
    | nil => rfl
    | cons a l ih =>
      show (PyData.canLayAll0 (a.map PyData.str) && PyData.canLayAll0 (l.map fun f => PyData.tuple (f.map PyData.str))) = true
      rw [ih fun f hf => h f (List.mem_cons_of_mem _ hf)]
      have ha := h a List.mem_cons_self
      have : PyData.canLayAll0 (a.map PyData.str) = true := by
        clear ih h
        induction a with
        | nil => rfl
        | cons z l ih =>
          show (PyData.strOk z && PyData.canLayAll0 (l.map PyData.str)) = true
          rw [ha z List.mem_cons_self, ih fun y hy => ha y (List.mem_cons_of_mem _ hy)]; rfl
      rw [this]; rfl
  · have h0 : ∀ f : List Str, PyData.depthAll (f.map PyData.str) ≤ 0 := fun f => by
      induction f with
      | nil => exact Nat.le_refl _
      | cons a l ih =>
        show max 0 _ ≤ 0
        omega
    have : PyData.depthAll (rows.map fun f => PyData.tuple (f.map PyData.str)) ≤ 1 := by
      clear h
      induction rows with
      | nil => exact Nat.zero_le _
      | cons a l ih =>
        have := h0 a
        show max (PyData.depthAll (a.map PyData.str) + 1) _ ≤ 1
        omega
    exact Nat.le_trans this (by decide)
theorem rows_ok (h : ∀ f ∈ rows, OkF f) : ∀ f ∈ rows, ∀ z ∈ f, PyData.strOk z = true := fun f hf z hz => isW_ok (okF_w (h f hf) z hz)
/-- rows == [] -/
theorem od_eqRn (h : ∀ f ∈ rows, OkF f) (k : Φ (.bl (decide (rows = [])))) : OpD K S (rEqD K) (.lst (rows.map dF)) (.lst []) Φ := by
  refine od_eqD (plain_rows rows) rfl (shape_rows (rows_ok h)) rfl ?_
  show Φ (.bl (PyData.eqvAll (D.pys (rows.map dF)) []))
  rw [pys_rows]
  cases rows with
  | nil => exact k
  | cons a l => rw [decide_eq_false (List.cons_ne_nil _ _)] at k; exact k
end
end
/-! Rules as texts: the program reads. -/
section
set_option maxRecDepth 100000
set_option maxHeartbeats 4000000

abbrev sfield_of : Stmt := top 21
theorem scfield_of : FnScope ["words", "at", "part"] ["words"] (defScope sfield_of) := ⟨rfl, rfl, rfl, by decide +kernel, rfl, by decide +kernel, by decide +kernel⟩
abbrev sshow_of : Stmt := top 22
theorem scshow_of : FnScope ["words"] ["words"] (defScope sshow_of) := ⟨rfl, rfl, rfl, by decide +kernel, rfl, by decide +kernel, by decide +kernel⟩
abbrev sread_lines : Stmt := top 23
theorem scread_lines : FnScope ["text", "lines", "fields", "show", "number", "line", "words", "field"] ["text"] (defScope sread_lines) := ⟨rfl, rfl, rfl, by decide +kernel, rfl, by decide +kernel, by decide +kernel⟩
section
variable {P : Program} {w : World} {K : PySem.W.Frag} {mg : Str → Option Value} {base : Heap} {Yr : Ra} {XBadText XBadRule : Addr}
theorem sp_eq : (" " : Str) = spZ := by decide +kernel
theorem nl_eq : ("\n" : Str) = nlT := by decide +kernel
theorem wAt_at {ws : List Str} {i : Nat} (h : i < ws.length) : atI (dS ws) (i : Int) = some (.str (wAt ws i)) := by
  refine atI_nat ?_
  unfold dS wAt
  rw [List.getElem?_map, List.getElem?_eq_getElem h, List.getD_eq_getElem?_getD, List.getElem?_eq_getElem h]
  rfl
theorem cut_toS (ws : List Str) (n : Nat) : cutD (dS ws) none (some (n : Int)) = dS (ws.take n) := by rw [cutD_to]; unfold dS; rw [List.map_take]
theorem cut_fromS (ws : List Str) (n : Nat) : cutD (dS ws) (some (n : Int)) none = dS (ws.drop n) := by rw [cutD_from]; unfold dS; rw [List.map_drop]
theorem dS_cat (a b : List Str) : dS a ++ dS b = dS (a ++ b) := by unfold dS; rw [List.map_append]
def resF : Option (List Str) → D
  | none => .non
  | some f => dF f
def fFieldOf : FD := fun ds Φ => ∃ ws, ds = [.lst (dS ws)] ∧ ws.length < 50000 ∧ (∀ x ∈ ws, x.length < 50000) ∧ Φ (resF (fieldT ws))
theorem okD_field_of (B : Bn mg) (Cs1 : Trc K w mg Yr) (Cis_word : Cal P w K mg base 1 "is_word" ["thing"] (spD K (fIsWord K))) (Df : Def K mg "field_of" sfield_of) : Cal P w K mg base 2 "field_of" ["words"] (spD K fFieldOf) := by
  refine Cal.ofD Df scfield_of (fun _ _ _ _ _ _ us hl => match us, hl with | [_], _ => rfl) (fun ds Φ h => ?_) (fun fa cdv A outer s H hr => ⟨_, (pss_cons (ps_if (PW.pt (pw_or (pt_cmpR op_ne (pe_callB (n_len K) (by rfl) B.len PySem.boot_len (pa_cons (pv 0) pa_nil)) pe_int (nomark _)) (pw_or (pt_cmpR op_ne (pe_ix (x_list K) (pv 0) pe_int (fun _ _ => rfl)) pe_str (nomark _)) (pw_or1 (pt_not (pt_val (pe_fn Cis_word hr (by decide) (pa_cons (pe_ix (x_list K) (pv 0) pe_int (fun _ _ => rfl)) pa_nil)))))))) (pss_one (ps_ret pe_non)) pss_nil)
      (pss_cons (ps_for PassesOwn.never rfl (q_enum K B.enumerate (pa_cons (pe_slice (y_tup K) (pe_glob (v := .ref Yr.P) rfl Cs1.parts rfl) po_none (po_some pe_int)) pa_nil)) (pg_tup rfl (pgs_cons (pg_name (i := 1) scfield_of.nd rfl (Or.inl rfl)) (pgs_cons (pg_name (i := 2) scfield_of.nd rfl (Or.inl rfl)) pgs_nil))) (pss_one (ps_if (PW.pt (pw_or (pt_cmpR op_ne (pe_ix (x_list K) (pv 0) (pe_op op_add pe_int (pe_op op_mul pe_int (pv 1))) (fun _ _ => rfl)) (pv 2) (nomark _)) (pw_or1 (pt_cmpR (o_ninq K) (pe_ix (x_list K) (pv 0) (pe_op op_add pe_int (pe_op op_mul pe_int (pv 1))) (fun _ _ => rfl)) (pe_ix (x_kd K w) (pe_glob (v := .ref Yr.D) rfl Cs1.words rfl) (pv 2) (fun _ _ => rfl)) rfl)))) (pss_one (ps_ret pe_non)) pss_nil)))
      (pss_cons (ps_if (pt_cmpR (o_ninq K) (pe_ix (x_list K) (pv 0) pe_int (fun _ _ => rfl)) (pe_ix (x_kd K w) (pe_glob (v := .ref Yr.D) rfl Cs1.words rfl) pe_str (fun _ _ => rfl)) rfl) (pss_one (ps_ret pe_non)) pss_nil)
      (pss_one (ps_ret (pe_callTy (n_tuple K) (by rfl) B.tuple (by decide +kernel) (pa_cons (pe_op op_cat (pe_op op_cat (pe_lst (pa_cons (pe_ix (x_list K) (pv 0) pe_int (fun _ _ => rfl)) pa_nil)) (pe_lc (own := [("at", 1)]) (g := (gName 1)) rfl scfield_of.nd (p_range1 B.range (pa_cons pe_int pa_nil)) (blkOk_by (own := [("at", 1)]) (N := ["words", "at", "part"]) (sc := defScope sfield_of) (by decide +kernel)) (fun _ _ _ _ _ => (pg_name (i := 1) scfield_of.nd rfl (Or.inl rfl) (.inr rfl))) (fun _ _ _ _ _ => pts_nil) (fun _ _ _ _ _ => (pe_ix (x_list K) (pv 0) (pe_op op_add pe_int (pe_op op_mul pe_int (pv 1))) (fun _ _ => rfl))))) (pe_lst (pa_cons (pe_ix (x_list K) (pv 0) pe_int (fun _ _ => rfl)) pa_nil))) pa_nil))))))), fun S ds Φ h => ?_⟩)
  · obtain ⟨_, rfl, _⟩ := h; rfl
  · obtain ⟨ws, rfl, hl, hw, k⟩ := h
    have hP := Cs1.kP
    have hlen : (dS ws).length = ws.length := dS_len _
    have no : ¬ FieldT ws → Φ .non := fun h => by unfold fieldT at k; rw [if_neg h] at k; exact k
    walk_at "dg"
    rw [hlen]
    by_cases h13 : ws.length = 13
    rotate_left
    · rw [decide_eq_false (show ¬ ((ws.length : Nat) : Int) = 13 by omega)]
      walk_at "dg"
      exact no fun h => h13 h.1
    rw [decide_eq_true (show ((ws.length : Nat) : Int) = 13 by omega)]
    have at_ : ∀ i : Nat, i < 13 → atI (dS ws) (i : Int) = some (.str (wAt ws i)) := fun i hi => wAt_at (by omega)
    have wl : ∀ i : Nat, i < 13 → (wAt ws i).length < 50000 := fun i hi => by
      unfold wAt
      rw [List.getD_eq_getElem?_getD, List.getElem?_eq_getElem (show i < ws.length by omega)]
      exact hw _ (List.getElem_mem _)
    walk_at "dg"
    refine od_ixl (at_ 0 (by decide)) ?_
    walk_at "dg"
    by_cases h0 : wAt ws 0 = "field"
    rotate_left
    · rw [decide_eq_false h0]
      walk_at "dg"
      exact no fun h => h0 h.2.1
    rw [decide_eq_true h0]
    walk_at "dg"
    refine od_ixl (at_ 1 (by decide)) ?_
    walk_at "dg"
    refine ⟨_, rfl, .inl ⟨_, rfl, Nat.lt_of_lt_of_le (wl 1 (by decide)) (by decide), ?_⟩⟩
    cases h1 : isW (wAt ws 1) with
    | false =>
      walk_at "dg"
      exact no fun h => by have := h.2.2.1; rw [h1] at this; cases this
    | true =>
    walk_at "dg"
    refine ⟨_, rfl, ?_⟩
    walk_at "dg"
    refine ⟨_, rfl, ?_⟩
    rw [show cutD (dS partsL) none (some 5) = dS (partsL.take 5) from cut_toS partsL 5]
    have z2 : ∀ i : Nat, (2 : Int) + 2 * (i : Int) = ((2 + 2 * i : Nat) : Int) := fun i => by omega
    have z3 : ∀ i : Nat, (3 : Int) + 2 * (i : Int) = ((3 + 2 * i : Nat) : Int) := fun i => by omega
    walk_at "dg"
    refine ⟨_, rfl, _, .inr rfl, fun i ρ => ∃ a b, (∀ j, j < i → PartOk ws j) ∧ ρ = [.val (.lst (dS ws)), a, b], ⟨_, _, (fun _ h => absurd h (Nat.not_lt_zero _)), rfl⟩, ?_, ?_⟩
    · rintro i d ρ' hd ⟨a, b, hok, rfl⟩
      obtain ⟨d0, hd0, rfl⟩ := enumD_get hd
      obtain ⟨p, hp, rfl⟩ := dS_get hd0
      have hi : i < 5 := (List.getElem?_eq_some_iff.mp hp).1
      rw [List.getElem?_take, if_pos hi] at hp
      obtain ⟨vs, hvs⟩ : ∃ vs, wordsL[i]? = some vs := ⟨_, List.getElem?_eq_getElem (show i < wordsL.length from Nat.lt_trans hi (by decide))⟩
      obtain ⟨tt, ht, hkt⟩ := Cs1.kD i p vs hp hvs
      have hpd : partsL.getD i "" = p := by rw [List.getD_eq_getElem?_getD, hp]; rfl
      have hvd : wordsL.getD i [] = vs := by rw [List.getD_eq_getElem?_getD, hvs]; rfl
      have bad : ¬ PartOk ws i → Φ .non := fun h => no fun q => h (q.2.2.2.1 i hi)
      unfold PartOk at bad
      rw [hpd, hvd] at bad
      walk_at "dg"
      rw [z2 i]
      refine od_ixl (at_ (2 + 2 * i) (by omega)) ?_
      walk_at "dg"
      by_cases q1 : wAt ws (2 + 2 * i) = p
      rotate_left
      · rw [decide_eq_false q1]
        walk_at "dg"
        exact bad fun h => q1 h.1
      rw [decide_eq_true q1]
      walk_at "dg"
      rw [z3 i]
      refine od_ixl (at_ (3 + 2 * i) (by omega)) ?_
      walk_at "dg"
      refine od_kd ht hkt ?_
      refine od_inS (.inr rfl) ?_
      by_cases q2 : wAt ws (3 + 2 * i) ∈ vs
      rotate_left
      · rw [decide_eq_false q2]
        show isB (.bl true) _
        walk_at "dg"
        exact bad fun h => q2 h.2
      rw [decide_eq_true q2]
      show isB (.bl false) _
      walk_at "dg"
      refine ⟨_, _, fun j hj => ?_, rfl⟩
      by_cases hji : j < i
      · exact hok j hji
      · have : j = i := by omega
        subst this
        exact ⟨by rw [hpd]; exact q1, by rw [hvd]; exact q2⟩
    · rintro ρ' ⟨a, b, hok, rfl⟩
      rw [enumD_len, dS_len] at hok
      obtain ⟨tt, ht, hkt⟩ := Cs1.kD 5 "kept" ["exact", "floored"] rfl rfl
      walk_at "dg"
      refine od_ixl (at_ 12 (by decide)) ?_
      walk_at "dg"
      refine od_kd ht hkt ?_
      refine od_inS (.inr rfl) ?_
      by_cases q3 : wAt ws 12 ∈ [("exact" : Str), "floored"]
      rotate_left
      · rw [decide_eq_false q3]
        show isB (.bl true) _
        walk_at "dg"
        exact no fun h => q3 h.2.2.2.2
      rw [decide_eq_true q3]
      show isB (.bl false) _
      have hF : FieldT ws := ⟨h13, h0, h1, fun i hi => hok i hi, q3⟩
      unfold fieldT at k
      rw [if_pos hF] at k
      walk_at "dg"
      refine od_ixl (at_ 1 (by decide)) ?_
      walk_at "dg"
      refine ⟨5, rfl, by decide, ?_⟩
      refine lc_m (List.range 5) (fun i : Nat => D.int (i : Int)) (fun i => .str (wAt ws (3 + 2 * i))) rfl (by decide) (fun i hi => ?_) ?_
      · have hi5 := List.mem_range.mp hi
        walk_at "dg"
        rw [z3 i]
        refine od_ixl (at_ (3 + 2 * i) (by omega)) rfl
      rw [show (List.range 5).map (fun i => D.str (wAt ws (3 + 2 * i))) = dS ((List.range 5).map fun i => wAt ws (3 + 2 * i)) by unfold dS; rw [List.map_map]; rfl]
      have hl5 : (dS ((List.range 5).map fun i => wAt ws (3 + 2 * i))).length = 5 := by rw [dS_len]; simp
      refine on_cat ?_ ?_
      · rw [hl5]
        show 1 + 5 < 100000
        decide
      walk_at "dg"
      refine od_ixl (at_ 12 (by decide)) ?_
      walk_at "dg"
      have e : [D.str (wAt ws 1)] ++ dS ((List.range 5).map fun i => wAt ws (3 + 2 * i)) ++ [D.str (wAt ws 12)] = dS (fieldW ws) := by
        rw [show [D.str (wAt ws 1)] = dS [wAt ws 1] from rfl, show [D.str (wAt ws 12)] = dS [wAt ws 12] from rfl, dS_cat, dS_cat]
        rfl
      rw [e]
      exact k
def resS : Option (Str × Str) → D
  | none => .non
  | some p => .tup [.str p.1, .str p.2]
def fShowOf : FD := fun ds Φ => ∃ ws, ds = [.lst (dS ws)] ∧ ws.length < 50000 ∧ (∀ x ∈ ws, x.length < 50000) ∧ Φ (resS (showT ws))
theorem okD_show_of (B : Bn mg) (Cs1 : Trc K w mg Yr) (Cis_word : Cal P w K mg base 1 "is_word" ["thing"] (spD K (fIsWord K))) (Df : Def K mg "show_of" sshow_of) : Cal P w K mg base 2 "show_of" ["words"] (spD K fShowOf) := by
  refine Cal.ofD Df scshow_of (fun _ _ _ _ _ _ us hl => match us, hl with | [_], _ => rfl) (fun ds Φ h => ?_) (fun fa cdv A outer s H hr => ⟨_, (pss_cons (ps_if (PW.pt (pw_or (pt_cmpR op_ne (pe_callB (n_len K) (by rfl) B.len PySem.boot_len (pa_cons (pv 0) pa_nil)) pe_int (nomark _)) (pw_or (pt_cmpR op_ne (pe_ix (x_list K) (pv 0) pe_int (fun _ _ => rfl)) pe_str (nomark _)) (pw_or (pt_cmpR (o_ninq K) (pe_ix (x_list K) (pv 0) pe_int (fun _ _ => rfl)) (pe_glob (v := .ref Yr.W) rfl Cs1.ways rfl) rfl) (pw_or1 (pt_not (pt_val (pe_fn Cis_word hr (by decide) (pa_cons (pe_ix (x_list K) (pv 0) pe_int (fun _ _ => rfl)) pa_nil))))))))) (pss_one (ps_ret pe_non)) pss_nil)
      (pss_one (ps_ret (pe_tup (pa_cons (pe_ix (x_list K) (pv 0) pe_int (fun _ _ => rfl)) (pa_cons (pe_ix (x_list K) (pv 0) pe_int (fun _ _ => rfl)) pa_nil)))))), fun S ds Φ h => ?_⟩)
  · obtain ⟨_, rfl, _⟩ := h; rfl
  · obtain ⟨ws, rfl, hl, hw, k⟩ := h
    have hW := Cs1.kW
    have hlen : (dS ws).length = ws.length := dS_len _
    have no : ¬ ShowT ws → Φ .non := fun h => by unfold showT at k; rw [if_neg h] at k; exact k
    walk_at "dg"
    rw [hlen]
    by_cases h13 : ws.length = 3
    rotate_left
    · rw [decide_eq_false (show ¬ ((ws.length : Nat) : Int) = 3 by omega)]
      walk_at "dg"
      exact no fun h => h13 h.1
    rw [decide_eq_true (show ((ws.length : Nat) : Int) = 3 by omega)]
    have at_ : ∀ i : Nat, i < 3 → atI (dS ws) (i : Int) = some (.str (wAt ws i)) := fun i hi => wAt_at (by omega)
    have wl : ∀ i : Nat, i < 3 → (wAt ws i).length < 50000 := fun i hi => by
      unfold wAt
      rw [List.getD_eq_getElem?_getD, List.getElem?_eq_getElem (show i < ws.length by omega)]
      exact hw _ (List.getElem_mem _)
    walk_at "dg"
    refine od_ixl (at_ 0 (by decide)) ?_
    walk_at "dg"
    by_cases h0 : wAt ws 0 = "show"
    rotate_left
    · rw [decide_eq_false h0]
      walk_at "dg"
      exact no fun h => h0 h.2.1
    rw [decide_eq_true h0]
    walk_at "dg"
    refine od_ixl (at_ 1 (by decide)) ?_
    walk_at "dg"
    by_cases h2 : wAt ws 1 ∈ waysL
    rotate_left
    · rw [decide_eq_false h2, show (if true = true then !false else false) = true from rfl]
      walk_at "dg"
      exact no fun h => h2 h.2.2.1
    rw [decide_eq_true h2, show (if true = true then !true else true) = false from rfl]
    walk_at "dg"
    refine od_ixl (at_ 2 (by decide)) ?_
    walk_at "dg"
    refine ⟨_, rfl, .inl ⟨_, rfl, Nat.lt_of_lt_of_le (wl 2 (by decide)) (by decide), ?_⟩⟩
    cases h1 : isW (wAt ws 2) with
    | false =>
      walk_at "dg"
      exact no fun h => by have := h.2.2.2; rw [h1] at this; cases this
    | true =>
    have hF : ShowT ws := ⟨h13, h0, h2, h1⟩
    unfold showT at k
    rw [if_pos hF] at k
    walk_at "dg"
    refine od_ixl (at_ 1 (by decide)) ?_
    walk_at "dg"
    refine od_ixl (at_ 2 (by decide)) ?_
    walk_at "dg"
    exact k
def resL (Φ : List (List Str) × (Str × Str) → Prop) (Ψ : Ex → Prop) (X : Addr) : Nat ⊕ (List (List Str) × (Str × Str)) → Prop
  | .inl k => Ψ ⟨X, ["line"], [.int ((k : Nat) : Int)]⟩
  | .inr r => Φ r
def fReadL (X : Addr) : FX := fun ds Φ Ψ => ∃ z : Str, ds = [.str z] ∧ z.length < 49000 ∧ resL (fun r => Φ (.tup [.lst (r.1.map dF), .tup [.str r.2.1, .str r.2.2]])) Ψ X (readL z)
theorem okX_read_lines (B : Bn mg) (Cs1 : Trc K w mg Yr) (XC_BadText : Xc1 P w K mg base "BadText" XBadText "line") (Cfield_of : Cal P w K mg base 2 "field_of" ["words"] (spD K fFieldOf)) (Cshow_of : Cal P w K mg base 2 "show_of" ["words"] (spD K fShowOf)) (Df : Def K mg "read_lines" sread_lines) :
    CalX P w K mg base 3 "read_lines" ["text"] (spX K (fReadL XBadText)) := by
  obtain ⟨tM, cMF⟩ := Cs1.most
  refine CalX.ofD Df scread_lines (fun _ _ _ _ _ _ us hl => match us, hl with | [_], _ => rfl) (fun ds Φ Ψ h => ?_) (fun fa cdv A outer s H E hr => ⟨_, (pss_cons (ps_mkS ((ps_set (i := 1) scread_lines.nd rfl (Or.inl rfl) (pe_split (pv 0) pe_str))))
      (pss_cons (ps_mkS ((ps_par (i := 2) (j := 3) (by rfl) scread_lines.nd rfl rfl (by decide) rfl rfl (pa_cons (pe_lst pa_nil) (pa_cons pe_non pa_nil)) (by rfl))))
      (pss_cons (ps_for poX rfl (q_enum K B.enumerate (pa_cons (pe_slice (y_list K) (pv 1) po_none (po_some (pe_un un_neg pe_int))) pa_nil)) (pg_tup rfl (pgs_cons (pg_name (i := 4) scread_lines.nd rfl (Or.inl rfl)) (pgs_cons (pg_name (i := 5) scread_lines.nd rfl (Or.inl rfl)) pgs_nil))) (pss_cons (ps_set (i := 6) scread_lines.nd rfl (Or.inl rfl) (pe_split (pv 5) pe_str))
      (pss_cons (ps_set (i := 7) scread_lines.nd rfl (Or.inl rfl) (pe_fn Cfield_of hr (by decide) (pa_cons (pv 6) pa_nil)))
      (pss_cons (ps_if (PW.pt (pw_or (pt_cmpR op_notN (pv 3) pe_non (nomark _)) (pw_or1 (PW.pt (pw_and (pt_cmpR op_isN (pv 7) pe_non (nomark _)) (pw_and1 (PW.pt (pw_or (pt_cmpR (o_eqD K hr.units) (pv 2) (pe_lst pa_nil) (nomark _)) (pw_or1 (pt_cmpR op_isN (pe_fn Cshow_of hr (by decide) (pa_cons (pv 6) pa_nil)) pe_non (nomark _))))))))))) (pss_one (ps_re rfl XC_BadText hr tkX (pe_op op_add (pv 4) pe_int))) pss_nil)
      (pss_one (ps_if (pt_cmpR op_notN (pv 7) pe_non (nomark _)) (pss_cons (ps_if (pt_cmpR op_eq (pe_callB (n_len K) (by rfl) B.len PySem.boot_len (pa_cons (pv 2) pa_nil)) (pe_glob (v := .int 3) rfl cMF ⟨_, rfl⟩) (nomark _)) (pss_one (ps_re rfl XC_BadText hr tkX (pe_op op_add (pv 4) pe_int))) pss_nil)
      (pss_one (ps_expr (e_bm K PySem.F.plainAttrs_list PySem.F.slot_list_append PySem.F.type_list_append mt_append (pv 2) (pa_cons (pv 7) pa_nil))))) (pss_one (ps_set (i := 3) scread_lines.nd rfl (Or.inl rfl) (pe_fn Cshow_of hr (by decide) (pa_cons (pv 6) pa_nil))))))))))
      (pss_cons (ps_if (PW.pt (pw_or (pt_cmpR op_ne (pe_ix (x_list K) (pv 1) (pe_un un_neg pe_int) (fun _ _ => rfl)) pe_str (nomark _)) (pw_or1 (pt_cmpR op_isN (pv 3) pe_non (nomark _))))) (pss_one (ps_re rfl XC_BadText hr tkX (pe_callB (n_len K) (by rfl) B.len PySem.boot_len (pa_cons (pv 1) pa_nil)))) pss_nil)
      (pss_one (ps_mkS ((ps_ret (pe_tup (pa_cons (pv 2) (pa_cons (pv 3) pa_nil))))))))))), fun S Ψ hX ds Φ h => ?_⟩)
  · obtain ⟨_, rfl, _⟩ := h; rfl
  · obtain ⟨z, rfl, hz, k⟩ := h
    have hne := split_ne z nlT
    have hcnt : (Txt.split z nlT).length ≤ z.length + 1 := split_count z 10
    have hmem : ∀ p ∈ Txt.split z nlT, p.length < 49000 := fun p hp => Nat.lt_of_le_of_lt (split_mem_len hp) hz
    obtain ⟨ls, hls⟩ : ∃ ls, ls = Txt.split z nlT := ⟨_, rfl⟩
    rw [← hls] at hcnt hmem hne
    have hk : resL (fun r => Φ (.tup [.lst (r.1.map dF), .tup [.str r.2.1, .str r.2.2]])) Ψ XBadText (goL ls [] none 0) := by rw [goL_due, hls]; exact k
    clear k
    have hpos : 0 < ls.length := List.length_pos_iff.mpr hne
    walk_at "dX"
    refine ex_mkS (ex_set (ev_split ?_))
    walk_at "dX"
    refine ⟨z, rfl, ?_⟩
    walk_at "dX"
    refine ⟨_, rfl, by decide +kernel, Nat.le_trans (Nat.add_le_add_right (Nat.le_of_lt hz) 2) (by decide), ?_⟩
    rw [nl_eq, ← hls]
    walk_at "dX"
    refine ex_mkS (ex_parNV (by decide) (Nat.le_of_ble_eq_true rfl) (Nat.le_of_ble_eq_true rfl) ?_)
    walk_at "dX"
    refine ⟨_, rfl, ?_⟩
    walk_at "dX"
    refine ⟨_, rfl, ?_⟩
    walk_at "dX"
    rw [show cutD (dS ls) none (some (-1)) = dS (ls.take (ls.length - 1)) by rw [cutD_last, dS_len]; unfold dS; rw [List.map_take]]
    refine ⟨_, rfl, _, .inl rfl, fun i ρ => ∃ acc sh a b c d, (∀ f ∈ acc, OkF f) ∧ acc.length ≤ 3 ∧ goL ls [] none 0 = goL (ls.drop i) acc sh i ∧ ρ = [.val (.str z), .val (.lst (dS ls)), .own (acc.map dF), .val (resS sh), a, b, c, d], ⟨[], none, _, _, _, _, (fun _ h => nomatch h), by decide, rfl, rfl⟩, ?_, ?_⟩
    · rintro i d ρ' hd ⟨acc, sh, a, b, c, d', hok, hal, hgo, rfl⟩
      obtain ⟨d0, hd0, rfl⟩ := enumD_get hd
      obtain ⟨l, hl, rfl⟩ := dS_get hd0
      rw [List.getElem?_take] at hl
      have hi1 : i < ls.length - 1 := by
        by_cases q : i < ls.length - 1
        · exact q
        · rw [if_neg q] at hl; cases hl
      rw [if_pos hi1] at hl
      have el : ls[i] = l := Option.some.inj ((List.getElem?_eq_getElem (by omega)).symm.trans hl)
      have hdr : ls.drop i = l :: ls[i + 1] :: ls.drop (i + 2) := by
        rw [List.drop_eq_getElem_cons (by omega), el, List.drop_eq_getElem_cons (by omega)]
      have hdr2 : ls.drop (i + 1) = ls[i + 1] :: ls.drop (i + 2) := List.drop_eq_getElem_cons (by omega)
      rw [hdr] at hgo
      have hl9 : l.length < 49000 := hmem l (List.mem_of_getElem? hl)
      have hsp : ∀ p ∈ Txt.split l spZ, p.length < 50000 := fun p hp => Nat.lt_of_le_of_lt (split_mem_len hp) (Nat.lt_of_lt_of_le hl9 (by decide))
      have hsc : (Txt.split l spZ).length < 50000 := Nat.lt_of_le_of_lt (split_count l 32) (by omega)
      walk_at "dX"
      refine ev_split ?_
      walk_at "dX"
      refine ⟨l, rfl, ?_⟩
      walk_at "dX"
      refine ⟨_, rfl, by decide +kernel, Nat.le_trans (Nat.add_le_add_right (Nat.le_of_lt hl9) 2) (by decide), ?_⟩
      rw [sp_eq]
      walk_at "dX"
      refine ⟨_, rfl, hsc, hsp, ?_⟩
      have bad : goL ls [] none 0 = .inl (i + 1) → Ψ ⟨XBadText, ["line"], [.int ((i : Nat) + 1 : Int)]⟩ := fun e => by
        rw [e] at hk; exact hk
      walk_at "dX"
      cases sh with
      | some p =>
        rw [goL_some] at hgo
        refine od_notN1 rfl ?_
        walk_at "dX"
        exact bad hgo
      | none =>
      rw [goL_none] at hgo
      refine od_notN0 ?_
      walk_at "dX"
      cases hft : fieldT (Txt.split l spZ) with
      | some f =>
        rw [hft] at hgo
        dsimp only at hgo
        refine od_isN1 rfl ?_
        walk_at "dX"
        refine od_notN1 rfl ?_
        walk_at "dX"
        rw [List.length_map]
        by_cases h3 : acc.length = 3
        · rw [decide_eq_true (show ((acc.length : Nat) : Int) = 3 by omega)]
          rw [if_pos h3] at hgo
          walk_at "dX"
          exact bad hgo
        · rw [decide_eq_false (show ¬ ((acc.length : Nat) : Int) = 3 by omega)]
          rw [if_neg h3] at hgo
          walk_at "dX"
          have e : acc.map dF ++ [resF (some f)] = (acc ++ [f]).map dF := by rw [List.map_append]; rfl
          show ∃ acc sh a b c d, _ ∧ _ ∧ _ ∧ _ = _
          rw [e]
          refine ⟨acc ++ [f], none, _, _, _, _, fun g hg => ?_, by rw [List.length_append]; show acc.length + 1 ≤ 3; omega, by rw [hdr2]; exact hgo, rfl⟩
          rcases List.mem_append.mp hg with q | q
          · exact hok g q
          · rw [List.mem_singleton.mp q]; exact fieldT_ok hft
      | none =>
      rw [hft] at hgo
      dsimp only at hgo
      refine od_isN0 ?_
      walk_at "dX"
      refine od_eqRn hok ?_
      by_cases ha : acc = []
      · rw [decide_eq_true ha]
        rw [if_pos ha] at hgo
        walk_at "dX"
        exact bad hgo
      rw [decide_eq_false ha]
      rw [if_neg ha] at hgo
      walk_at "dX"
      refine ⟨_, rfl, hsc, hsp, ?_⟩
      cases hst : showT (Txt.split l spZ) with
      | none =>
        rw [hst] at hgo
        walk_at "dX"
        refine od_isN0 ?_
        walk_at "dX"
        exact bad hgo
      | some p =>
        rw [hst] at hgo
        dsimp only at hgo
        walk_at "dX"
        refine od_isN1 rfl ?_
        walk_at "dX"
        refine od_notN0 ?_
        walk_at "dX"
        refine ⟨_, rfl, hsc, hsp, ?_⟩
        rw [hst]
        walk_at "dX"
        exact ⟨acc, some p, _, _, _, _, hok, hal, by rw [hdr2]; exact hgo, rfl⟩
    · rintro ρ' ⟨acc, sh, a, b, c, d', hok, hal, hgo, rfl⟩
      rw [enumD_len, dS_len, List.length_take, Nat.min_eq_left (Nat.sub_le _ _)] at hgo
      obtain ⟨ini, la, hla⟩ : ∃ ini la, ls = ini ++ [la] := ⟨_, _, (List.dropLast_concat_getLast hne).symm⟩
      have hil : ls.length - 1 = ini.length := by rw [hla, List.length_append]; exact Nat.add_sub_cancel _ _
      rw [hil, show ls.drop ini.length = [la] by rw [hla, List.drop_left], goL_one] at hgo
      have badN : goL ls [] none 0 = .inl (ini.length + 1) → Ψ ⟨XBadText, ["line"], [.int (((dS ls).length : Nat) : Int)]⟩ := fun e => by
        rw [e] at hk
        rw [dS_len, show ls.length = ini.length + 1 by omega]
        exact hk
      have hat : atI (dS ls) (-1) = some (.str la) := by rw [hla]; unfold dS; rw [List.map_append]; exact atI_lastD _ _
      walk_at "dX"
      by_cases hla0 : la = ""
      · rw [decide_eq_true hla0]
        walk_at "dX"
        cases sh with
        | none =>
          refine od_isN0 ?_
          walk_at "dX"
          rw [if_pos hla0] at hgo
          exact badN hgo
        | some p =>
          refine od_isN1 rfl ?_
          walk_at "dX"
          refine ex_mkS (ex_frz 2 rfl ?_)
          walk_at "dX"
          rw [if_pos hla0] at hgo
          dsimp only at hgo
          rw [hgo] at hk
          exact hk
      · rw [decide_eq_false hla0]
        walk_at "dX"
        rw [if_neg hla0] at hgo
        exact badN hgo
end
end
/-! Rules out of texts. -/
section
set_option maxRecDepth 100000
set_option maxHeartbeats 4000000

abbrev sRule_of_text : Stmt := inClass (top 19) 5
theorem scRule_of_text : FnScope ["cls", "text", "fields", "show"] ["cls", "text"] (defScope sRule_of_text) := ⟨rfl, rfl, rfl, by decide +kernel, rfl, by decide +kernel, by decide +kernel⟩
/-- what a text tells -/
inductive OT
  | txt (k : Nat)
  | rul (k : Nat)
  | shw
  | made (rows : List (List Str)) (way nm : Str)
def ofT (z : Str) : OT := match readL z with
  | .inl k => .txt k
  | .inr r => match dupF [] r.1 with
    | some k => .rul k
    | none => if r.2.2 ∈ r.1.map headF then .made r.1 r.2.1 r.2.2 else .shw
def resO (Yr : Ra) (XT XR : Addr) (Φ : D → Prop) (Ψ : Ex → Prop) : OT → Prop
  | .txt k => Ψ ⟨XT, ["line"], [.int ((k : Nat) : Int)]⟩
  | .rul k => Ψ ⟨XR, ["reason", "index"], [.str "name", .int ((k : Nat) : Int)]⟩
  | .shw => Ψ ⟨XR, ["reason", "index"], [.str "show", .non]⟩
  | .made rows way nm => Φ (dR Yr rows way nm)
def fOfTextX (Yr : Ra) (XT XR : Addr) : FX := fun ds Φ Ψ => ∃ z : Str, ds = [.raw (.ref Yr.R), .str z] ∧ z.length < 49000 ∧ resO Yr XT XR Φ Ψ (ofT z)
section
variable {P : Program} {w : World} {K : PySem.W.Frag} {mg : Str → Option Value} {base : Heap} {Yr : Ra} {XBadText XBadRule : Addr}
theorem waysL_w : ∀ x ∈ waysL, isW x = true := by decide +kernel
theorem fd_dF {f : List Str} (h : OkF f) : FdOk K (dF f) := .inr ⟨dS f, .inr rfl, by rw [dS_len, h.len]; decide, fun d hd => by
  obtain ⟨x, hx, rfl⟩ := List.mem_map.mp hd
  exact .str (isW_len (okF_w h x hx))⟩
theorem okX_rule_of_text (B : Bn mg) (CXread_lines : CalX P w K mg base 3 "read_lines" ["text"] (spX K (fReadL XBadText))) (CXRule : CalCX P w K mg base 4 "Rule" Yr.R ["self", "fields", "show"] (spIX K Yr.R (fRuleIX K XBadRule))) (Df : DefCm K Yr.R "of_text" "Rule.of_text" sRule_of_text) :
    CalCmA P w K mg base (L2.CX P w) 6 Yr.R "of_text" "Rule.of_text" sRule_of_text ["cls", "text"] (spX K (fOfTextX Yr XBadText XBadRule)) := by
  refine CalCmA.ofD Df scRule_of_text (fun ds Φ Ψ h => ?_) (fun fa cdv A outer s H E hr => ⟨_, (pss_cons (ps_mkS ((ps_asg (pe_fnX CXread_lines hr (by decide) tkX (pa_cons (pv 1) pa_nil)) (pg_tup rfl (pgs_cons (pg_name (i := 2) scRule_of_text.nd rfl (Or.inl rfl)) (pgs_cons (pg_name (i := 3) scRule_of_text.nd rfl (Or.inl rfl)) pgs_nil))))))
      (pss_one (ps_ret (pe_mkL 0 CXRule hr (by decide) tkX (pa_cons (pv 2) (pa_cons (pv 3) pa_nil)))))), fun S Ψ hX ds Φ h => ?_⟩)
  · obtain ⟨_, rfl, _⟩ := h; rfl
  · obtain ⟨z, rfl, hz, k⟩ := h
    unfold ofT at k
    walk_at "dX"
    refine ex_mkS ?_
    walk_at "dX"
    refine ⟨z, rfl, hz, ?_⟩
    cases hr : readL z with
    | inl n =>
      rw [hr] at k
      exact k
    | inr r =>
    rw [hr] at k
    dsimp only at k
    obtain ⟨h1, h2, h3, h4, h5⟩ := dueL_ok hr (fun _ h => nomatch h) (by decide)
    show TgD K S _ _ _ _ _
    walk_at "dX"
    refine ev_mkL rfl (ev_makeX hX ?_)
    walk_at "dX"
    refine ⟨_, _, rfl, .inr ⟨_, .inl rfl, by rw [List.length_map]; omega, fun d hd => ?_, ?_⟩⟩
    · obtain ⟨f, hf, rfl⟩ := List.mem_map.mp hd
      exact fd_dF (h1 f hf)
    rw [dueF_dup h1 h2 h3]
    cases hd : dupF [] r.1 with
    | some n =>
      rw [hd] at k
      exact k
    | none =>
    rw [hd] at k
    dsimp only at k
    show ShwArg _ _ _ _ _ _
    refine .inr ⟨_, .inr rfl, by show 2 < 1000; decide, fun d hd => ?_, ?_⟩
    · simp only [List.mem_cons, List.not_mem_nil, or_false] at hd
      rcases hd with rfl | rfl
      · exact .str (isW_len (waysL_w _ h4))
      · exact .str (isW_len h5)
    · by_cases hm : r.2.2 ∈ r.1.map headF
      · rw [if_pos hm] at k
        rw [show showD (r.1.map headF) [.str r.2.1, .str r.2.2] = some (r.2.1, r.2.2) from if_pos ⟨h4, hm⟩]
        exact k
      · rw [if_neg hm] at k
        rw [show showD (r.1.map headF) [.str r.2.1, .str r.2.2] = none from if_neg fun q => hm q.2]
        exact k
end
end
/-! Drawn rules, apart from histories. -/
section
set_option maxRecDepth 100000
set_option maxHeartbeats 2000000
section
variable {K : PySem.W.Frag} {S : Sx} {ρ : List Sl} {O : Oc} {i j : Nat} {ta tb te : TE} {Θ : D → Gh → List Sl → Prop}
/-- a pair of a new list and a value, the list in hand -/
theorem evx_tupN (h : EvN K S ta ρ fun es => EvD K S tb ρ fun y => ∀ a, Θ (.tup [pD a, y]) [(a, .l es)] ρ) : EvX K S (tTup (tCons ta (tCons tb tNil))) ρ Θ := fun F0 H0 σ F H e o ag d0 Q q =>
  h σ F H e ag.ok ag.dr _ fun a us es F1 H1 hb n nF hl dd g1 => by
    have ih : InHand K S F1 H1 H0 σ ρ [(a, .l es)] := ⟨⟨by simp, fun b c hm => by
      cases List.mem_singleton.mp hm
      exact ⟨⟨nF, ag.dr.1.ne n⟩, _, hl, us, rfl, dd⟩⟩, fun b hb => by
      have : b = a := List.mem_singleton.mp hb
      subst this
      exact ag.backN n, fun b hb j s hj x hx z => by
      have : b = a := List.mem_singleton.mp hb
      subst this
      exact e.fresh n j s hj x hx z⟩
    refine hb σ F1 H1 (e.ag g1) g1.ok g1.dr _ fun v y F2 H2 hy dy g2 => ⟨by show 2 ≤ sizeLine; decide, fun p np => ?_⟩
    have nF2 : F2 p = none := g2.ok.free np
    have g3 : Ag S F1 H1 (upd F2 p (.tup [.ref a, v])) (upd H2 p (.tup [.ref a, v])) := g2.newF g1.dr np
    exact q (.ref p) (.tup [pD a, y]) _ ρ _ _ (hy a) ⟨p, [.ref a, v], rfl, st_of upd_same, .ref a, _, rfl, rfl, v, _, rfl, Dat.mono (fun b w z => upd_new z nF2) y dy, rfl⟩ ((e.ag g1).ag g3) o (ih.ag g3) ((ag.trans g1 d0).trans g3 d0)
/-- x, y = e, the cells go to x -/
theorem ex_unpX (h : EvX K S te ρ fun d γ ρ' => ∃ x y, d = .tup [x, y] ∧ O.nx ((ρ'.set i (.obj true x γ)).set j (.val y))) : ExD K S (tAsg te (gTup K 2 (gCons (gName i) (gCons (gName j) gNil)))) ρ O := fun F0 H0 σ F H e o ag d0 E f =>
  h F0 H0 σ F H e o ag d0 _ fun v d γ ρ' F1 H1 ⟨x, y, hd, hO⟩ dd e1 o1 ⟨q1, q2, q3⟩ g1 => by
    subst hd
    obtain ⟨p, us, rfl, hs, u1, _, rfl, d1, u2, _, rfl, d2, rfl⟩ := dd
    refine ⟨p, [u1, u2], rfl, st_sm g1.ok hs, rfl, u1, _, rfl, u2, _, rfl, rfl, ?_⟩
    exact f.nx _ _ F1 H1 hO ((e1.newG (i := i) (s₀ := .obj true x γ) (v := u1) (fun j s x b _ h1 h2 l1 l2 => q3 b l2 j s h1 x h2 l1) ⟨u1, rfl, d1, q1⟩).set d2) ((o1.newG (i := i) (s₀ := .obj true x γ) (v := u1) fun _ b z => q2 b z).set) g1
/-- cells of a slot that are one list: one's own list -/
theorem ex_unptr {t : TS} {a : Addr} {ds : List D} (i : Nat) (h0 : ρ[i]? = some (.obj true (pD a) [(a, .l ds)])) (k : ExD K S t (ρ.set i (.own ds)) O) : ExD K S t ρ O := fun F0 H0 σ F H e o ag d0 E f => by
  obtain ⟨v, h1, h2, h3⟩ := e.obj h0
  cases h2
  have h1' : σ.set i (some (.ref a)) = σ := setL_same h1
  obtain ⟨p, u, e1, us, rfl, e2⟩ := h3.ok a _ (List.mem_singleton.mpr rfl)
  have loc : ∀ b, (Sl.own ds).loc (some (.ref a)) b → (Sl.obj true (pD a) [(a, .l ds)]).loc (some (.ref a)) b := fun b z => by
    cases z
    exact List.mem_cons_self
  have en := EnvOk.newG (i := i) (s₀ := .own ds) (v := .ref a) e (fun j s x b n h4 h5 l1 l2 => e.sep i j _ s _ x b (Ne.symm n) h0 h4 rfl h1 h5 (loc b l2) l1) ⟨a, us, rfl, p, e1, e2⟩
  have on := OwnNew.newG (i := i) (s₀ := .own ds) (v := .ref a) o (fun _ b z => o i _ _ b h0 rfl h1 (loc b z))
  rw [h1'] at en on
  exact k F0 H0 σ F H en on ag d0 E f
end
end
section
set_option maxRecDepth 100000
set_option maxHeartbeats 2000000

abbrev s_law_parts : Stmt := top 32
theorem sc_law_parts : FnScope ["_law_found"] [] (defScope s_law_parts) := ⟨rfl, rfl, rfl, by decide +kernel, rfl, by decide +kernel, by decide +kernel⟩
abbrev s_law_field : Stmt := top 33
theorem sc_law_field : FnScope ["_law_state", "_law_called", "_law_some"] ["_law_state", "_law_called"] (defScope s_law_field) := ⟨rfl, rfl, rfl, by decide +kernel, rfl, by decide +kernel, by decide +kernel⟩
abbrev s_law_rule : Stmt := top 34
theorem sc_law_rule : FnScope ["_law_state", "_law_names", "_law_shown", "_law_called"] ["_law_state"] (defScope s_law_rule) := ⟨rfl, rfl, rfl, by decide +kernel, rfl, by decide +kernel, by decide +kernel⟩
/-- the words of a field, in order -/
def WrdL (us : List Str) (n : Nat) : Prop := us.length = n ∧ ∀ (i : Nat) (u : Str) (vs : List Str), us[i]? = some u → wordsL[i]? = some vs → u ∈ vs
theorem WrdL.app {us : List Str} {n : Nat} {u : Str} {vs : List Str} (h : WrdL us n) (hv : wordsL[n]? = some vs) (hu : u ∈ vs) : WrdL (us ++ [u]) (n + 1) := by
  refine ⟨by rw [List.length_append, h.1]; rfl, fun i x ws h1 h2 => ?_⟩
  rcases Nat.lt_trichotomy i us.length with z | z | z
  · rw [List.getElem?_append_left z] at h1
    exact h.2 i x ws h1 h2
  · subst z
    rw [List.getElem?_concat_length] at h1
    cases h1
    rw [h.1, hv] at h2
    cases h2
    exact hu
  · rw [List.getElem?_eq_none (by rw [List.length_append]; show us.length + 1 ≤ i; omega)] at h1
    cases h1
theorem words_len {vs : List Str} (h : vs ∈ wordsL) : 0 < vs.length ∧ vs.length < 10 := by
  have := List.all_eq_true.mp (show (wordsL.all fun vs => decide (0 < vs.length ∧ vs.length < 10)) = true by decide +kernel) vs h
  exact of_decide_eq_true this
section
variable {P : Program} {w : World} {K : PySem.W.Frag} {mg : Str → Option Value} {base : Heap} {Z : Cs} {Ys zA : Addr} {Yr : Ra}
def fParts : FD := fun ds Φ => ds = [] ∧ Φ (.lst (wordsL.map fun us => .tup (dS us)))
theorem okD_parts (B : Bn mg) (Df : Def K mg "_law_parts" s_law_parts) : Cal P w K mg base 1 "_law_parts" [] (spD K fParts) := by
  refine Cal.ofD Df sc_law_parts (fun _ _ _ _ _ _ us hl => match us, hl with | [], _ => rfl) (fun ds Φ h => ?_) (fun fa cdv A outer s H hr => ⟨_, (pss_cons (ps_set (i := 0) sc_law_parts.nd rfl (Or.inl rfl) (pe_lst (pa_cons (pe_tup (pa_cons pe_str (pa_cons pe_str (pa_cons pe_str (pa_cons pe_str pa_nil))))) (pa_cons (pe_tup (pa_cons pe_str (pa_cons pe_str (pa_cons pe_str (pa_cons pe_str pa_nil))))) (pa_cons (pe_tup (pa_cons pe_str (pa_cons pe_str pa_nil))) pa_nil)))))
      (pss_one (ps_ret (pe_op op_cat (pe_op op_cat (pv 0) (pe_op op_rep (pe_lst (pa_cons (pe_tup (pa_cons pe_str (pa_cons pe_str (pa_cons pe_str (pa_cons pe_str pa_nil))))) pa_nil)) pe_int)) (pe_lst (pa_cons (pe_tup (pa_cons pe_str (pa_cons pe_str pa_nil))) pa_nil)))))), fun S ds Φ h => ?_⟩)
  · obtain ⟨rfl, _⟩ := h; rfl
  · obtain ⟨rfl, k⟩ := h
    walk_at "dg"
    refine on_rep (n := 2) (by decide) (by decide) (on_cat (show 3 + 2 < 100000 by decide) ?_)
    walk_at "dg"
    exact k
def fField : FD := fun ds Φ => ∃ nm, ds = [.drw, .str nm] ∧ ∀ us, WrdL us 6 → Φ (.tup (dS (nm :: us)))
theorem okD_field (B : Bn mg) (C_law_one : Cal P w K mg base 3 "_law_one" ["_law_state", "_law_things"] (spD K fOne)) (C_law_parts : Cal P w K mg base 1 "_law_parts" [] (spD K fParts)) (Df : Def K mg "_law_field" s_law_field) : Cal P w K mg base 4 "_law_field" ["_law_state", "_law_called"] (spD K fField) := by
  refine Cal.ofD Df sc_law_field (fun _ _ _ _ _ _ us hl => match us, hl with | [_, _], _ => rfl) (fun ds Φ h => ?_) (fun fa cdv A outer s H hr => ⟨_, (pss_one (ps_ret (pe_callTy (n_tuple K) (by rfl) B.tuple (by decide +kernel) (pa_cons (pe_op op_cat (pe_lst (pa_cons (pv 1) pa_nil)) (pe_lc (own := [("_law_some", 2)]) (g := (gName 2)) rfl sc_law_field.nd (q_seq K (pe_fn0 C_law_parts hr (by decide))) (blkOk_by (own := [("_law_some", 2)]) (N := ["_law_state", "_law_called", "_law_some"]) (sc := defScope s_law_field) (by decide +kernel)) (fun _ _ _ _ _ => (pg_name (i := 2) sc_law_field.nd rfl (Or.inl rfl) (.inr rfl))) (fun _ _ _ _ _ => pts_nil) (fun _ _ _ _ _ => (pe_fn C_law_one hr (by decide) (pa_cons (pv 0) (pa_cons (pv 2) pa_nil)))))) pa_nil)))), fun S ds Φ h => ?_⟩)
  · obtain ⟨_, rfl, _⟩ := h; rfl
  · obtain ⟨nm, rfl, k⟩ := h
    walk_at "dg"
    refine ⟨rfl, ?_⟩
    walk_at "dg"
    refine ⟨fun i acc => ∃ us, acc = dS us ∧ WrdL us i, ⟨[], rfl, rfl, fun i u vs h _ => nomatch h⟩, ?_, ?_⟩
    · rintro i d acc hd ⟨us, rfl, hW⟩
      obtain ⟨vs, hv, rfl⟩ : ∃ vs, wordsL[i]? = some vs ∧ d = .tup (dS vs) := by
        rw [List.getElem?_map] at hd
        cases z : wordsL[i]? with
        | none => rw [z] at hd; cases hd
        | some vs => rw [z] at hd; exact ⟨vs, rfl, (Option.some.inj hd).symm⟩
      have hi : i < 6 := (List.getElem?_eq_some_iff.mp hv).1
      obtain ⟨h0, h1⟩ := words_len (List.mem_of_getElem? hv)
      refine ⟨by rw [show (dS us).length = us.length from List.length_map _, hW.1]; omega, ?_⟩
      walk_at "dg"
      refine ⟨_, _, rfl, .inr rfl, by rw [show (dS vs).length = vs.length from List.length_map _]; exact h0, by rw [show (dS vs).length = vs.length from List.length_map _]; omega, fun d hd => ?_⟩
      obtain ⟨u, hu, rfl⟩ := List.mem_map.mp hd
      exact ⟨us ++ [u], by unfold dS; rw [List.map_append]; rfl, hW.app hv hu⟩
    · rintro acc ⟨us, rfl, hW⟩
      have hW : WrdL us 6 := hW
      refine on_cat (show 1 + (dS us).length < 100000 by rw [show (dS us).length = us.length from List.length_map _, hW.1]; decide) ?_
      walk_at "dg"
      exact k us hW
theorem WrdL.okF {nm : Str} {us : List Str} (h : WrdL us 6) (hn : isW nm = true) : OkF (nm :: us) := ⟨nm, us, rfl, hn, h.1, h.2⟩
def fRuleX : FC := fun ds γ Θ => ds = [.drw] ∧ γ = [] ∧ ∀ rows way nm a, OkR rows way nm → Θ (.tup [pD a, .tup [.str way, .str nm]]) [(a, .l (rows.map dF))]
theorem okC_rule (B : Bn mg) (C_law_take : Cal P w K mg base 2 "_law_take" ["_law_state", "_law_many"] (spD K fTake)) (C_law_one : Cal P w K mg base 3 "_law_one" ["_law_state", "_law_things"] (spD K fOne)) (C_law_some_words : Cal P w K mg base 3 "_law_some_words" ["_law_state", "_law_many"] (spD K fSomeWords))
    (C_law_field : Cal P w K mg base 4 "_law_field" ["_law_state", "_law_called"] (spD K fField)) (Df : Def K mg "_law_rule" s_law_rule) : Cal P w K mg base 5 "_law_rule" ["_law_state"] (spC K fRuleX) := by
  refine Cal.ofC0 Df sc_law_rule (fun _ _ _ _ _ _ us hl => match us, hl with | [_], _ => rfl) (fun ds γ Θ h => ?_) (fun fa cdv A outer s H hr => ⟨_, (pss_cons (ps_set (i := 1) sc_law_rule.nd rfl (Or.inl rfl) (pe_fn C_law_some_words hr (by decide) (pa_cons (pv 0) (pa_cons (pe_op op_add pe_int (pe_fn C_law_take hr (by decide) (pa_cons (pv 0) (pa_cons pe_int pa_nil)))) pa_nil))))
      (pss_cons (ps_set (i := 2) sc_law_rule.nd rfl (Or.inl rfl) (pe_tup (pa_cons (pe_fn C_law_one hr (by decide) (pa_cons (pv 0) (pa_cons (pe_tup (pa_cons pe_str (pa_cons pe_str (pa_cons pe_str pa_nil)))) pa_nil))) (pa_cons (pe_fn C_law_one hr (by decide) (pa_cons (pv 0) (pa_cons (pv 1) pa_nil))) pa_nil))))
      (pss_one (ps_mkS ((ps_ret (pe_tup (pa_cons (pe_lc (own := [("_law_called", 3)]) (g := (gName 3)) rfl sc_law_rule.nd (q_seq K (pv 1)) (blkOk_by (own := [("_law_called", 3)]) (N := ["_law_state", "_law_names", "_law_shown", "_law_called"]) (sc := defScope s_law_rule) (by decide +kernel)) (fun _ _ _ _ _ => (pg_name (i := 3) sc_law_rule.nd rfl (Or.inl rfl) (.inr rfl))) (fun _ _ _ _ _ => pts_nil) (fun _ _ _ _ _ => (pe_fn C_law_field hr (by decide) (pa_cons (pv 0) (pa_cons (pv 3) pa_nil))))) (pa_cons (pv 2) pa_nil))))))))), fun S ds γ Θ h => ?_⟩)
  · obtain ⟨rfl, _⟩ := h; rfl
  · obtain ⟨rfl, rfl, k⟩ := h
    refine ⟨rfl, ?_⟩
    walk_at "dg"
    refine ⟨3, rfl, by decide, by decide, fun t ht => ?_⟩
    walk_at "dg"
    rw [show (1 : Int) + (t : Int) = ((1 + t : Nat) : Int) by omega]
    refine ⟨1 + t, rfl, by omega, fun ws hW => ?_⟩
    walk_at "dg"
    refine ⟨_, _, rfl, .inr rfl, Nat.le_of_ble_eq_true rfl, Nat.le_of_ble_eq_true rfl, fun d hd => ?_⟩
    obtain ⟨way, hway, rfl⟩ := List.mem_map.mp (show d ∈ dS waysL from hd)
    walk_at "dg"
    refine ⟨_, _, rfl, .inl rfl, by rw [show (dS ws).length = ws.length from List.length_map _, hW.1]; omega, by rw [show (dS ws).length = ws.length from List.length_map _, hW.1]; omega, fun d hd => ?_⟩
    obtain ⟨nm, hnm, rfl⟩ := List.mem_map.mp hd
    walk_at "dg"
    refine ex_mkS (ex_retX (evx_tupN ?_))
    walk_at "dg"
    have G := hW.good (by omega) (by omega)
    refine ⟨fun i acc => ∃ rows : List (List Str), acc = rows.map dF ∧ rows.map headF = ws.take i ∧ ∀ f ∈ rows, OkF f, ⟨[], rfl, rfl, fun f h => nomatch h⟩, ?_, ?_⟩
    · rintro i d acc hd ⟨rows, rfl, hr, hf⟩
      obtain ⟨u, hu, rfl⟩ := dS_mem hd
      have hi : i < ws.length := (List.getElem?_eq_some_iff.mp hu).1
      have hrl : rows.length ≤ i := by
        have := congrArg List.length hr
        rw [List.length_map, List.length_take] at this
        omega
      refine ⟨by rw [List.length_map]; have := hW.1; omega, ?_⟩
      walk_at "dg"
      refine ⟨u, rfl, fun us hU => ⟨rows ++ [u :: us], by rw [List.map_append]; rfl, by rw [List.map_append, hr, take_succ hu]; rfl, fun f h => ?_⟩⟩
      rcases List.mem_append.mp h with h | h
      · exact hf f h
      · rw [List.mem_singleton.mp h]
        exact hU.okF (G.wd u (List.mem_of_getElem? hu))
    · rintro acc ⟨rows, rfl, hr, hf⟩
      rw [show (dS ws).length = ws.length from List.length_map _, List.take_length] at hr
      walk_at "dg"
      refine fun a => k rows way nm a ⟨?_, ?_, hf, ?_, hway, ?_⟩
      · have := congrArg List.length hr
        rw [List.length_map, hW.1] at this
        omega
      · have := congrArg List.length hr
        rw [List.length_map, hW.1] at this
        omega
      · rw [hr]; exact hW.nodup
      · rw [hr]; exact hnm
end
end
/-! The law of rules as texts: its helpers. -/
section
set_option maxRecDepth 100000
set_option maxHeartbeats 4000000

abbrev s_law_tried : Stmt := top 37
theorem sc_law_tried : FnScope ["_law_ask", "_law_found", "_law_made", "e"] ["_law_ask"] (defScope s_law_tried) := ⟨rfl, rfl, rfl, by decide +kernel, rfl, by decide +kernel, by decide +kernel⟩
abbrev s_law_is_word : Stmt := top 38
theorem sc_law_is_word : FnScope ["_law_x", "_law_sign"] ["_law_x"] (defScope s_law_is_word) := ⟨rfl, rfl, rfl, by decide +kernel, rfl, by decide +kernel, by decide +kernel⟩
abbrev s_law_line : Stmt := top 35
theorem sc_law_line : FnScope ["_law_row", "_law_words", "_law_k", "_law_word"] ["_law_row"] (defScope s_law_line) := ⟨rfl, rfl, rfl, by decide +kernel, rfl, by decide +kernel, by decide +kernel⟩
abbrev s_law_field_of : Stmt := top 39
theorem sc_law_field_of : FnScope ["_law_line_here", "_law_words", "_law_parts_here", "_law_row", "_law_word", "_law_some"] ["_law_line_here"] (defScope s_law_field_of) := ⟨rfl, rfl, rfl, by decide +kernel, rfl, by decide +kernel, by decide +kernel⟩
abbrev s_law_is_show : Stmt := top 40
theorem sc_law_is_show : FnScope ["_law_line_here", "_law_words"] ["_law_line_here"] (defScope s_law_is_show) := ⟨rfl, rfl, rfl, by decide +kernel, rfl, by decide +kernel, by decide +kernel⟩
section
variable {P : Program} {w : World} {K : PySem.W.Frag} {mg : Str → Option Value} {base : Heap} {Yr : Ra} {XBadText XBadRule : Addr}
def endO : OT → D
  | .txt k => .tup [.str "text", .int ((k : Nat) : Int)]
  | .rul k => .tup [.str "rule", .int ((k : Nat) : Int), .str "name"]
  | .shw => .tup [.str "rule", .non, .str "show"]
  | .made rows way nm => .tup [.str "made", .lst (rows.map dF), .tup [.str way, .str nm]]
def fTriedO (Yr : Ra) (XT XR : Addr) : FT := fun Φa Ψa Φ => ∃ o : OT, (∀ d, Φa d → ∃ rows way nm, o = .made rows way nm ∧ rows.length ≤ 3 ∧ d = dR Yr rows way nm) ∧
  (∀ x, Ψa x → resO Yr XT XR (fun _ => False) (fun y => x = y) o) ∧ Φ (endO o)
theorem okT_triedO (B : Bn mg) (Ur : Tr K mg Yr) (XC_BadText : Xc1 P w K mg base "BadText" XBadText "line") (XC_BadRule : Xc2 P w K mg base "BadRule" XBadRule "index" "reason") (XN_BadRule__BadText : PySem.W.exmOne K (.ref XBadRule) (.ref XBadText) = some false) (CRule_fields : CalM P w K mg base 1 Yr.R "fields" ["self"] (spD K (fRFields Yr))) (CRule_show : CalM P w K mg base 1 Yr.R "show" ["self"] (spD K (fRShow Yr))) (Df : Def K mg "_law_tried" s_law_tried) :
    CalT P w K mg base 2 "_law_tried" "_law_ask" (TTd K (fTriedO Yr XBadText XBadRule)) := by
  refine CalT.ofD Df sc_law_tried rfl (.inl (by decide +kernel)) (fun _ _ _ _ _ _ us hl => match us, hl with | [_], _ => rfl) (fun A stk k q g cdv s H f c tl hr hj act => ⟨_, (pss_cons (ps_set (i := 1) sc_law_tried.nd rfl (Or.inl rfl) (pe_tup (pa_cons pe_str pa_nil)))
      (pss_cons (ps_tryA rfl rfl takes0 (fun W pn xe tk po => (pss_cons (ps_set (i := 2) sc_law_tried.nd rfl (Or.inl rfl) (act _ _ _ (EL 4 W) _ _ (tkL tk rfl) (fun _ _ _ _ h => h)))
      (pss_one (ps_set (i := 1) sc_law_tried.nd rfl (Or.inl rfl) (pe_tup (pa_cons pe_str (pa_cons (pe_mt0 (pv 2) Ur.cl CRule_fields hr (by omega)) (pa_cons (pe_mt0 (pv 2) Ur.cl CRule_show hr (by omega)) pa_nil)))))))) (HdsA.as (i := 3) sc_law_tried.nd rfl rfl ⟨rfl, by decide, .inl XC_BadText.g⟩ (fun a oe cls d pn hz hf => (pss_one (ps_set (i := 1) sc_law_tried.nd rfl (Or.inl rfl) (pe_tup (pa_cons pe_str (pa_cons (pe_xf XC_BadText.xf XC_BadText.nf hz hf (pv 3)) pa_nil)))))) (HdsA.as (i := 3) sc_law_tried.nd rfl rfl ⟨rfl, by decide, .inl XC_BadRule.g⟩ (fun a oe cls d pn hz hf => (pss_one (ps_set (i := 1) sc_law_tried.nd rfl (Or.inl rfl) (pe_tup (pa_cons pe_str (pa_cons (pe_xf XC_BadRule.xf XC_BadRule.nf hz hf (pv 3)) (pa_cons (pe_xf XC_BadRule.xf XC_BadRule.ng hz hf (pv 3)) pa_nil))))))) HdsA.nil)))
      (pss_one (ps_ret (pv 1))))), fun S Φa Ψa Φ ask h => ?_⟩)
  obtain ⟨o, k1, k2, k⟩ := h
  walk_at "dg"
  refine ex_tryA rfl Ψa (fun S' W h1 h2 hw hX => ?_) (fun x hx => ?_)
  · walk_at "dg"
    refine ask S' _ _ Ψa _ h1 h2 hw rfl hX (fun d hd => ?_) (fun x hx => hx)
    obtain ⟨rows, way, nm, rfl, h3, rfl⟩ := k1 d hd
    walk_at "dg"
    refine ⟨rows, way, nm, rfl, h3, ?_⟩
    walk_at "dg"
    refine ⟨rows, way, nm, rfl, ?_⟩
    walk_at "dg"
    exact k
  · have h := k2 x hx
    cases o with
    | txt n =>
      obtain rfl : x = _ := h
      refine .inl ⟨XC_BadText.te, su_f1 (by decide) (Nat.le_of_ble_eq_true rfl) ?_⟩
      walk_at "dg"
      exact k
    | rul n =>
      obtain rfl : x = _ := h
      refine .inr ⟨XN_BadRule__BadText, .inl ⟨XC_BadRule.te, su_f2 (by decide) (Nat.le_of_ble_eq_true rfl) (by decide +kernel) ?_⟩⟩
      walk_at "dg"
      exact k
    | shw =>
      obtain rfl : x = _ := h
      refine .inr ⟨XN_BadRule__BadText, .inl ⟨XC_BadRule.te, su_f2 (by decide) (Nat.le_of_ble_eq_true rfl) (by decide +kernel) ?_⟩⟩
      walk_at "dg"
      exact k
    | made rows way nm => exact absurd h id
def fLIsW : FD := fun ds Φ => ∃ z : Str, ds = [.str z] ∧ z.length < 100000 ∧ Φ (.bl (isW z))
theorem okD_is_wordL (B : Bn mg) (Df : Def K mg "_law_is_word" s_law_is_word) : Cal P w K mg base 1 "_law_is_word" ["_law_x"] (spD K fLIsW) := by
  refine Cal.ofD Df sc_law_is_word (fun _ _ _ _ _ _ us hl => match us, hl with | [_], _ => rfl) (fun ds Φ h => ?_) (fun fa cdv A outer s H hr => ⟨_, (pss_one (ps_ret (pe_and (pe_cmpR op_gt (pe_callB (n_len K) (by rfl) B.len PySem.boot_len (pa_cons (pv 0) pa_nil)) pe_int (nomark _)) (pe_and (pe_cmpR op_lt (pe_callB (n_len K) (by rfl) B.len PySem.boot_len (pa_cons (pv 0) pa_nil)) pe_int (nomark _)) (pe_one (pe_callB (n_all K rfl) (by rfl) B.all (by decide +kernel) (pa_cons (pe_lc (own := [("_law_sign", 1)]) (g := (gName 1)) rfl sc_law_is_word.nd (p_str (pv 0)) (blkOk_by (own := [("_law_sign", 1)]) (N := ["_law_x", "_law_sign"]) (sc := defScope s_law_is_word) (by decide +kernel)) (fun _ _ _ _ _ => (pg_name (i := 1) sc_law_is_word.nd rfl (Or.inl rfl) (.inr rfl))) (fun _ _ _ _ _ => pts_nil) (fun _ _ _ _ _ => (pe_cmpR o_insign (pv 1) pe_str rfl))) pa_nil))))))), fun S ds Φ h => ?_⟩)
  · obtain ⟨_, rfl, _⟩ := h; rfl
  · obtain ⟨z, rfl, hz, k⟩ := h
    walk_at "dg"
    refine k_dec (fun h1 => ?_) (fun h1 => ?_)
    rotate_left
    · have e2 : isW z = false := by
        unfold isW
        rw [decide_eq_false (show ¬ 1 ≤ z.length by omega), Bool.false_and]
      rw [e2] at k
      exact k
    · walk_at "dg"
      refine k_dec (fun h2 => ?_) (fun h2 => ?_)
      rotate_left
      · have e2 : isW z = false := by
          unfold isW
          rw [decide_eq_false (show ¬ z.length ≤ 8 by omega), Bool.false_and, Bool.and_false]
        rw [e2] at k
        exact k
      · walk_at "dg"
        refine ⟨z, rfl, lc_m z.cps.toList (fun c => .str ⟨#[c]⟩) (fun c => .bl (decide (c ∈ letters.cps.toList))) rfl ?_ (fun c hc => ?_) ?_⟩
        · have e : z.cps.toList.length = z.length := by simp [Str.length]
          omega
        · walk_at "dg"
          rfl
        · rw [show z.cps.toList.map (fun c => D.bl (decide (c ∈ letters.cps.toList))) = dB (z.cps.toList.map fun c => decide (c ∈ letters.cps.toList)) from (List.map_map).symm]
          walk_at "dg"
          have e2 : isW z = ((z.cps.toList.map fun c => decide (c ∈ letters.cps.toList)).all id) := by
            unfold isW
            rw [decide_eq_true (show 1 ≤ z.length by omega), decide_eq_true (show z.length ≤ 8 by omega), Bool.true_and, Bool.true_and, List.all_map]
            rfl
          rw [← e2]
          exact k
theorem od_neLS {S : Sx} {Φ : D → Prop} {ws us : List Str} (o1 : okS ws) (o2 : okS us) (k : Φ (.bl (!decide (ws = us)))) : OpD K S (rNeD K) (.lst (dS ws)) (.lst (dS us)) Φ := by
  refine od_neD (plains_dS ws) (plains_dS us) (shape_lS o1) (shape_lS o2) ?_
  show Φ (.bl (!PyData.eqvAll (D.pys (dS ws)) (D.pys (dS us))))
  rw [pys_dS, pys_dS, eqv_strs]; exact k
/-- the words of a field's line -/
def lineP (f : List Str) (i : Nat) : List Str := [("field" : Str), wAt f 0] ++ ((List.range i).map fun k => [partsL.getD k "", wAt f (k + 1)]).flatten
theorem lineP_succ (f : List Str) (i : Nat) : lineP f (i + 1) = lineP f i ++ [partsL.getD i "", wAt f (i + 1)] := by
  unfold lineP
  rw [List.range_succ, List.map_append, List.flatten_append, List.append_assoc]
  rfl
def lineS (f : List Str) : Str := Str.join spZ (lineP f 5 ++ [wAt f 6])
/-- a field, its words short -/
def ShortF (f : List Str) : Prop := f.length = 7 ∧ ∀ x ∈ f, x.length ≤ 10 ∧ CpOk x
theorem ShortF.at {f : List Str} (h : ShortF f) (i : Nat) (hi : i < 7) : (wAt f i).length ≤ 10 ∧ CpOk (wAt f i) := by
  refine h.2 _ ?_
  unfold wAt
  rw [List.getD_eq_getElem?_getD, List.getElem?_eq_getElem (by rw [h.1]; exact hi)]
  exact List.getElem_mem _
theorem ShortF.line {f : List Str} (h : ShortF f) : (∀ x ∈ lineP f 5 ++ [wAt f 6], x.length ≤ 10 ∧ CpOk x) ∧ (lineP f 5 ++ [wAt f 6]).length = 13 := by
  have o : ∀ x ∈ [("field" : Str), "read", "jump", "anew", "give", "take"], x.length ≤ 10 ∧ CpOk x := fun x hx => by
    have := List.all_eq_true.mp (show ([("field" : Str), "read", "jump", "anew", "give", "take"].all fun x => decide (x.length ≤ 10) && PyData.strOk x) = true by decide +kernel) x hx
    rw [Bool.and_eq_true] at this
    exact ⟨of_decide_eq_true this.1, .of this.2⟩
  refine ⟨fun x hx => ?_, rfl⟩
  have e : lineP f 5 ++ [wAt f 6] = [("field" : Str), wAt f 0, "read", wAt f 1, "jump", wAt f 2, "anew", wAt f 3, "give", wAt f 4, "take", wAt f 5, wAt f 6] := rfl
  rw [e] at hx
  simp only [List.mem_cons, List.not_mem_nil, or_false] at hx
  rcases hx with rfl | rfl | rfl | rfl | rfl | rfl | rfl | rfl | rfl | rfl | rfl | rfl | rfl
  all_goals first | exact h.at _ (by decide) | exact o _ (by decide +kernel)
theorem sum_le {ws : List Str} {n : Nat} (h : ∀ x ∈ ws, x.length ≤ n) : (ws.map (·.length)).sum ≤ ws.length * n := by
  induction ws with
  | nil => exact Nat.zero_le _
  | cons a l ih =>
    have h1 := h a List.mem_cons_self
    have h2 := ih fun x hx => h x (List.mem_cons_of_mem _ hx)
    rw [List.map_cons, List.sum_cons, List.length_cons, Nat.succ_mul]
    omega
theorem ShortF.lineS {f : List Str} (h : ShortF f) : (lineS f).length ≤ 143 ∧ CpOk (lineS f) := by
  obtain ⟨h1, h2⟩ := h.line
  refine ⟨?_, .join (by decide) fun p hp => (h1 p hp).2⟩
  have := join_tot (c := 32) (ps := lineP f 5 ++ [wAt f 6])
  have h3 := sum_le (n := 10) fun x hx => (h1 x hx).1
  unfold tot at this
  rw [h2] at this h3
  show (Str.join (ch 32) _).length ≤ _
  omega
def fLine : FD := fun ds Φ => ∃ f, ds = [dF f] ∧ ShortF f ∧ Φ (.str (lineS f))
theorem okD_line (B : Bn mg) (Df : Def K mg "_law_line" s_law_line) : Cal P w K mg base 1 "_law_line" ["_law_row"] (spD K fLine) := by
  refine Cal.ofD Df sc_law_line (fun _ _ _ _ _ _ us hl => match us, hl with | [_], _ => rfl) (fun ds Φ h => ?_) (fun fa cdv A outer s H hr => ⟨_, (pss_cons (ps_set (i := 1) sc_law_line.nd rfl (Or.inl rfl) (pe_lst (pa_cons pe_str (pa_cons (pe_ix (x_tup K) (pv 0) pe_int (fun _ _ => rfl)) pa_nil))))
      (pss_cons (ps_for PassesOwn.never rfl (q_enum K B.enumerate (pa_cons (pe_tup (pa_cons pe_str (pa_cons pe_str (pa_cons pe_str (pa_cons pe_str (pa_cons pe_str pa_nil)))))) pa_nil)) (pg_tup rfl (pgs_cons (pg_name (i := 2) sc_law_line.nd rfl (Or.inl rfl)) (pgs_cons (pg_name (i := 3) sc_law_line.nd rfl (Or.inl rfl)) pgs_nil))) (pss_one (ps_set (i := 1) sc_law_line.nd rfl (Or.inl rfl) (pe_op op_cat (pv 1) (pe_lst (pa_cons (pv 3) (pa_cons (pe_ix (x_tup K) (pv 0) (pe_op op_add (pv 2) pe_int) (fun _ _ => rfl)) pa_nil)))))))
      (pss_one (ps_ret (e_join K pe_str (pe_op op_cat (pv 1) (pe_lst (pa_cons (pe_ix (x_tup K) (pv 0) pe_int (fun _ _ => rfl)) pa_nil)))))))), fun S ds Φ h => ?_⟩)
  · obtain ⟨_, rfl, _⟩ := h; rfl
  · obtain ⟨f, rfl, hf, k⟩ := h
    have at_ : ∀ i : Nat, i < 7 → atI (dS f) (i : Int) = some (.str (wAt f i)) := fun i hi => wAt_at (by rw [hf.1]; exact hi)
    walk_at "dg"
    refine od_ixt (at_ 0 (by decide)) ?_
    walk_at "dg"
    refine ⟨_, rfl, _, .inr rfl, fun i ρ => ∃ a b, ρ = [.val (dF f), .val (.lst (dS (lineP f i))), a, b], ⟨_, _, rfl⟩, ?_, ?_⟩
    · rintro i d ρ' hd ⟨a, b, rfl⟩
      obtain ⟨d0, hd0, rfl⟩ := enumD_get hd
      obtain ⟨p, hp, rfl⟩ := dS_get (ns := partsL.take 5) hd0
      have hi : i < 5 := (List.getElem?_eq_some_iff.mp hp).1
      have hpd : partsL.getD i "" = p := by rw [List.getElem?_take, if_pos hi] at hp; rw [List.getD_eq_getElem?_getD, hp]; rfl
      have z1 : (i : Int) + 1 = ((i + 1 : Nat) : Int) := by omega
      walk_at "dg"
      rw [z1]
      refine od_ixt (at_ (i + 1) (by omega)) ?_
      walk_at "dg"
      have hll : (lineP f i).length = 2 + 2 * i := by
        unfold lineP
        clear at_ k hf hd0 hd hp hpd z1 hi
        induction i with
        | zero => rfl
        | succ i ih =>
          rw [List.range_succ, List.map_append, List.flatten_append, ← List.append_assoc, List.length_append, ih]
          show 2 + 2 * i + 2 = _
          omega
      refine on_cat ?_ ?_
      · show (dS (lineP f i)).length + 2 < 100000
        rw [dS_len, hll]; omega
      walk_at "dg"
      have e : dS (lineP f i) ++ [D.str p, D.str (wAt f (i + 1))] = dS (lineP f (i + 1)) := by rw [lineP_succ, ← dS_cat, hpd]; rfl
      rw [e]
      exact ⟨_, _, rfl⟩
    · rintro ρ' ⟨a, b, rfl⟩
      obtain ⟨q1, q2⟩ := hf.line
      have q3 := sum_le (n := 10) fun x hx => (q1 x hx).1
      rw [q2] at q3
      walk_at "dg"
      refine ev_join ?_
      walk_at "dg"
      refine ⟨_, rfl, ?_⟩
      walk_at "dg"
      refine od_ixt (at_ 6 (by decide)) ?_
      walk_at "dg"
      rw [show dS (lineP f (enumD [D.str "read", D.str "jump", D.str "anew", D.str "give", D.str "take"]).length) ++ [D.str (wAt f 6)] = dS (lineP f 5 ++ [wAt f 6]) from dS_cat (lineP f 5) [wAt f 6]]
      refine ⟨_, .inl rfl, ?_, k⟩
      rw [q2]
      show _ + 13 * 1 ≤ 16777216
      omega
theorem stp13 {ws : List Str} (h : ws.length = 13) : stpL (dS ws) (some 2) (some 12) (some 2) = dS [wAt ws 2, wAt ws 4, wAt ws 6, wAt ws 8, wAt ws 10] ∧ stpL (dS ws) (some 3) (some 12) (some 2) = dS [wAt ws 3, wAt ws 5, wAt ws 7, wAt ws 9, wAt ws 11] :=
  match ws, h with
  | [_, _, _, _, _, _, _, _, _, _, _, _, _], _ => ⟨rfl, rfl⟩
def evW (ws : List Str) : List Str := [wAt ws 2, wAt ws 4, wAt ws 6, wAt ws 8, wAt ws 10]
def odW (ws : List Str) : List Str := [wAt ws 3, wAt ws 5, wAt ws 7, wAt ws 9, wAt ws 11, wAt ws 12]
theorem fieldT_iff (ws : List Str) : FieldT ws ↔ ws.length = 13 ∧ wAt ws 0 = "field" ∧ isW (wAt ws 1) = true ∧ evW ws = partsL.take 5 ∧ ((odW ws).zip wordsL).all (fun p => decide (p.1 ∈ p.2)) = true := by
  have e5 : (∀ i, i < 5 → PartOk ws i) ↔ PartOk ws 0 ∧ PartOk ws 1 ∧ PartOk ws 2 ∧ PartOk ws 3 ∧ PartOk ws 4 := by
    constructor
    · exact fun h => ⟨h 0 (by decide), h 1 (by decide), h 2 (by decide), h 3 (by decide), h 4 (by decide)⟩
    · rintro ⟨h0, h1, h2, h3, h4⟩ i hi
      match i, hi with
      | 0, _ => exact h0
      | 1, _ => exact h1
      | 2, _ => exact h2
      | 3, _ => exact h3
      | 4, _ => exact h4
  unfold FieldT
  rw [e5]
  have e1 : evW ws = partsL.take 5 ↔ wAt ws 2 = partsL.getD 0 "" ∧ wAt ws 4 = partsL.getD 1 "" ∧ wAt ws 6 = partsL.getD 2 "" ∧ wAt ws 8 = partsL.getD 3 "" ∧ wAt ws 10 = partsL.getD 4 "" := by
    show [wAt ws 2, wAt ws 4, wAt ws 6, wAt ws 8, wAt ws 10] = [partsL.getD 0 "", partsL.getD 1 "", partsL.getD 2 "", partsL.getD 3 "", partsL.getD 4 ""] ↔ _
    simp only [List.cons.injEq, and_true]
  have e2 : ((odW ws).zip wordsL).all (fun p => decide (p.1 ∈ p.2)) = true ↔ wAt ws 3 ∈ wordsL.getD 0 [] ∧ wAt ws 5 ∈ wordsL.getD 1 [] ∧ wAt ws 7 ∈ wordsL.getD 2 [] ∧ wAt ws 9 ∈ wordsL.getD 3 [] ∧ wAt ws 11 ∈ wordsL.getD 4 [] ∧ wAt ws 12 ∈ wordsL.getD 5 [] := by
    show (decide (wAt ws 3 ∈ wordsL.getD 0 []) && (decide (wAt ws 5 ∈ wordsL.getD 1 []) && (decide (wAt ws 7 ∈ wordsL.getD 2 []) && (decide (wAt ws 9 ∈ wordsL.getD 3 []) && (decide (wAt ws 11 ∈ wordsL.getD 4 []) && (decide (wAt ws 12 ∈ wordsL.getD 5 []) && true)))))) = true ↔ _
    simp only [Bool.and_eq_true, decide_eq_true_eq, and_true]
  rw [e1, e2]
  unfold PartOk
  constructor
  · rintro ⟨h1, h2, h3, ⟨⟨a0, b0⟩, ⟨a1, b1⟩, ⟨a2, b2⟩, ⟨a3, b3⟩, ⟨a4, b4⟩⟩, h5⟩
    exact ⟨h1, h2, h3, ⟨a0, a1, a2, a3, a4⟩, b0, b1, b2, b3, b4, h5⟩
  · rintro ⟨h1, h2, h3, ⟨a0, a1, a2, a3, a4⟩, b0, b1, b2, b3, b4, h5⟩
    exact ⟨h1, h2, h3, ⟨⟨a0, b0⟩, ⟨a1, b1⟩, ⟨a2, b2⟩, ⟨a3, b3⟩, ⟨a4, b4⟩⟩, h5⟩
def fFieldL : FD := fun ds Φ => ∃ l : Str, ds = [.str l] ∧ l.length < 49000 ∧ CpOk l ∧ Φ (resF (fieldT (Txt.split l spZ)))
theorem okD_field_ofL (B : Bn mg) (C_law_is_word : Cal P w K mg base 1 "_law_is_word" ["_law_x"] (spD K fLIsW)) (C_law_parts : Cal P w K mg base 1 "_law_parts" [] (spD K fParts)) (Df : Def K mg "_law_field_of" s_law_field_of) : Cal P w K mg base 2 "_law_field_of" ["_law_line_here"] (spD K fFieldL) := by
  refine Cal.ofD Df sc_law_field_of (fun _ _ _ _ _ _ us hl => match us, hl with | [_], _ => rfl) (fun ds Φ h => ?_) (fun fa cdv A outer s H hr => ⟨_, (pss_cons (ps_par (i := 1) (j := 2) (by rfl) sc_law_field_of.nd rfl rfl (by decide) rfl rfl (pa_cons (pe_split (pv 0) pe_str) (pa_cons (pe_lst (pa_cons pe_str (pa_cons pe_str (pa_cons pe_str (pa_cons pe_str (pa_cons pe_str pa_nil)))))) pa_nil)) (by rfl))
      (pss_cons (ps_if (PW.pt (pw_or (pt_cmpR op_ne (pe_callB (n_len K) (by rfl) B.len PySem.boot_len (pa_cons (pv 1) pa_nil)) pe_int (nomark _)) (pw_or (pt_cmpR op_ne (pe_ix (x_list K) (pv 1) pe_int (fun _ _ => rfl)) pe_str (nomark _)) (pw_or (pt_not (pt_val (pe_fn C_law_is_word hr (by decide) (pa_cons (pe_ix (x_list K) (pv 1) pe_int (fun _ _ => rfl)) pa_nil)))) (pw_or1 (pt_cmpR (o_neD K hr.units) (pe_stp K (pv 1) (po_some pe_int) (po_some pe_int) (po_some pe_int)) (pv 2) (nomark _))))))) (pss_one (ps_ret pe_non)) pss_nil)
      (pss_cons (ps_set (i := 3) sc_law_field_of.nd rfl (Or.inl rfl) (pe_op (o_catA K) (pe_op (o_catA K) (pe_tup (pa_cons (pe_ix (x_list K) (pv 1) pe_int (fun _ _ => rfl)) pa_nil)) (pe_callTy (n_tuple K) (by rfl) B.tuple (by decide +kernel) (pa_cons (pe_stp K (pv 1) (po_some pe_int) (po_some pe_int) (po_some pe_int)) pa_nil))) (pe_tup (pa_cons (pe_ix (x_list K) (pv 1) pe_int (fun _ _ => rfl)) pa_nil))))
      (pss_one (ps_ret (pe_ifExp (pt_val (pe_callB (n_all K rfl) (by rfl) B.all (by decide +kernel) (pa_cons (pe_lc (own := [("_law_word", 4), ("_law_some", 5)]) (g := (gTup K 2 (gCons (gName 4) (gCons (gName 5) gNil)))) rfl sc_law_field_of.nd (q_zipB K false true B.zip (pa_cons (pe_slice (y_tup K) (pv 3) (po_some pe_int) po_none) (pa_cons (pe_fn0 C_law_parts hr (by decide)) pa_nil))) (blkOk_by (own := [("_law_word", 4), ("_law_some", 5)]) (N := ["_law_line_here", "_law_words", "_law_parts_here", "_law_row", "_law_word", "_law_some"]) (sc := defScope s_law_field_of) (by decide +kernel)) (fun _ _ _ _ _ => (pg_tup rfl (pgs_cons (pg_name (i := 4) sc_law_field_of.nd rfl (Or.inl rfl) (.inr rfl)) (pgs_cons (pg_name (i := 5) sc_law_field_of.nd rfl (Or.inl rfl) (.inr rfl)) pgs_nil)))) (fun _ _ _ _ _ => pts_nil) (fun _ _ _ _ _ => (pe_cmpR (o_inq K) (pv 4) (pv 5) rfl))) pa_nil))) (pv 3) pe_non)))))), fun S ds Φ h => ?_⟩)
  · obtain ⟨_, rfl, _⟩ := h; rfl
  · obtain ⟨l, rfl, hl, hc, k⟩ := h
    have hsp : ∀ p ∈ Txt.split l spZ, p.length < 49000 := fun p hp => Nat.lt_of_le_of_lt (split_mem_len hp) hl
    have hsc : (Txt.split l spZ).length < 50000 := Nat.lt_of_le_of_lt (split_count l 32) (by omega)
    have hcp : ∀ p ∈ Txt.split l spZ, CpOk p := fun p hp => hc.word hp
    walk_at "dg"
    refine ev_split ?_
    walk_at "dg"
    refine ⟨l, rfl, ?_⟩
    walk_at "dg"
    refine ⟨_, rfl, by decide +kernel, Nat.le_trans (Nat.add_le_add_right (Nat.le_of_lt hl) 2) (by decide), ?_⟩
    rw [sp_eq]
    obtain ⟨ws, hws⟩ : ∃ ws, ws = Txt.split l spZ := ⟨_, rfl⟩
    rw [← hws] at hsp hsc hcp k
    rw [← hws]
    have hlen : (dS ws).length = ws.length := dS_len _
    have no : ¬ FieldT ws → Φ .non := fun h => by unfold fieldT at k; rw [if_neg h] at k; exact k
    walk_at "dg"
    refine ⟨_, _, rfl, ?_⟩
    walk_at "dg"
    rw [hlen]
    by_cases h13 : ws.length = 13
    rotate_left
    · rw [decide_eq_false (show ¬ ((ws.length : Nat) : Int) = 13 by omega)]
      walk_at "dg"
      exact no fun h => h13 h.1
    rw [decide_eq_true (show ((ws.length : Nat) : Int) = 13 by omega)]
    have at_ : ∀ i : Nat, i < 13 → atI (dS ws) (i : Int) = some (.str (wAt ws i)) := fun i hi => wAt_at (by omega)
    have wm : ∀ i : Nat, i < 13 → wAt ws i ∈ ws := fun i hi => by
      unfold wAt
      rw [List.getD_eq_getElem?_getD, List.getElem?_eq_getElem (show i < ws.length by omega)]
      exact List.getElem_mem _
    walk_at "dg"
    refine od_ixl (at_ 0 (by decide)) ?_
    walk_at "dg"
    by_cases h0 : wAt ws 0 = "field"
    rotate_left
    · rw [decide_eq_false h0]
      walk_at "dg"
      exact no fun h => h0 h.2.1
    rw [decide_eq_true h0]
    walk_at "dg"
    refine od_ixl (at_ 1 (by decide)) ?_
    walk_at "dg"
    refine ⟨_, rfl, Nat.lt_of_lt_of_le (hsp _ (wm 1 (by decide))) (by decide), ?_⟩
    cases h1 : isW (wAt ws 1) with
    | false =>
      walk_at "dg"
      exact no fun h => by have := h.2.2.1; rw [h1] at this; cases this
    | true =>
    walk_at "dg"
    refine ev_new (evN_stp ?_)
    walk_at "dg"
    refine ⟨_, rfl, ?_⟩
    walk_at "dg"
    refine ⟨_, rfl, ?_⟩
    walk_at "dg"
    refine ⟨_, rfl, ?_⟩
    walk_at "dg"
    refine ⟨_, rfl, ?_⟩
    obtain ⟨st2, st3⟩ := stp13 h13
    refine ⟨(fun q => nomatch q), by rw [dS_len]; omega, ?_, ?_⟩
    · show (stpL (dS ws) (some 2) (some 12) (some 2)).length ≤ 100000
      rw [st2]; exact Nat.le_of_ble_eq_true rfl
    rw [show stpL (dS ws) (some (2 : Int)) (some 12) (some 2) = dS (evW ws) from st2]
    have hev : okS (evW ws) := fun x hx => (show CpOk x by
      unfold evW at hx
      simp only [List.mem_cons, List.not_mem_nil, or_false] at hx
      rcases hx with rfl | rfl | rfl | rfl | rfl <;> exact hcp _ (wm _ (by decide))).ok
    have hpo : okS (partsL.take 5) := fun x hx => List.all_eq_true.mp (show ((partsL.take 5).all fun x => PyData.strOk x) = true by decide +kernel) x hx
    walk_at "dg"
    refine od_neLS (us := partsL.take 5) hev hpo ?_
    by_cases h2 : evW ws = partsL.take 5
    rotate_left
    · rw [decide_eq_false h2]
      walk_at "dg"
      exact no fun h => h2 ((fieldT_iff ws).mp h).2.2.2.1
    rw [decide_eq_true h2]
    walk_at "dg"
    refine od_ixl (at_ 1 (by decide)) ?_
    walk_at "dg"
    refine ev_new (evN_stp ?_)
    walk_at "dg"
    refine ⟨_, rfl, ?_⟩
    walk_at "dg"
    refine ⟨_, rfl, ?_⟩
    walk_at "dg"
    refine ⟨_, rfl, ?_⟩
    walk_at "dg"
    refine ⟨_, rfl, ?_⟩
    refine ⟨(fun q => nomatch q), by rw [dS_len]; omega, ?_, ?_⟩
    · show (stpL (dS ws) (some 3) (some 12) (some 2)).length ≤ 100000
      rw [st3]; exact Nat.le_of_ble_eq_true rfl
    rw [show stpL (dS ws) (some (3 : Int)) (some 12) (some 2) = dS [wAt ws 3, wAt ws 5, wAt ws 7, wAt ws 9, wAt ws 11] from st3]
    walk_at "dg"
    refine od_catA (by show 1 + 5 < 100000; decide) ?_
    walk_at "dg"
    refine od_ixl (at_ 12 (by decide)) ?_
    walk_at "dg"
    refine od_catA (by show 6 + 1 < 100000; decide) ?_
    show ExD K S _ [.val (.str l), .val (.lst (dS ws)), .val (.lst (dS (partsL.take 5))), .val (dF (wAt ws 1 :: odW ws)), .un, .un] _
    walk_at "dg"
    refine ⟨_, rfl, ?_⟩
    walk_at "dg"
    refine ⟨_, rfl, ?_⟩
    walk_at "dg"
    refine ⟨rfl, ?_⟩
    walk_at "dg"
    rw [show cutD (dS (wAt ws 1 :: odW ws)) (some (1 : Int)) none = dS (odW ws) from cut_tl _ _]
    refine ⟨dS (odW ws), wordsL.map fun us => .tup (dS us), rfl, lc_m ((odW ws).zip wordsL) (fun p => .tup [.str p.1, .tup (dS p.2)]) (fun p => .bl (decide (p.1 ∈ p.2))) rfl (by show 6 < 100000; decide) (fun p hp => ?_) ?_⟩
    · walk_at "dg"
      rfl
    rw [show ((odW ws).zip wordsL).map (fun p => D.bl (decide (p.1 ∈ p.2))) = dB (((odW ws).zip wordsL).map fun p => decide (p.1 ∈ p.2)) from (List.map_map).symm]
    walk_at "dg"
    rw [show (((odW ws).zip wordsL).map fun p => decide (p.1 ∈ p.2)).all id = ((odW ws).zip wordsL).all (fun p => decide (p.1 ∈ p.2)) by rw [List.all_map]; rfl]
    cases h5 : ((odW ws).zip wordsL).all (fun p => decide (p.1 ∈ p.2)) with
    | false =>
      walk_at "dg"
      exact no fun h => by have := ((fieldT_iff ws).mp h).2.2.2.2; rw [h5] at this; cases this
    | true =>
      walk_at "dg"
      have hF : FieldT ws := (fieldT_iff ws).mpr ⟨h13, h0, h1, h2, h5⟩
      unfold fieldT at k
      rw [if_pos hF] at k
      exact k
def fIsShow : FD := fun ds Φ => ∃ l : Str, ds = [.str l] ∧ l.length < 49000 ∧ Φ (.bl (showT (Txt.split l spZ)).isSome)
theorem okD_is_show (B : Bn mg) (C_law_is_word : Cal P w K mg base 1 "_law_is_word" ["_law_x"] (spD K fLIsW)) (Df : Def K mg "_law_is_show" s_law_is_show) : Cal P w K mg base 2 "_law_is_show" ["_law_line_here"] (spD K fIsShow) := by
  refine Cal.ofD Df sc_law_is_show (fun _ _ _ _ _ _ us hl => match us, hl with | [_], _ => rfl) (fun ds Φ h => ?_) (fun fa cdv A outer s H hr => ⟨_, (pss_cons (ps_set (i := 1) sc_law_is_show.nd rfl (Or.inl rfl) (pe_split (pv 0) pe_str))
      (pss_cons (ps_if (PW.pt (pw_or (pt_cmpR op_ne (pe_callB (n_len K) (by rfl) B.len PySem.boot_len (pa_cons (pv 1) pa_nil)) pe_int (nomark _)) (pw_or (pt_cmpR op_ne (pe_ix (x_list K) (pv 1) pe_int (fun _ _ => rfl)) pe_str (nomark _)) (pw_or1 (pt_not (pt_val (pe_fn C_law_is_word hr (by decide) (pa_cons (pe_ix (x_list K) (pv 1) pe_int (fun _ _ => rfl)) pa_nil)))))))) (pss_one (ps_ret pe_bl)) pss_nil)
      (pss_one (ps_ret (pe_cmpR (o_inq K) (pe_ix (x_list K) (pv 1) pe_int (fun _ _ => rfl)) (pe_lst (pa_cons pe_str (pa_cons pe_str (pa_cons pe_str pa_nil)))) rfl))))), fun S ds Φ h => ?_⟩)
  · obtain ⟨_, rfl, _⟩ := h; rfl
  · obtain ⟨l, rfl, hl, k⟩ := h
    walk_at "dg"
    refine ev_split ?_
    walk_at "dg"
    refine ⟨l, rfl, ?_⟩
    walk_at "dg"
    refine ⟨_, rfl, by decide +kernel, Nat.le_trans (Nat.add_le_add_right (Nat.le_of_lt hl) 2) (by decide), ?_⟩
    rw [sp_eq]
    have hsp : ∀ p ∈ Txt.split l spZ, p.length < 49000 := fun p hp => Nat.lt_of_le_of_lt (split_mem_len hp) hl
    obtain ⟨ws, hws⟩ : ∃ ws, ws = Txt.split l spZ := ⟨_, rfl⟩
    rw [← hws] at k hsp
    rw [← hws]
    have hlen : (dS ws).length = ws.length := dS_len _
    have no : ¬ ShowT ws → Φ (.bl false) := fun h => by unfold showT at k; rw [if_neg h] at k; exact k
    walk_at "dg"
    rw [hlen]
    by_cases h3 : ws.length = 3
    rotate_left
    · rw [decide_eq_false (show ¬ ((ws.length : Nat) : Int) = 3 by omega)]
      walk_at "dg"
      exact no fun h => h3 h.1
    rw [decide_eq_true (show ((ws.length : Nat) : Int) = 3 by omega)]
    have at_ : ∀ i : Nat, i < 3 → atI (dS ws) (i : Int) = some (.str (wAt ws i)) := fun i hi => wAt_at (by omega)
    have wm : ∀ i : Nat, i < 3 → wAt ws i ∈ ws := fun i hi => by
      unfold wAt
      rw [List.getD_eq_getElem?_getD, List.getElem?_eq_getElem (show i < ws.length by omega)]
      exact List.getElem_mem _
    walk_at "dg"
    refine od_ixl (at_ 0 (by decide)) ?_
    walk_at "dg"
    by_cases h0 : wAt ws 0 = "show"
    rotate_left
    · rw [decide_eq_false h0]
      walk_at "dg"
      exact no fun h => h0 h.2.1
    rw [decide_eq_true h0]
    walk_at "dg"
    refine od_ixl (at_ 2 (by decide)) ?_
    walk_at "dg"
    refine ⟨_, rfl, Nat.lt_of_lt_of_le (hsp _ (wm 2 (by decide))) (by decide), ?_⟩
    cases h1 : isW (wAt ws 2) with
    | false =>
      walk_at "dg"
      exact no fun h => by have := h.2.2.2; rw [h1] at this; cases this
    | true =>
    walk_at "dg"
    refine od_ixl (at_ 1 (by decide)) ?_
    walk_at "dg"
    refine od_inS (ns := waysL) (.inl rfl) ?_
    show Φ (.bl (decide (wAt ws 1 ∈ waysL)))
    unfold showT at k
    by_cases h4 : wAt ws 1 ∈ waysL
    · rw [if_pos ⟨h3, h0, h4, h1⟩] at k
      rw [decide_eq_true h4]
      exact k
    · rw [if_neg fun q => h4 q.2.2.1] at k
      rw [decide_eq_false h4]
      exact k
end
end
/-! The law of rules as texts: what is due. -/
section
set_option maxRecDepth 100000
set_option maxHeartbeats 4000000

abbrev s_law_rule_due : Stmt := top 42
theorem sc_law_rule_due : FnScope ["_law_rows", "_law_words", "_law_names", "_law_row", "_law_k", "_law_called"] ["_law_rows", "_law_words"] (defScope s_law_rule_due) := ⟨rfl, rfl, rfl, by decide +kernel, rfl, by decide +kernel, by decide +kernel⟩
abbrev s_law_due : Stmt := top 41
theorem sc_law_due : FnScope ["_law_text_here", "_law_lines", "_law_rows", "_law_k", "_law_line_here", "_law_row"] ["_law_text_here"] (defScope s_law_due) := ⟨rfl, rfl, rfl, by decide +kernel, rfl, by decide +kernel, by decide +kernel⟩
section
variable {P : Program} {w : World} {K : PySem.W.Frag} {mg : Str → Option Value} {base : Heap} {Yr : Ra} {XBadText XBadRule : Addr}
theorem od_eqLS {S : Sx} {Φ : D → Prop} {ws us : List Str} (o1 : okS ws) (o2 : okS us) (k : Φ (.bl (decide (ws = us)))) : OpD K S (rEqD K) (.lst (dS ws)) (.lst (dS us)) Φ := by
  refine od_eqD (plains_dS ws) (plains_dS us) (shape_lS o1) (shape_lS o2) ?_
  show Φ (.bl (PyData.eqvAll (D.pys (dS ws)) (D.pys (dS us))))
  rw [pys_dS, pys_dS, eqv_strs]; exact k
def endR (rows : List (List Str)) (p : Str × Str) : OT := match dupF [] rows with
  | some k => .rul k
  | none => if p.2 ∈ rows.map headF then .made rows p.1 p.2 else .shw
def fRuleDue : FD := fun ds Φ => ∃ rows ws, ds = [.lst (rows.map dF), .lst (dS ws)] ∧ rows.length ≤ 3 ∧ (∀ f ∈ rows, OkF f) ∧ ShowT ws ∧ Φ (endO (endR rows (wAt ws 1, wAt ws 2)))
theorem okD_rule_due (B : Bn mg) (Df : Def K mg "_law_rule_due" s_law_rule_due) : Cal P w K mg base 1 "_law_rule_due" ["_law_rows", "_law_words"] (spD K fRuleDue) := by
  refine Cal.ofD Df sc_law_rule_due (fun _ _ _ _ _ _ us hl => match us, hl with | [_, _], _ => rfl) (fun ds Φ h => ?_) (fun fa cdv A outer s H hr => ⟨_, (pss_cons (ps_setLc (i := 2) (own := [("_law_row", 3)]) (g := (gName 3)) rfl sc_law_rule_due.nd rfl rfl (sw_true rfl rfl rfl (by decide +kernel)) (q_seq K (pv 0)) (blkOk_by (own := [("_law_row", 3)]) (N := ["_law_rows", "_law_words", "_law_names", "_law_row", "_law_k", "_law_called"]) (sc := defScope s_law_rule_due) (by decide +kernel)) (fun _ _ _ _ _ => (pg_name (i := 3) sc_law_rule_due.nd rfl (Or.inl rfl) (.inr rfl))) (fun _ _ _ _ _ => pts_nil) (fun _ _ _ _ _ => (pe_ix (x_tup K) (pv 3) pe_int (fun _ _ => rfl))))
      (pss_cons (ps_for PassesOwn.never rfl (q_enum K B.enumerate (pa_cons (pv 2) pa_nil)) (pg_tup rfl (pgs_cons (pg_name (i := 4) sc_law_rule_due.nd rfl (Or.inl rfl)) (pgs_cons (pg_name (i := 5) sc_law_rule_due.nd rfl (Or.inl rfl)) pgs_nil))) (pss_one (ps_if (pt_cmpR (o_inq K) (pv 5) (pe_slice (y_list K) (pv 2) po_none (po_some (pv 4))) rfl) (pss_one (ps_ret (pe_tup (pa_cons pe_str (pa_cons (pv 4) (pa_cons pe_str pa_nil)))))) pss_nil)))
      (pss_one (ps_ret (pe_ifExp (pt_cmpR (o_inq K) (pe_ix (x_list K) (pv 1) pe_int (fun _ _ => rfl)) (pv 2) rfl) (pe_tup (pa_cons pe_str (pa_cons (pv 0) (pa_cons (pe_tup (pa_cons (pe_ix (x_list K) (pv 1) pe_int (fun _ _ => rfl)) (pa_cons (pe_ix (x_list K) (pv 1) pe_int (fun _ _ => rfl)) pa_nil))) pa_nil)))) (pe_tup (pa_cons pe_str (pa_cons pe_non (pa_cons pe_str pa_nil))))))))), fun S ds Φ h => ?_⟩)
  · obtain ⟨_, _, rfl, _⟩ := h; rfl
  · obtain ⟨rows, ws, rfl, hl, hok, hS, k⟩ := h
    obtain ⟨h3, h0, h1, h2⟩ := hS
    have at_ : ∀ i : Nat, i < 3 → atI (dS ws) (i : Int) = some (.str (wAt ws i)) := fun i hi => wAt_at (by omega)
    walk_at "dg"
    refine lc_m rows dF (fun f => .str (headF f)) rfl (by omega) (fun g hg => ?_) ?_
    · have hat := headF_at (hok g hg)
      walk_at "dg"
      rfl
    rw [show rows.map (fun f => D.str (headF f)) = dS (rows.map headF) by unfold dS; rw [List.map_map]; rfl]
    walk_at "dg"
    refine ⟨_, rfl, _, .inl rfl, fun i ρ => ∃ b c, dupF [] rows = dupF (rows.take i) (rows.drop i) ∧ ρ = [.val (.lst (rows.map dF)), .val (.lst (dS ws)), .val (.lst (dS (rows.map headF))), .un, b, c], ⟨_, _, rfl, rfl⟩, ?_, ?_⟩
    · rintro i d ρ' hd ⟨b, c, hp, rfl⟩
      obtain ⟨d0, hd0, rfl⟩ := enumD_get hd
      obtain ⟨p, hpp, rfl⟩ := dS_get hd0
      rw [List.getElem?_map] at hpp
      obtain ⟨f, hf, rfl⟩ : ∃ f, rows[i]? = some f ∧ headF f = p := by
        cases e : rows[i]? with
        | none => rw [e] at hpp; cases hpp
        | some f => rw [e] at hpp; exact ⟨f, rfl, Option.some.inj hpp⟩
      have hi : i < rows.length := (List.getElem?_eq_some_iff.mp hf).1
      have ef : rows[i] = f := Option.some.inj ((List.getElem?_eq_getElem hi).symm.trans hf)
      rw [List.drop_eq_getElem_cons hi, ef, dupF, List.length_take, Nat.min_eq_left (Nat.le_of_lt hi), List.map_take] at hp
      walk_at "dg"
      refine ⟨_, rfl, ?_⟩
      walk_at "dg"
      refine ⟨_, rfl, ?_⟩
      rw [cut_toS]
      refine od_inS (.inl rfl) ?_
      show isB (.bl (decide (headF f ∈ (rows.map headF).take i))) _
      by_cases hm : headF f ∈ (rows.map headF).take i
      · rw [if_pos hm] at hp
        rw [decide_eq_true hm]
        walk_at "dg"
        unfold endR at k
        rw [hp] at k
        exact k
      · rw [if_neg hm] at hp
        rw [decide_eq_false hm]
        walk_at "dg"
        refine ⟨_, _, ?_, rfl⟩
        rw [hp, ← ef, List.take_append_getElem]
    · rintro ρ' ⟨b, c, hp, rfl⟩
      rw [enumD_len, dS_len, List.length_map, List.take_length, List.drop_length] at hp
      unfold endR at k
      rw [show dupF [] rows = none from hp] at k
      dsimp only at k
      walk_at "dg"
      refine od_ixl (at_ 2 (by decide)) ?_
      walk_at "dg"
      rw [show (if false = true then !decide (wAt ws 2 ∈ rows.map headF) else decide (wAt ws 2 ∈ rows.map headF)) = decide (wAt ws 2 ∈ rows.map headF) from rfl]
      by_cases hm : wAt ws 2 ∈ rows.map headF
      · rw [if_pos hm] at k
        rw [decide_eq_true hm]
        walk_at "dg"
        refine od_ixl (at_ 1 (by decide)) ?_
        walk_at "dg"
        refine od_ixl (at_ 2 (by decide)) ?_
        walk_at "dg"
        exact k
      · rw [if_neg hm] at k
        rw [decide_eq_false hm]
        walk_at "dg"
        exact k
def fDueO : FD := fun ds Φ => ∃ z : Str, ds = [.str z] ∧ z.length < 49000 ∧ CpOk z ∧ Φ (endO (ofT z))
theorem okD_dueO (B : Bn mg) (C_law_field_of : Cal P w K mg base 2 "_law_field_of" ["_law_line_here"] (spD K fFieldL)) (C_law_is_show : Cal P w K mg base 2 "_law_is_show" ["_law_line_here"] (spD K fIsShow)) (C_law_rule_due : Cal P w K mg base 1 "_law_rule_due" ["_law_rows", "_law_words"] (spD K fRuleDue)) (Df : Def K mg "_law_due" s_law_due) : Cal P w K mg base 3 "_law_due" ["_law_text_here"] (spD K fDueO) := by
  refine Cal.ofD Df sc_law_due (fun _ _ _ _ _ _ us hl => match us, hl with | [_], _ => rfl) (fun ds Φ h => ?_) (fun fa cdv A outer s H hr => ⟨_, (pss_cons (ps_mkS ((ps_par (i := 1) (j := 2) (by rfl) sc_law_due.nd rfl rfl (by decide) rfl rfl (pa_cons (pe_split (pv 0) pe_str) (pa_cons (pe_lst pa_nil) pa_nil)) (by rfl))))
      (pss_cons (ps_for PassesOwn.never rfl (q_enum K B.enumerate (pa_cons (pv 1) pa_nil)) (pg_tup rfl (pgs_cons (pg_name (i := 3) sc_law_due.nd rfl (Or.inl rfl)) (pgs_cons (pg_name (i := 4) sc_law_due.nd rfl (Or.inl rfl)) pgs_nil))) (pss_cons (ps_set (i := 5) sc_law_due.nd rfl (Or.inl rfl) (pe_fn C_law_field_of hr (by decide) (pa_cons (pv 4) pa_nil)))
      (pss_cons (ps_if (PW.pt (pw_or (pt_cmpR op_eq (pv 3) (pe_op op_sub (pe_callB (n_len K) (by rfl) B.len PySem.boot_len (pa_cons (pv 1) pa_nil)) pe_int) (nomark _)) (pw_or1 (PW.pt (pw_and (pt_cmpR op_isN (pv 5) pe_non (nomark _)) (pw_and1 (PW.pt (pw_or (pt_cmpR (o_eqD K hr.units) (pv 2) (pe_lst pa_nil) (nomark _)) (pw_or1 (pt_not (pt_val (pe_fn C_law_is_show hr (by decide) (pa_cons (pv 4) pa_nil))))))))))))) (pss_one (ps_ret (pe_tup (pa_cons pe_str (pa_cons (pe_op op_add (pv 3) pe_int) pa_nil))))) pss_nil)
      (pss_cons (ps_if (PW.pt (pw_and (pt_cmpR op_notN (pv 5) pe_non (nomark _)) (pw_and1 (pt_cmpR op_eq (pe_callB (n_len K) (by rfl) B.len PySem.boot_len (pa_cons (pv 2) pa_nil)) pe_int (nomark _))))) (pss_one (ps_ret (pe_tup (pa_cons pe_str (pa_cons (pe_op op_add (pv 3) pe_int) pa_nil))))) pss_nil)
      (pss_cons (ps_if (pt_cmpR op_isN (pv 5) pe_non (nomark _)) (pss_one (ps_mkS ((ps_ret (pe_ifExp (pt_cmpR (o_eqD K hr.units) (pe_slice (y_list K) (pv 1) (po_some (pe_op op_add (pv 3) pe_int)) po_none) (pe_lst (pa_cons pe_str pa_nil)) (nomark _)) (pe_fn C_law_rule_due hr (by decide) (pa_cons (pv 2) (pa_cons (pe_split (pv 4) pe_str) pa_nil))) (pe_tup (pa_cons pe_str (pa_cons (pe_op op_add (pv 3) pe_int) pa_nil)))))))) pss_nil)
      (pss_one (ps_expr (e_bm K PySem.F.plainAttrs_list PySem.F.slot_list_append PySem.F.type_list_append mt_append (pv 2) (pa_cons (pv 5) pa_nil)))))))))
      (pss_one (ps_ret pe_non)))), fun S ds Φ h => ?_⟩)
  · obtain ⟨_, rfl, _⟩ := h; rfl
  · obtain ⟨z, rfl, hz, hc, k⟩ := h
    have hne := split_ne z nlT
    have hcnt : (Txt.split z nlT).length ≤ z.length + 1 := split_count z 10
    have hmem : ∀ p ∈ Txt.split z nlT, p.length < 49000 := fun p hp => Nat.lt_of_le_of_lt (split_mem_len hp) hz
    have hcp : ∀ p ∈ Txt.split z nlT, CpOk p := fun p hp => hc.word hp
    unfold ofT readL at k
    obtain ⟨ls, hls⟩ : ∃ ls, ls = Txt.split z nlT := ⟨_, rfl⟩
    rw [← hls] at hcnt hmem hne hcp k
    have hpos : 0 < ls.length := List.length_pos_iff.mpr hne
    walk_at "dg"
    refine ex_mkS (ex_parVN (by decide) (Nat.le_of_ble_eq_true rfl) (Nat.le_of_ble_eq_true rfl) (ev_split ?_))
    walk_at "dg"
    refine ⟨z, rfl, ?_⟩
    walk_at "dg"
    refine ⟨_, rfl, by decide +kernel, Nat.le_trans (Nat.add_le_add_right (Nat.le_of_lt hz) 2) (by decide), ?_⟩
    rw [nl_eq, ← hls]
    walk_at "dg"
    refine ⟨_, rfl, _, .inl rfl, fun i ρ => i < ls.length ∧ ∃ acc a b c, (∀ f ∈ acc, OkF f) ∧ acc.length ≤ 3 ∧ dueL ls [] 0 = dueL (ls.drop i) acc i ∧ ρ = [.val (.str z), .val (.lst (dS ls)), .own (acc.map dF), a, b, c], ⟨hpos, [], _, _, _, (fun _ h => nomatch h), by decide, rfl, rfl⟩, ?_, ?_⟩
    · rintro i d ρ' hd ⟨hi, acc, a, b, c, hok, hal, hgo, rfl⟩
      obtain ⟨d0, hd0, rfl⟩ := enumD_get hd
      obtain ⟨l, hl, rfl⟩ := dS_get hd0
      have el : ls[i] = l := Option.some.inj ((List.getElem?_eq_getElem hi).symm.trans hl)
      have hlm := hmem l (List.mem_of_getElem? hl)
      have hlc := hcp l (List.mem_of_getElem? hl)
      walk_at "dg"
      refine ⟨l, rfl, hlm, hlc, ?_⟩
      have bad : dueL ls [] 0 = .inl (i + 1) → Φ (.tup [.str "text", .int ((i : Nat) + 1 : Int)]) := fun e => by rw [e] at k; exact k
      walk_at "dg"
      rw [dS_len]
      by_cases hlast : i + 1 = ls.length
      · have hdr : ls.drop i = [l] := by rw [List.drop_eq_getElem_cons hi, el, hlast, List.drop_length]
        rw [hdr, dueL] at hgo
        rw [decide_eq_true (show (i : Int) = (ls.length : Int) - 1 by omega)]
        walk_at "dg"
        exact bad hgo
      have hdr2 : ls.drop (i + 1) = ls[i + 1] :: ls.drop (i + 2) := List.drop_eq_getElem_cons (by omega)
      have hdr : ls.drop i = l :: ls[i + 1] :: ls.drop (i + 2) := by rw [List.drop_eq_getElem_cons hi, el, hdr2]
      rw [hdr, dueL] at hgo
      rw [decide_eq_false (show ¬ (i : Int) = (ls.length : Int) - 1 by omega)]
      walk_at "dg"
      cases hft : fieldT (Txt.split l spZ) with
      | some f =>
        rw [hft] at hgo
        dsimp only at hgo
        walk_at "dg"
        refine od_isN1 rfl ?_
        walk_at "dg"
        refine od_notN1 rfl ?_
        walk_at "dg"
        rw [List.length_map]
        by_cases h3 : acc.length = 3
        · rw [decide_eq_true (show ((acc.length : Nat) : Int) = 3 by omega)]
          rw [if_pos h3] at hgo
          walk_at "dg"
          exact bad hgo
        · rw [decide_eq_false (show ¬ ((acc.length : Nat) : Int) = 3 by omega)]
          rw [if_neg h3] at hgo
          walk_at "dg"
          refine od_isN1 rfl ?_
          walk_at "dg"
          have e : acc.map dF ++ [resF (some f)] = (acc ++ [f]).map dF := by rw [List.map_append]; rfl
          show i + 1 < ls.length ∧ ∃ acc a b c, _ ∧ _ ∧ _ ∧ _ = _
          rw [e]
          refine ⟨by omega, acc ++ [f], _, _, _, fun g hg => ?_, by rw [List.length_append]; show acc.length + 1 ≤ 3; omega, by rw [hdr2]; exact hgo, rfl⟩
          rcases List.mem_append.mp hg with q | q
          · exact hok g q
          · rw [List.mem_singleton.mp q]; exact fieldT_ok hft
      | none =>
      rw [hft] at hgo
      dsimp only at hgo
      walk_at "dg"
      refine od_isN0 ?_
      walk_at "dg"
      refine od_eqRn hok ?_
      by_cases ha : acc = []
      · rw [decide_eq_true ha]
        rw [if_pos ha] at hgo
        walk_at "dg"
        exact bad hgo
      rw [decide_eq_false ha]
      rw [if_neg ha] at hgo
      walk_at "dg"
      refine ⟨l, rfl, hlm, ?_⟩
      cases hst : showT (Txt.split l spZ) with
      | none =>
        rw [hst] at hgo
        rw [show Option.isSome (none : Option (Str × Str)) = false from rfl]
        walk_at "dg"
        exact bad hgo
      | some p =>
        rw [hst] at hgo
        dsimp only at hgo
        rw [show Option.isSome (some p) = true from rfl]
        walk_at "dg"
        refine od_notN0 ?_
        walk_at "dg"
        refine od_isN0 ?_
        walk_at "dg"
        refine ex_mkS (ex_frz 2 rfl ?_)
        walk_at "dg"
        refine ⟨_, rfl, ?_⟩
        walk_at "dg"
        refine ⟨_, rfl, ?_⟩
        walk_at "dg"
        rw [show cutD (dS ls) (some ((i : Int) + 1)) none = dS (ls.drop (i + 1)) from cut_fromS ls (i + 1)]
        have o1 : okS (ls.drop (i + 1)) := fun x hx => (hcp x (List.mem_of_mem_drop hx)).ok
        have o2 : okS [("" : Str)] := fun x hx => by rw [List.mem_singleton.mp hx]; decide +kernel
        refine od_eqLS (us := [("" : Str)]) o1 o2 ?_
        rw [← hdr2] at hgo
        by_cases he : ls.drop (i + 1) = [("" : Str)]
        · rw [if_pos he] at hgo
          rw [decide_eq_true he]
          rw [hgo] at k
          walk_at "dg"
          refine ev_split ?_
          walk_at "dg"
          refine ⟨l, rfl, ?_⟩
          walk_at "dg"
          refine ⟨_, rfl, by decide +kernel, Nat.le_trans (Nat.add_le_add_right (Nat.le_of_lt hlm) 2) (by decide), ?_⟩
          rw [sp_eq]
          walk_at "dg"
          unfold showT at hst
          split at hst
          · rename_i hS
            cases hst
            exact ⟨_, _, rfl, hal, hok, hS, k⟩
          · cases hst
        · rw [if_neg he] at hgo
          rw [decide_eq_false he]
          rw [hgo] at k
          walk_at "dg"
          exact k
    · rintro ρ' ⟨hi, _⟩
      rw [enumD_len, dS_len] at hi
      omega
end
end
/-! The law of rules as texts: a text spoilt at one place. -/
section
set_option maxRecDepth 100000
set_option maxHeartbeats 8000000

abbrev s_law_spoilt_text : Stmt := top 43
theorem sc_law_spoilt_text : FnScope ["_law_state", "_law_text_here", "_law_lines", "_law_way", "_law_k", "_law_at", "_law_words", "_law_strange", "_law_n", "_law_more", "_law_some", "_law_other", "_law_sign"] ["_law_state", "_law_text_here"] (defScope s_law_spoilt_text) := ⟨rfl, rfl, rfl, by decide +kernel, rfl, by decide +kernel, by decide +kernel⟩
section
variable {P : Program} {w : World} {K : PySem.W.Frag} {mg : Str → Option Value} {base : Heap}
section
variable {S : Sx} {ρ : List Sl} {Ψ : List D → Prop} {te : TE}
theorem evN_rev (h : EvD K S te ρ fun x => ∃ xs, x = .lst xs ∧ Ψ xs.reverse) : EvN K S (tRevL K te) ρ Ψ := fun σ F H e s dr Q q =>
  h σ F H e s dr _ fun v x F1 H1 ⟨xs, hx, h3⟩ dd g1 => by
    subst hx
    obtain ⟨a, vs, rfl, h4, h5⟩ := dd
    exact ⟨a, vs, rfl, sl_of (g1.ok _ _ h4), fun p np => q p _ _ F1 _ h3 (g1.back np) (g1.ok.free np) upd_same h5.rev (g1.newH dr np)⟩
end
def fSpoil : FD := fun ds Φ => ∃ z : Str, ds = [.drw, .str z] ∧ z.length ≤ 5000 ∧ CpOk z ∧ ∀ z', CpOk z' → z'.length ≤ 2 * z.length + 20 → Φ (.str z')
theorem okD_spoil (B : Bn mg) (C_law_take : Cal P w K mg base 2 "_law_take" ["_law_state", "_law_many"] (spD K fTake)) (C_law_one : Cal P w K mg base 3 "_law_one" ["_law_state", "_law_things"] (spD K fOne)) (Df : Def K mg "_law_spoilt_text" s_law_spoilt_text) : Cal P w K mg base 4 "_law_spoilt_text" ["_law_state", "_law_text_here"] (spD K fSpoil) := by
  refine Cal.ofD Df sc_law_spoilt_text (fun _ _ _ _ _ _ us hl => match us, hl with | [_, _], _ => rfl) (fun ds Φ h => ?_) (fun fa cdv A outer s H hr => ⟨_, (pss_cons (ps_mkS ((ps_par (i := 2) (j := 3) (by rfl) sc_law_spoilt_text.nd rfl rfl (by decide) rfl rfl (pa_cons (pe_split (pv 1) pe_str) (pa_cons (pe_fn C_law_take hr (by decide) (pa_cons (pv 0) (pa_cons pe_int pa_nil))) pa_nil)) (by rfl))))
      (pss_cons (ps_par (i := 4) (j := 5) (by rfl) sc_law_spoilt_text.nd rfl rfl (by decide) rfl rfl (pa_cons (pe_fn C_law_take hr (by decide) (pa_cons (pv 0) (pa_cons (pe_callB (n_len K) (by rfl) B.len PySem.boot_len (pa_cons (pv 2) pa_nil)) pa_nil))) (pa_cons (pe_fn C_law_take hr (by decide) (pa_cons (pv 0) (pa_cons (pe_op op_add (pe_callB (n_len K) (by rfl) B.len PySem.boot_len (pa_cons (pv 1) pa_nil)) pe_int) pa_nil))) pa_nil)) (by rfl))
      (pss_cons (ps_if (pt_cmpR op_lt (pv 3) pe_int (nomark _)) (pss_cons (ps_mkS ((ps_set (i := 6) sc_law_spoilt_text.nd rfl (Or.inl rfl) (pe_split (pe_ix (x_list K) (pv 2) (pv 4) (fun _ _ => rfl)) pe_str))))
      (pss_cons (ps_set (i := 7) sc_law_spoilt_text.nd rfl (Or.inl rfl) (pe_lst (pa_cons pe_str (pa_cons pe_str (pa_cons pe_str (pa_cons pe_str (pa_cons pe_str (pa_cons pe_str (pa_cons pe_str (pa_cons pe_str (pa_cons pe_str (pa_cons pe_str (pa_cons pe_str (pa_cons pe_str pa_nil))))))))))))))
      (pss_cons (ps_par (i := 8) (j := 9) (by rfl) sc_law_spoilt_text.nd rfl rfl (by decide) rfl rfl (pa_cons (pe_fn C_law_take hr (by decide) (pa_cons (pv 0) (pa_cons (pe_callB (n_len K) (by rfl) B.len PySem.boot_len (pa_cons (pv 6) pa_nil)) pa_nil))) (pa_cons (pe_fn C_law_one hr (by decide) (pa_cons (pv 0) (pa_cons (pv 7) pa_nil))) pa_nil)) (by rfl))
      (pss_cons (ps_mkS ((ps_set (i := 10) sc_law_spoilt_text.nd rfl (Or.inl rfl) (pe_lst (pa_cons (pe_op op_cat (pe_slice (y_list K) (pv 6) po_none (po_some (pv 8))) (pe_slice (y_list K) (pv 6) (po_some (pe_op op_add (pv 8) pe_int)) po_none)) (pa_cons (pe_op op_cat (pe_op op_cat (pe_slice (y_list K) (pv 6) po_none (po_some (pv 8))) (pe_lst (pa_cons (pv 9) pa_nil))) (pe_slice (y_list K) (pv 6) (po_some (pe_op op_add (pv 8) pe_int)) po_none)) (pa_cons (pe_op op_cat (pe_op op_cat (pe_slice (y_list K) (pv 6) po_none (po_some (pv 8))) (pe_lst (pa_cons (pv 9) pa_nil))) (pe_slice (y_list K) (pv 6) (po_some (pv 8)) po_none)) pa_nil)))))))
      (pss_cons (ps_mkS ((ps_asg (e_join K pe_str (pe_ix (x_list K) (pe_op op_cat (pv 10) (pe_lst (pa_cons (pe_revL (pv 6)) pa_nil))) (pv 3) (fun _ _ => rfl))) (pg_sub (pv 2) (pv 4) set_list))))
      (pss_one (ps_mkS ((ps_ret (e_join K pe_str (pv 2))))))))))) pss_nil)
      (pss_cons (ps_if (pt_cmpR op_lt (pv 3) pe_int (nomark _)) (pss_cons (ps_mkS ((ps_set (i := 11) sc_law_spoilt_text.nd rfl (Or.inl rfl) (pe_fn C_law_one hr (by decide) (pa_cons (pv 0) (pa_cons (pv 2) pa_nil))))))
      (pss_cons (ps_own (ps_set (i := 2) sc_law_spoilt_text.nd rfl (Or.inl rfl) (pe_op op_cat (pe_op op_cat (pe_slice (y_list K) (pv 2) po_none (po_some (pv 4))) (pe_lst (pa_cons (pv 11) pa_nil))) (pe_slice (y_list K) (pv 2) (po_some (pe_op op_add (pv 4) (pe_callTy c_int (by rfl) B.int (by decide +kernel) (pa_cons (pe_cmpR op_eq (pv 3) pe_int (nomark _)) pa_nil)))) po_none))))
      (pss_one (ps_mkS ((ps_ret (e_join K pe_str (pv 2)))))))) pss_nil)
      (pss_cons (ps_set (i := 12) sc_law_spoilt_text.nd rfl (Or.inl rfl) (pe_fn C_law_one hr (by decide) (pa_cons (pv 0) (pa_cons (pe_lst (pa_cons pe_str (pa_cons pe_str (pa_cons pe_str (pa_cons pe_str (pa_cons pe_str (pa_cons pe_str (pa_cons pe_str pa_nil)))))))) pa_nil))))
      (pss_one (ps_ret (pe_ifExp (pt_cmpR op_eq (pv 3) pe_int (nomark _)) (pe_op o_adds (pe_op o_adds (pe_slice sl_str (pv 1) po_none (po_some (pv 5))) (pv 12)) (pe_slice sl_str (pv 1) (po_some (pv 5)) po_none)) (pe_op o_adds (pe_slice sl_str (pv 1) po_none (po_some (pv 5))) (pe_slice sl_str (pv 1) (po_some (pe_op op_add (pv 5) pe_int)) po_none)))))))))), fun S ds Φ h => ?_⟩)
  · obtain ⟨_, rfl, _⟩ := h; rfl
  · obtain ⟨z, rfl, hz, hc, k⟩ := h
    have hcnt : (Txt.split z nlT).length ≤ z.length + 1 := split_count z 10
    have hpos : 0 < (Txt.split z nlT).length := List.length_pos_iff.mpr (split_ne z nlT)
    walk_at "dg"
    refine ex_mkS (ex_parNV (by decide) (Nat.le_of_ble_eq_true rfl) (Nat.le_of_ble_eq_true rfl) (evN_split ?_))
    walk_at "dg"
    refine ⟨z, rfl, ?_⟩
    walk_at "dg"
    refine ⟨_, rfl, by decide +kernel, Nat.le_trans (Nat.add_le_add_right hz 2) (by decide), ?_⟩
    rw [nl_eq]
    walk_at "dg"
    refine ⟨8, rfl, by decide, by decide, fun way hway => ?_⟩
    walk_at "dg"
    obtain ⟨ls, hls⟩ : ∃ ls, ls = Txt.split z nlT := ⟨_, rfl⟩
    rw [← hls] at hcnt hpos
    rw [← hls]
    walk_at "dg"
    rw [dS_len]
    refine ⟨(ls.length : Int), rfl, by omega, by omega, fun ki hki => ?_⟩
    have hki' : ki < ls.length := by omega
    walk_at "dg"
    refine ⟨((z.length + 1 : Nat) : Int), rfl, by omega, by omega, fun at' hat => ?_⟩
    walk_at "dg"
    refine ⟨_, _, rfl, ?_⟩
    walk_at "dg"
    have hlm : ls[ki] ∈ Txt.split z nlT := by rw [← hls]; exact List.getElem_mem hki'
    have htot : tot ls = z.length + 1 := by rw [hls]; exact split_tot z 10
    have hcl : ∀ p ∈ ls, CpOk p := fun p hp => hc.word (by rw [← show ls = Txt.split z (ch 10) from hls]; exact hp)
    have hll : ∀ p ∈ ls, p.length ≤ z.length := fun p hp => split_mem_len (by rw [← hls]; exact hp)
    obtain ⟨l, hl⟩ : ∃ l, l = ls[ki] := ⟨_, rfl⟩
    have hat1 : atI (dS ls) (ki : Int) = some (.str l) := atI_nat (by unfold dS; rw [List.getElem?_map, List.getElem?_eq_getElem hki', ← hl]; rfl)
    refine k_dec (fun h3 => ?_) (fun h3 => ?_)
    · walk_at "dg"
      refine ex_mkS (ex_set (ev_split ?_))
      walk_at "dg"
      refine ⟨_, _, rfl, hat1, l, rfl, ?_⟩
      walk_at "dg"
      have hll1 : l.length ≤ z.length := by rw [hl]; exact hll _ (List.getElem_mem _)
      have hcl1 : CpOk l := by rw [hl]; exact hcl _ (List.getElem_mem _)
      refine ⟨_, rfl, by decide +kernel, Nat.le_trans (Nat.add_le_add_right (Nat.le_trans hll1 hz) 2) (by decide), ?_⟩
      rw [sp_eq]
      obtain ⟨ws, hws⟩ : ∃ ws, ws = Txt.split l spZ := ⟨_, rfl⟩
      have hwpos : 0 < ws.length := by rw [hws]; exact List.length_pos_iff.mpr (split_ne l spZ)
      have hwt : tot ws = l.length + 1 := by rw [hws]; exact split_tot l 32
      have hwc : ∀ p ∈ ws, CpOk p := fun p hp => hcl1.word (by rw [← show ws = Txt.split l (ch 32) from hws]; exact hp)
      have hwl : ws.length ≤ 5001 := by have := split_count l 32; rw [hws]; show (Txt.split l (ch 32)).length ≤ 5001; omega
      rw [← hws]
      walk_at "dg"
      rw [dS_len]
      refine ⟨(ws.length : Int), rfl, by omega, by omega, fun nn hnn => ?_⟩
      have hnn' : nn < ws.length := by omega
      walk_at "dg"
      refine ⟨_, _, rfl, .inl rfl, Nat.le_of_ble_eq_true rfl, Nat.le_of_ble_eq_true rfl, fun dm hdm => ?_⟩
      obtain ⟨more, hm1, hm2, rfl⟩ : ∃ more : Str, more.length ≤ 9 ∧ CpOk more ∧ dm = .str more := by
        have all : ∀ w ∈ [("no" : Str), "last", "row", "lower", "show", "field", "", "A", "x1", "q", "abcdefghi", "abcdefgh"], w.length ≤ 9 ∧ CpOk w := fun w hw => by
          have := List.all_eq_true.mp (show ([("no" : Str), "last", "row", "lower", "show", "field", "", "A", "x1", "q", "abcdefghi", "abcdefgh"].all fun w => decide (w.length ≤ 9) && PyData.strOk w) = true by decide +kernel) w hw
          rw [Bool.and_eq_true] at this
          exact ⟨of_decide_eq_true this.1, .of this.2⟩
        obtain ⟨j, hj⟩ := List.getElem?_of_mem hdm
        obtain ⟨w, hw, e⟩ := dS_get (ns := [("no" : Str), "last", "row", "lower", "show", "field", "", "A", "x1", "q", "abcdefghi", "abcdefgh"]) hj
        exact ⟨w, (all w (List.mem_of_getElem? hw)).1, (all w (List.mem_of_getElem? hw)).2, e⟩
      walk_at "dg"
      refine ⟨_, _, rfl, ?_⟩
      walk_at "dg"
      show ExD K S _ [.val .drw, .val (.str z), .own (dS ls), .val (.int (way : Int)), .val (.int (ki : Int)), .val (.int (at' : Int)), .val (.lst (dS ws)), .val _, .val (.int (nn : Int)), .val (.str more), .un, .un, .un] _
      refine ex_mkS ?_
      have c1 : cutD (dS ws) none (some (nn : Int)) = dS (ws.take nn) := cut_toS ws nn
      have c2 : cutD (dS ws) (some ((nn : Int) + 1)) none = dS (ws.drop (nn + 1)) := cut_fromS ws (nn + 1)
      have c3 : cutD (dS ws) (some (nn : Int)) none = dS (ws.drop nn) := cut_fromS ws nn
      have lt : (ws.take nn).length ≤ 5001 := by rw [List.length_take]; omega
      have ld : ∀ m, (ws.drop m).length ≤ 5001 := fun m => by rw [List.length_drop]; omega
      walk_at "dg"
      refine ⟨_, rfl, ?_⟩
      walk_at "dg"
      refine ⟨_, rfl, ?_⟩
      walk_at "dg"
      refine ⟨_, rfl, ?_⟩
      walk_at "dg"
      refine ⟨_, rfl, ?_⟩
      walk_at "dg"
      rw [c1, c2]
      refine on_cat ?_ ?_
      · have := ld (nn + 1); rw [dS_len, dS_len]; omega
      rw [dS_cat]
      walk_at "dg"
      refine ⟨_, rfl, ?_⟩
      walk_at "dg"
      refine ⟨_, rfl, ?_⟩
      rw [c1]
      walk_at "dg"
      refine on_cat ?_ ?_
      · show (dS (ws.take nn)).length + 1 < 100000
        rw [dS_len]; omega
      walk_at "dg"
      rw [show dS (ws.take nn) ++ [D.str more] = dS (ws.take nn ++ [more]) from dS_cat (ws.take nn) [more]]
      refine ⟨_, rfl, ?_⟩
      walk_at "dg"
      refine ⟨_, rfl, ?_⟩
      walk_at "dg"
      rw [c2]
      refine on_cat ?_ ?_
      · have := ld (nn + 1); have := ld nn; rw [dS_len, dS_len, List.length_append, List.length_singleton]; omega
      rw [dS_cat]
      walk_at "dg"
      refine ⟨_, rfl, ?_⟩
      walk_at "dg"
      refine ⟨_, rfl, ?_⟩
      rw [c1]
      walk_at "dg"
      refine on_cat ?_ ?_
      · show (dS (ws.take nn)).length + 1 < 100000
        rw [dS_len]; omega
      walk_at "dg"
      rw [show dS (ws.take nn) ++ [D.str more] = dS (ws.take nn ++ [more]) from dS_cat (ws.take nn) [more]]
      refine ⟨_, rfl, ?_⟩
      walk_at "dg"
      refine ⟨_, rfl, ?_⟩
      walk_at "dg"
      rw [c3]
      refine on_cat ?_ ?_
      · have := ld (nn + 1); have := ld nn; rw [dS_len, dS_len, List.length_append, List.length_singleton]; omega
      rw [dS_cat]
      walk_at "dg"
      obtain ⟨news, hnews⟩ : ∃ news : List (List Str), news = [ws.take nn ++ ws.drop (nn + 1), ws.take nn ++ [more] ++ ws.drop (nn + 1), ws.take nn ++ [more] ++ ws.drop nn, ws.reverse] := ⟨_, rfl⟩
      have hnl : ∀ w2 ∈ news, (∀ p ∈ w2, CpOk p) ∧ tot w2 ≤ l.length + 11 ∧ w2.length ≤ 10100 := by
        have hm : ∀ {p : Str} {q : Nat}, p ∈ ws.take q → CpOk p := fun h => hwc _ (List.mem_of_mem_take h)
        have hd : ∀ {p : Str} {q : Nat}, p ∈ ws.drop q → CpOk p := fun h => hwc _ (List.mem_of_mem_drop h)
        have t1 := tot_td ws nn
        have t2 := tot_drop ws nn (nn + 1) (Nat.le_succ _)
        have l1 := ld (nn + 1)
        have l2 := ld nn
        intro w2 hw2
        rw [hnews] at hw2
        simp only [List.mem_cons, List.not_mem_nil, or_false] at hw2
        rcases hw2 with rfl | rfl | rfl | rfl
        · refine ⟨fun p hp => ?_, ?_, ?_⟩
          · rcases List.mem_append.mp hp with h | h
            · exact hm h
            · exact hd h
          · rw [tot_app]; omega
          · rw [List.length_append]; omega
        · refine ⟨fun p hp => ?_, ?_, ?_⟩
          · rcases List.mem_append.mp hp with h | h
            · rcases List.mem_append.mp h with h | h
              · exact hm h
              · rw [List.mem_singleton.mp h]; exact hm2
            · exact hd h
          · rw [tot_app, tot_app, tot_cons, tot_nil]; omega
          · rw [List.length_append, List.length_append, List.length_singleton]; omega
        · refine ⟨fun p hp => ?_, ?_, ?_⟩
          · rcases List.mem_append.mp hp with h | h
            · rcases List.mem_append.mp h with h | h
              · exact hm h
              · rw [List.mem_singleton.mp h]; exact hm2
            · exact hd h
          · rw [tot_app, tot_app, tot_cons, tot_nil]; omega
          · rw [List.length_append, List.length_append, List.length_singleton]; omega
        · refine ⟨fun p hp => hwc p (List.mem_reverse.mp hp), ?_, by rw [List.length_reverse]; omega⟩
          have : tot ws.reverse = tot ws := by
            unfold tot
            rw [List.map_reverse, List.sum_reverse, List.length_reverse]
          omega
      have h3' : way < 4 := by omega
      have hwl3 : way < news.length := by rw [hnews]; exact h3'
      obtain ⟨w2, hw2⟩ : ∃ w2, news[way]? = some w2 := ⟨_, List.getElem?_eq_getElem hwl3⟩
      obtain ⟨q1, q2, q3⟩ := hnl w2 (List.mem_of_getElem? hw2)
      have hq : CpOk (Str.join spZ w2) := .join (by decide) q1
      have hql : (Str.join spZ w2).length ≤ l.length + 10 := by have := join_tot (c := 32) (ps := w2); show (Str.join (ch 32) w2).length ≤ _; omega
      have hatw : atI [D.lst (dS (ws.take nn ++ ws.drop (nn + 1))), D.lst (dS (ws.take nn ++ [more] ++ ws.drop (nn + 1))), D.lst (dS (ws.take nn ++ [more] ++ ws.drop nn)), D.lst (dS ws.reverse)] (way : Int) = some (.lst (dS w2)) := by
        refine atI_nat ?_
        have e : [D.lst (dS (ws.take nn ++ ws.drop (nn + 1))), D.lst (dS (ws.take nn ++ [more] ++ ws.drop (nn + 1))), D.lst (dS (ws.take nn ++ [more] ++ ws.drop nn)), D.lst (dS ws.reverse)] = news.map fun w => D.lst (dS w) := by rw [hnews]; rfl
        rw [e, List.getElem?_map, hw2]
        rfl
      refine ex_mkS (ex_setO (i := 2) rfl (ev_join ?_))
      walk_at "dg"
      refine ⟨_, rfl, ?_⟩
      walk_at "dg"
      refine ev_new (evN_rev ?_)
      walk_at "dg"
      refine ⟨_, rfl, ?_⟩
      rw [show (dS ws).reverse = dS ws.reverse by unfold dS; rw [List.map_reverse]]
      walk_at "dg"
      refine od_ixl hatw ?_
      refine ⟨w2, .inl rfl, ?_, ?_⟩
      · have : tot w2 = (w2.map (·.length)).sum + w2.length := rfl
        show _ + _ * 1 ≤ _
        omega
      walk_at "dg"
      refine ⟨ki, rfl, by rw [dS_len]; exact hki', ?_⟩
      have e : (dS ls).set ki (.str (Str.join spZ w2)) = dS (ls.set ki (Str.join spZ w2)) := by unfold dS; rw [List.map_set]
      rw [e]
      walk_at "dg"
      refine ex_mkS (ex_frz 2 rfl ?_)
      walk_at "dg"
      have h4 := tot_set ls ki (Str.join spZ w2)
      have h6 : tot (ls.set ki (Str.join spZ w2)) = ((ls.set ki (Str.join spZ w2)).map (·.length)).sum + (ls.set ki (Str.join spZ w2)).length := rfl
      refine ev_join ?_
      walk_at "dg"
      refine ⟨_, rfl, ?_⟩
      walk_at "dg"
      refine ⟨_, .inl rfl, ?_, k _ (.join (by decide) fun p hp => ?_) ?_⟩
      · show _ + _ * 1 ≤ _
        omega
      · rcases List.mem_or_eq_of_mem_set hp with h | h
        · exact hcl p h
        · rw [h]; exact hq
      · have := join_tot (c := 10) (ps := ls.set ki (Str.join spZ w2))
        show (Str.join (ch 10) _).length ≤ _
        omega
    · walk_at "dg"
      refine k_dec (fun h4 => ?_) (fun h4 => ?_)
      · walk_at "dg"
        refine ex_mkS (ex_frz 2 rfl ?_)
        walk_at "dg"
        refine ⟨_, _, rfl, .inl rfl, by rw [dS_len]; omega, by rw [dS_len]; omega, fun dl hdl => ?_⟩
        obtain ⟨j, hj⟩ := List.getElem?_of_mem hdl
        obtain ⟨nl, hnl, rfl⟩ := dS_get hj
        have hnm : nl ∈ ls := List.mem_of_getElem? hnl
        walk_at "dg"
        refine ⟨_, rfl, ?_⟩
        walk_at "dg"
        refine ⟨_, rfl, ?_⟩
        rw [cut_toS ls ki]
        walk_at "dg"
        refine on_cat ?_ ?_
        · show (dS (ls.take ki)).length + 1 < 100000
          rw [dS_len, List.length_take]; omega
        walk_at "dg"
        rw [show dS (ls.take ki) ++ [D.str nl] = dS (ls.take ki ++ [nl]) from dS_cat (ls.take ki) [nl]]
        refine ⟨_, rfl, ?_⟩
        walk_at "dg"
        refine ⟨_, rfl, ?_⟩
        walk_at "dg"
        obtain ⟨kk, hkk, hkl⟩ : ∃ kk : Nat, ((ki : Int) + if decide ((way : Int) = 4) = true then 1 else 0) = (kk : Int) ∧ ki ≤ kk := by
          cases decide ((way : Int) = 4) with
          | true => exact ⟨ki + 1, rfl, Nat.le_succ _⟩
          | false => exact ⟨ki, by simp, Nat.le_refl _⟩
        rw [hkk, cut_fromS ls kk]
        refine on_cat ?_ ?_
        · rw [dS_len, dS_len, List.length_append, List.length_take, List.length_drop, List.length_singleton]; omega
        rw [dS_cat]
        have hnl := hll nl hnm
        have hn1 : ∀ p ∈ ls.take ki ++ [nl] ++ ls.drop kk, CpOk p := fun p hp => by
          rcases List.mem_append.mp hp with h | h
          · rcases List.mem_append.mp h with h | h
            · exact hcl _ (List.mem_of_mem_take h)
            · rw [List.mem_singleton.mp h]; exact hcl _ hnm
          · exact hcl _ (List.mem_of_mem_drop h)
        have hn2 : tot (ls.take ki ++ [nl] ++ ls.drop kk) ≤ 2 * z.length + 10 := by
          rw [tot_app, tot_app, tot_cons, tot_nil]
          have h7 := tot_td ls ki
          have h8 := tot_drop ls ki kk hkl
          omega
        have hn3 : (ls.take ki ++ [nl] ++ ls.drop kk).length ≤ 2 * z.length + 10 := by unfold tot at hn2; omega
        show ExD K S _ _ _
        refine ex_mkS (ex_frz 2 rfl ?_)
        walk_at "dg"
        refine ev_join ?_
        walk_at "dg"
        refine ⟨_, rfl, ?_⟩
        walk_at "dg"
        refine ⟨_, .inl rfl, ?_, k _ (.join (by decide) hn1) ?_⟩
        · have h6 : tot (ls.take ki ++ [nl] ++ ls.drop kk) = ((ls.take ki ++ [nl] ++ ls.drop kk).map (·.length)).sum + (ls.take ki ++ [nl] ++ ls.drop kk).length := rfl
          show _ + _ * 1 ≤ _
          omega
        · have := join_tot (c := 10) (ps := ls.take ki ++ [nl] ++ ls.drop kk)
          show (Str.join (ch 10) _).length ≤ _
          omega
      · walk_at "dg"
        refine ⟨_, _, rfl, .inl rfl, Nat.le_of_ble_eq_true rfl, Nat.le_of_ble_eq_true rfl, fun dm hdm => ?_⟩
        obtain ⟨sg, hs1, hs2, rfl⟩ : ∃ sg : Str, sg.length ≤ 5 ∧ CpOk sg ∧ dm = .str sg := by
          obtain ⟨j, hj⟩ := List.getElem?_of_mem hdm
          obtain ⟨w, hw, e⟩ := dS_get (ns := [(" " : Str), nlT, "a", "_", "0", "~", "A"]) hj
          have := List.all_eq_true.mp (show ([(" " : Str), nlT, "a", "_", "0", "~", "A"].all fun w => decide (w.length ≤ 5) && PyData.strOk w) = true by decide +kernel) w (List.mem_of_getElem? hw)
          rw [Bool.and_eq_true] at this
          exact ⟨w, of_decide_eq_true this.1, .of this.2, e⟩
        walk_at "dg"
        have za : ∀ lo hi, (cutS z lo hi).length ≤ 5000 := fun lo hi => Nat.le_trans (cutS_length z lo hi) hz
        have zl : ∀ lo hi, (cutS z lo hi).length ≤ z.length := fun lo hi => cutS_length z lo hi
        have zt : ∀ n : Nat, CpOk (cutS z none (some (n : Int))) := fun n => hc.sub fun c h => List.mem_of_mem_take (by rw [← cutS_to]; exact h)
        have zf : ∀ n : Nat, CpOk (cutS z (some (n : Int)) none) := fun n => hc.sub fun c h => List.mem_of_mem_drop (by rw [← cutS_from]; exact h)
        refine k_dec (fun h5 => ?_) (fun h5 => ?_)
        · walk_at "dg"
          refine ev_slS ?_
          walk_at "dg"
          refine ⟨z, rfl, by omega, ?_⟩
          walk_at "dg"
          refine ⟨_, rfl, ?_⟩
          walk_at "dg"
          refine od_adds ?_ ?_
          · have := za none (some (at' : Int)); omega
          refine ev_slS ?_
          walk_at "dg"
          refine ⟨z, rfl, by omega, ?_⟩
          walk_at "dg"
          refine ⟨_, rfl, ?_⟩
          walk_at "dg"
          refine od_adds ?_ ?_
          · have := za none (some (at' : Int)); have := za (some (at' : Int)) none; rw [Str.length_append]; omega
          refine k _ (((zt at').app hs2).app (zf at')) ?_
          rw [Str.length_append, Str.length_append]
          have := zl none (some (at' : Int)); have := zl (some (at' : Int)) none
          omega
        · walk_at "dg"
          refine ev_slS ?_
          walk_at "dg"
          refine ⟨z, rfl, by omega, ?_⟩
          walk_at "dg"
          refine ⟨_, rfl, ?_⟩
          refine ev_slS ?_
          walk_at "dg"
          refine ⟨z, rfl, by omega, ?_⟩
          walk_at "dg"
          refine ⟨_, rfl, ?_⟩
          walk_at "dg"
          refine od_adds ?_ ?_
          · have := za none (some (at' : Int)); have := za (some ((at' : Int) + 1)) none; omega
          refine k _ ((zt at').app (zf (at' + 1))) ?_
          rw [Str.length_append]
          have := zl none (some (at' : Int)); have := zl (some ((at' : Int) + 1)) none
          omega
end
end
/-! The law of rules as texts. -/
section
set_option maxRecDepth 100000
set_option maxHeartbeats 1000000

abbrev s_law_text : Stmt := top 36
theorem sc_law_text : FnScope ["_law_rows", "_law_shown", "_law_row"] ["_law_rows", "_law_shown"] (defScope s_law_text) := ⟨rfl, rfl, rfl, by decide +kernel, rfl, by decide +kernel, by decide +kernel⟩
abbrev slaw : Stmt := top 44
theorem sclaw : FnScope ["_law_script", "_law_state", "_law_turn", "_law_rows", "_law_shown", "_law_text_here", "_law_called", "_law_row", "_law_k", "_law_again", "_law_found", "_law_lone", "_law_texts", "_law_long", "_law_due_here"] ["_law_script"] (defScope slaw) := ⟨rfl, rfl, rfl, by decide +kernel, rfl, by decide +kernel, by decide +kernel⟩
section
variable {P : Program} {w : World} {K : PySem.W.Frag} {mg : Str → Option Value} {base : Heap} {Yr : Ra} {XBadText XBadRule : Addr} {T' : List (Addr × Str)}
def linesS (rows : List (List Str)) : Str := Str.join "" (rows.map fun f => lineS f ++ nlT)
theorem linesS_ok {rows : List (List Str)} (h : ∀ f ∈ rows, ShortF f) : (linesS rows).length ≤ rows.length * 144 ∧ CpOk (linesS rows) := by
  refine ⟨?_, .join0 fun p hp => ?_⟩
  · have := sum_le (ws := rows.map fun f => lineS f ++ nlT) (n := 144) fun x hx => by
      obtain ⟨f, hf, rfl⟩ := List.mem_map.mp hx
      have := (h f hf).lineS.1
      rw [Str.length_append]
      show _ + 1 ≤ _
      omega
    unfold linesS
    rw [join0_len]
    rw [List.length_map] at this
    exact this
  · obtain ⟨f, hf, rfl⟩ := List.mem_map.mp hp
    exact (h f hf).lineS.2.app (.of (by decide +kernel))
def fTextL : FD := fun ds Φ => ∃ (rows : List (List Str)) (way nm : Str), ds = [.lst (rows.map dF), .tup [.str way, .str nm]] ∧ rows.length ≤ 4 ∧ (∀ f ∈ rows, ShortF f) ∧ (way.length ≤ 10 ∧ CpOk way) ∧ (nm.length ≤ 10 ∧ CpOk nm) ∧ ∀ z, z.length ≤ 700 → CpOk z → Φ (.str z)
theorem okD_text (B : Bn mg) (C_law_line : Cal P w K mg base 1 "_law_line" ["_law_row"] (spD K fLine)) (Df : Def K mg "_law_text" s_law_text) : Cal P w K mg base 2 "_law_text" ["_law_rows", "_law_shown"] (spD K fTextL) := by
  refine Cal.ofD Df sc_law_text (fun _ _ _ _ _ _ us hl => match us, hl with | [_, _], _ => rfl) (fun ds Φ h => ?_) (fun fa cdv A outer s H hr => ⟨_, (pss_one (ps_ret (pe_op o_adds (pe_op o_adds (pe_op o_adds (pe_op o_adds (pe_op o_adds (e_join K pe_str (pe_lc (own := [("_law_row", 2)]) (g := (gName 2)) rfl sc_law_text.nd (q_seq K (pv 0)) (blkOk_by (own := [("_law_row", 2)]) (N := ["_law_rows", "_law_shown", "_law_row"]) (sc := defScope s_law_text) (by decide +kernel)) (fun _ _ _ _ _ => (pg_name (i := 2) sc_law_text.nd rfl (Or.inl rfl) (.inr rfl))) (fun _ _ _ _ _ => pts_nil) (fun _ _ _ _ _ => (pe_op o_adds (pe_fn C_law_line hr (by decide) (pa_cons (pv 2) pa_nil)) pe_str)))) pe_str) (pe_ix (x_tup K) (pv 1) pe_int (fun _ _ => rfl))) pe_str) (pe_ix (x_tup K) (pv 1) pe_int (fun _ _ => rfl))) pe_str))), fun S ds Φ h => ?_⟩)
  · obtain ⟨_, _, _, rfl, _⟩ := h; rfl
  · obtain ⟨rows, way, nm, rfl, hl, hs, hw, hn, k⟩ := h
    have hatw : atI [D.str way, D.str nm] 0 = some (.str way) := rfl
    have hatn : atI [D.str way, D.str nm] 1 = some (.str nm) := rfl
    walk_at "dg"
    refine ev_join ?_
    walk_at "dg"
    refine ⟨_, rfl, ?_⟩
    walk_at "dg"
    refine lc_m rows dF (fun f => .str (lineS f ++ nlT)) rfl (by omega) (fun g hg => ?_) ?_
    · walk_at "dg"
      refine ⟨g, rfl, hs g hg, ?_⟩
      have hq1 := (hs g hg).lineS.1
      obtain ⟨q, hq⟩ : ∃ q, q = lineS g := ⟨_, rfl⟩
      rw [← hq] at hq1 ⊢
      show EvD K S _ _ _
      refine ev_c ?_
      refine od_adds ?_ rfl
      show _ + 1 < _
      omega
    rw [show rows.map (fun f => D.str (lineS f ++ nlT)) = dS (rows.map fun f => lineS f ++ nlT) by unfold dS; rw [List.map_map]; rfl]
    obtain ⟨hz1, hz2⟩ := linesS_ok hs
    refine ⟨_, .inl rfl, ?_, ?_⟩
    · show _ + _ * 0 ≤ _
      have := join0_len (rows.map fun f => lineS f ++ nlT)
      unfold linesS at hz1
      omega
    show EvD K S _ _ _
    obtain ⟨q, hq⟩ : ∃ q, q = linesS rows := ⟨_, rfl⟩
    rw [show Str.join (Str.ofString "") (rows.map fun f => lineS f ++ nlT) = q from hq.symm]
    rw [← hq] at hz1 hz2
    clear hq
    have h1 := hw.1
    have h2 := hn.1
    refine ev_c ?_
    refine od_adds (by show q.length + 5 < _; omega) ?_
    walk_at "dg"
    refine od_adds (by rw [Str.length_append]; show q.length + 5 + _ < _; omega) ?_
    refine ev_c ?_
    refine od_adds (by rw [Str.length_append, Str.length_append]; show q.length + 5 + _ + 1 < _; omega) ?_
    walk_at "dg"
    refine od_adds (by rw [Str.length_append, Str.length_append, Str.length_append]; show q.length + 5 + _ + 1 + _ < _; omega) ?_
    refine ev_c ?_
    refine od_adds (by rw [Str.length_append, Str.length_append, Str.length_append, Str.length_append]; show q.length + 5 + _ + 1 + _ + 1 < _; omega) ?_
    have o : ∀ s : Str, PyData.strOk s = true → CpOk s := fun _ h => .of h
    refine k _ ?_ (((((hz2.app (o _ (by decide +kernel))).app hw.2).app (o _ (by decide +kernel))).app hn.2).app (o _ (by decide +kernel)))
    rw [Str.length_append, Str.length_append, Str.length_append, Str.length_append, Str.length_append]
    show q.length + 5 + _ + 1 + _ + 1 ≤ _
    omega
theorem shortF_of {f : List Str} (h : OkF f) : ShortF f := ⟨h.len, fun x hx => by
  have hw := okF_w h x hx
  have h8 : x.length ≤ 8 := by
    unfold isW at hw
    rw [Bool.and_eq_true, Bool.and_eq_true] at hw
    exact of_decide_eq_true hw.2.1
  exact ⟨by omega, .of (isW_ok hw)⟩⟩
theorem shortW {x : Str} (hw : isW x = true) : x.length ≤ 10 ∧ CpOk x := by
  have h8 : x.length ≤ 8 := by
    have h := hw
    unfold isW at h
    rw [Bool.and_eq_true, Bool.and_eq_true] at h
    exact of_decide_eq_true h.2.1
  exact ⟨by omega, .of (isW_ok hw)⟩
theorem ofT_made {z : Str} {rows : List (List Str)} {way nm : Str} (h : ofT z = .made rows way nm) : rows.length ≤ 3 ∧ (∀ f ∈ rows, OkF f) ∧ way ∈ waysL ∧ isW nm = true := by
  unfold ofT at h
  cases hr : readL z with
  | inl n => rw [hr] at h; cases h
  | inr r =>
    rw [hr] at h
    dsimp only at h
    obtain ⟨h1, h2, h3, h4, h5⟩ := dueL_ok hr (fun _ h => nomatch h) (by decide)
    cases hd : dupF [] r.1 with
    | some n => rw [hd] at h; cases h
    | none =>
      rw [hd] at h
      dsimp only at h
      split at h
      · cases h; exact ⟨h2, h1, h4, h5⟩
      · cases h
theorem okD_dF {f : List Str} (h : OkF f) : okD 2 (dF f) = true := by
  show (((dS f).all (okD 1)) && decide ((dS f).length < 100000)) = true
  rw [Bool.and_eq_true]
  refine ⟨List.all_eq_true.mpr fun d hd => ?_, decide_eq_true (by rw [dS_len, h.len]; decide)⟩
  obtain ⟨x, _, rfl⟩ := List.mem_map.mp hd
  rfl
theorem endO_ok (z : Str) : smB (okD 3) (endO (ofT z)) = true := by
  cases h : ofT z with
  | txt k => rfl
  | rul k => rfl
  | shw => rfl
  | made rows way nm =>
    obtain ⟨h1, h2, _⟩ := ofT_made h
    have e : okD 3 (.lst (rows.map dF)) = true := by
      show (((rows.map dF).all (okD 2)) && decide ((rows.map dF).length < 100000)) = true
      rw [Bool.and_eq_true]
      refine ⟨List.all_eq_true.mpr fun d hd => ?_, decide_eq_true (by rw [List.length_map]; omega)⟩
      obtain ⟨f, hf, rfl⟩ := List.mem_map.mp hd
      exact okD_dF (h2 f hf)
    show ((okD 3 (.str "made") && (okD 3 (.lst (rows.map dF)) && (okD 3 (.tup [.str way, .str nm]) && true))) && true) = true
    rw [e]
    rfl
def qxA (lo : Str) : List Str := [("" : Str), "\n", "show stay a\n", lo, Txt.mul lo ((3 : Nat) : Int), Txt.mul lo ((4 : Nat) : Int), lo ++ "show stay b\n"]
def qxB (lb lo : Str) : List Str := [lb ++ "\nshow stay a\n", lo ++ "show stay abcdefghi\n"]
def qxC (lo : Str) : List Str := [lo ++ "show stay a\n\n", Txt.mul lo ((2 : Nat) : Int) ++ "no\n", lo ++ "show stay a\n" ++ lo]
def endsW : List OT := [.txt 1, .txt 1, .txt 1, .txt 2, .txt 4, .txt 4, .shw, .rul 1, .txt 1, .txt 2, .txt 3, .txt 3, .txt 3]
def eqOT : OT → OT → Bool
  | .txt a, .txt b => decide (a = b)
  | .rul a, .rul b => decide (a = b)
  | .shw, .shw => true
  | _, _ => false
theorem eqOT_ok : ∀ {a b : OT}, eqOT a b = true → a = b
  | .txt _, .txt _, h => by rw [of_decide_eq_true h]
  | .rul _, .rul _, h => by rw [of_decide_eq_true h]
  | .shw, .shw, _ => rfl
def eqOTs : List OT → List OT → Bool
  | [], [] => true
  | a :: as, b :: bs => eqOT a b && eqOTs as bs
  | _, _ => false
theorem eqOTs_ok : ∀ {a b : List OT}, eqOTs a b = true → a = b
  | [], [], _ => rfl
  | _ :: _, _ :: _, h => by
    obtain ⟨h1, h2⟩ := Bool.and_eq_true_iff.mp h
    rw [eqOT_ok h1, eqOTs_ok h2]
def laS : Str := lineS ["a", "no", "no", "no", "no", "no", "exact"]
def lbS : Str := lineS ["abcdefghi", "no", "no", "no", "no", "no", "exact"]
def loS : Str := laS ++ "\n"
def qxX (lb lo : Str) : List Str := qxA lo ++ [Txt.mul lo ((2 : Nat) : Int) ++ "show stay a\n"] ++ (qxB lb lo ++ qxC lo)
theorem qxX_len : (qxX lbS loS).all (fun z => decide (z.length ≤ 1000)) = true := by decide +kernel
theorem qxA_ends : (qxA loS).map ofT = [.txt 1, .txt 1, .txt 1, .txt 2, .txt 4, .txt 4, .shw] := eqOTs_ok (by decide +kernel)
theorem qxB_ends : (qxB lbS loS).map ofT = [.txt 1, .txt 2] := eqOTs_ok (by decide +kernel)
theorem qxC_ends : (qxC loS).map ofT = [.txt 3, .txt 3, .txt 3] := eqOTs_ok (by decide +kernel)
theorem qxD_ends : ofT (Txt.mul loS ((2 : Nat) : Int) ++ "show stay a\n") = .rul 1 := eqOT_ok (by decide +kernel)
theorem qxX_ends : (qxX lbS loS).map ofT = endsW := by
  unfold qxX
  rw [List.map_append, List.map_append, List.map_append, qxA_ends, qxB_ends, qxC_ends, List.map_cons, List.map_nil, qxD_ends]
  rfl
theorem loS_mul : (Txt.mul loS ((2 : Nat) : Int)).length ≤ 200 := by decide +kernel
theorem loS_len : loS.length ≤ 90 := by decide +kernel
theorem okP_of_text (CARule_of_text : CalCmA P w K mg base (L2.CX P w) 6 Yr.R "of_text" "Rule.of_text" sRule_of_text ["cls", "text"] (spX K (fOfTextX Yr XBadText XBadRule))) : CalCm P w K mg base (L2.CX P w) 6 Yr.R "of_text" ["cls", "text"] (spX K (fOfTextX Yr XBadText XBadRule)) := by
  exact CARule_of_text.c fun _ _ _ _ _ _ us hl => match us, hl with | [_, _], _ => rfl
theorem ok_law (B : Bn mg) (Ur : Tr K mg Yr)
    (C_law_fresh : Cal P w K mg base 1 "_law_fresh" ["_law_script"] (spFresh K)) (C_law_take : Cal P w K mg base 2 "_law_take" ["_law_state", "_law_many"] (spD K fTake))
    (C_law_rule : Cal P w K mg base 5 "_law_rule" ["_law_state"] (spC K fRuleX)) (C_law_field : Cal P w K mg base 4 "_law_field" ["_law_state", "_law_called"] (spD K fField)) (C_law_line : Cal P w K mg base 1 "_law_line" ["_law_row"] (spD K fLine)) (C_law_text : Cal P w K mg base 2 "_law_text" ["_law_rows", "_law_shown"] (spD K fTextL))
    (C_law_spoilt_text : Cal P w K mg base 4 "_law_spoilt_text" ["_law_state", "_law_text_here"] (spD K fSpoil)) (C_law_due : Cal P w K mg base 3 "_law_due" ["_law_text_here"] (spD K fDueO))
    (C_law_same : Cal P w K mg base 5 "_law_same" ["_law_found", "_law_due_here"] (spD K (fSm (okD 3)))) (CT_law_tried : CalT P w K mg base 2 "_law_tried" "_law_ask" (TTd K (fTriedO Yr XBadText XBadRule)))
    (CXRule_of_text : CalCm P w K mg base (L2.CX P w) 6 Yr.R "of_text" ["cls", "text"] (spX K (fOfTextX Yr XBadText XBadRule)))
    {f₀ : Addr} {fd : FuncData} {c Pt : Addr} (F : FunD K "law" "law" (defArgs slaw) (defBody slaw) (defScope slaw) [] [] f₀ fd) (hc : fd.code = .ref c) (L : LamT base mg T' "law" c Pt) : FnOk P w K mg base CX0 12 f₀ fd ["_law_script"] (spLawT K T') := by
  have LT := L
  refine law_ofL F hc L sclaw 13 rfl (fun fa A outer s H hr => ⟨_, (pss_cons (ps_set (i := 1) sclaw.nd rfl (Or.inr rfl) (pe_fn C_law_fresh hr (by decide) (pa_cons (pv 0) pa_nil)))
      (pss_cons (ps_for PassesOwn.never rfl (p_range1 B.range (pa_cons pe_int pa_nil)) (pg_name (i := 2) sclaw.nd rfl (Or.inl rfl)) (pss_cons (ps_mkS ((ps_asg (pe_fn C_law_rule hr (by decide) (pa_cons (pv 1) pa_nil)) (pg_tup rfl (pgs_cons (pg_name (i := 3) sclaw.nd rfl (Or.inl rfl)) (pgs_cons (pg_name (i := 4) sclaw.nd rfl (Or.inl rfl)) pgs_nil))))))
      (pss_cons (ps_set (i := 5) sclaw.nd rfl (Or.inr rfl) (pe_fn C_law_text hr (by decide) (pa_cons (pv 3) (pa_cons (pv 4) pa_nil))))
      (pss_cutL (ps_if (pt_cmpR op_eq (pe_fn C_law_take hr (by decide) (pa_cons (pv 1) (pa_cons pe_int pa_nil))) pe_int (nomark _)) (pss_cons (ps_setLc (i := 3) (own := [("_law_called", 6)]) (g := (gName 6)) rfl sclaw.nd rfl rfl (sw_true rfl rfl rfl (by decide +kernel)) (q_seq K (pe_tup (pa_cons pe_str (pa_cons pe_str (pa_cons pe_str (pa_cons pe_str pa_nil)))))) (blkOk_by (own := [("_law_called", 6)]) (N := ["_law_script", "_law_state", "_law_turn", "_law_rows", "_law_shown", "_law_text_here", "_law_called", "_law_row", "_law_k", "_law_again", "_law_found", "_law_lone", "_law_texts", "_law_long", "_law_due_here"]) (sc := defScope slaw) (by decide +kernel)) (fun _ _ _ _ _ => (pg_name (i := 6) sclaw.nd rfl (Or.inl rfl) (.inr rfl))) (fun _ _ _ _ _ => pts_nil) (fun _ _ _ _ _ => (pe_fn C_law_field hr (by decide) (pa_cons (pv 1) (pa_cons (pv 6) pa_nil)))))
      (pss_one (ps_set (i := 5) sclaw.nd rfl (Or.inr rfl) (pe_op o_adds (e_join K pe_str (pe_lc (own := [("_law_row", 7)]) (g := (gName 7)) rfl sclaw.nd (q_seq K (pv 3)) (blkOk_by (own := [("_law_row", 7)]) (N := ["_law_script", "_law_state", "_law_turn", "_law_rows", "_law_shown", "_law_text_here", "_law_called", "_law_row", "_law_k", "_law_again", "_law_found", "_law_lone", "_law_texts", "_law_long", "_law_due_here"]) (sc := defScope slaw) (by decide +kernel)) (fun _ _ _ _ _ => (pg_name (i := 7) sclaw.nd rfl (Or.inl rfl) (.inr rfl))) (fun _ _ _ _ _ => pts_nil) (fun _ _ _ _ _ => (pe_op o_adds (pe_fn C_law_line hr (by decide) (pa_cons (pv 7) pa_nil)) pe_str)))) pe_str)))) pss_nil)
      (pss_cons (ps_for PassesOwn.never rfl (p_range1 B.range (pa_cons (pe_fn C_law_take hr (by decide) (pa_cons (pv 1) (pa_cons pe_int pa_nil))) pa_nil)) (pg_name (i := 8) sclaw.nd rfl (Or.inl rfl)) (pss_one (ps_set (i := 5) sclaw.nd rfl (Or.inr rfl) (pe_fn C_law_spoilt_text hr (by decide) (pa_cons (pv 1) (pa_cons (pv 5) pa_nil))))))
      (pss_cutL (ps_if (pt_cmpR op_eq (pe_fn C_law_take hr (by decide) (pa_cons (pv 1) (pa_cons pe_int pa_nil))) pe_int (nomark _)) (pss_one (ps_set (i := 5) sclaw.nd rfl (Or.inr rfl) (pe_slice sl_str (pv 5) po_none (po_some (pe_un un_neg pe_int))))) pss_nil)
      (pss_one (ps_for PassesOwn.never rfl (p_range1 B.range (pa_cons pe_int pa_nil)) (pg_name (i := 9) sclaw.nd rfl (Or.inl rfl)) (pss_cons (ps_set (i := 10) sclaw.nd rfl (Or.inl rfl) (pe_lam CT_law_tried (by decide) LT.tb LT.mem LT.uni hr (LamX.lamS_by (sc := defScope slaw) (by decide +kernel)) (fun A2 outer2 s2 H2 E2 f2 c2 hr => (pe_cm (pe_glob (v := .ref Yr.R) rfl Ur.mg rfl) CXRule_of_text hr (by decide) tkLam.pass (pa_cons (pv 5) pa_nil)))))
      (pss_one (ps_if (pt_not (pt_val (pe_fn C_law_same hr (by decide) (pa_cons (pv 10) (pa_cons (pe_fn C_law_due hr (by decide) (pa_cons (pv 5) pa_nil)) pa_nil))))) (pss_one (ps_ret pe_bl)) pss_nil)))))))))))
      (pss_cons (ps_set (i := 11) sclaw.nd rfl (Or.inl rfl) (pe_op o_adds (pe_fn C_law_line hr (by decide) (pa_cons (pe_tup (pa_cons pe_str (pa_cons pe_str (pa_cons pe_str (pa_cons pe_str (pa_cons pe_str (pa_cons pe_str (pa_cons pe_str pa_nil)))))))) pa_nil)) pe_str))
      (pss_cons (ps_own (ps_set (i := 10) sclaw.nd rfl (Or.inl rfl) (pe_lst pa_nil)))
      (pss_cons (ps_set (i := 12) sclaw.nd rfl (Or.inl rfl) (pe_lst (pa_cons pe_str (pa_cons pe_str (pa_cons pe_str (pa_cons (pv 11) (pa_cons (pe_op o_muls (pv 11) pe_int) (pa_cons (pe_op o_muls (pv 11) pe_int) (pa_cons (pe_op o_adds (pv 11) pe_str) pa_nil)))))))))
      (pss_cons (ps_mkS ((ps_set (i := 13) sclaw.nd rfl (Or.inl rfl) (pe_lst (pa_cons (pe_op o_adds (pe_fn C_law_line hr (by decide) (pa_cons (pe_op (o_catA K) (pe_op (o_catA K) (pe_tup (pa_cons pe_str pa_nil)) (pe_op (o_repA K) (pe_tup (pa_cons pe_str pa_nil)) pe_int)) (pe_tup (pa_cons pe_str pa_nil))) pa_nil)) pe_str) (pa_cons (pe_op o_adds (pv 11) pe_str) pa_nil))))))
      (pss_cons (ps_mkS ((ps_set (i := 13) sclaw.nd rfl (Or.inl rfl) (pe_op op_cat (pv 13) (pe_lst (pa_cons (pe_op o_adds (pv 11) pe_str) (pa_cons (pe_op o_adds (pe_op o_muls (pv 11) pe_int) pe_str) (pa_cons (pe_op o_adds (pe_op o_adds (pv 11) pe_str) (pv 11)) pa_nil))))))))
      (pss_cons (ps_mkS ((ps_for PassesOwn.never rfl (q_seq K (pe_op op_cat (pe_op op_cat (pv 12) (pe_lst (pa_cons (pe_op o_adds (pe_op o_muls (pv 11) pe_int) pe_str) pa_nil))) (pv 13))) (pg_name (i := 5) sclaw.nd rfl (Or.inr rfl)) (pss_one (ps_expr (e_bm K PySem.F.plainAttrs_list PySem.F.slot_list_append PySem.F.type_list_append mt_append (pv 10) (pa_cons (pe_lam CT_law_tried (by decide) LT.tb LT.mem LT.uni hr (LamX.lamS_by (sc := defScope slaw) (by decide +kernel)) (fun A2 outer2 s2 H2 E2 f2 c2 hr => (pe_cm (pe_glob (v := .ref Yr.R) rfl Ur.mg rfl) CXRule_of_text hr (by decide) tkLam.pass (pa_cons (pv 5) pa_nil)))) pa_nil)))))))
      (pss_cons (ps_mkS ((ps_set (i := 14) sclaw.nd rfl (Or.inl rfl) (pe_lst (pa_cons (pe_tup (pa_cons pe_str (pa_cons pe_int pa_nil))) (pa_cons (pe_tup (pa_cons pe_str (pa_cons pe_int pa_nil))) (pa_cons (pe_tup (pa_cons pe_str (pa_cons pe_int pa_nil))) (pa_cons (pe_tup (pa_cons pe_str (pa_cons pe_int pa_nil))) (pa_cons (pe_tup (pa_cons pe_str (pa_cons pe_int pa_nil))) (pa_cons (pe_tup (pa_cons pe_str (pa_cons pe_int pa_nil))) (pa_cons (pe_tup (pa_cons pe_str (pa_cons pe_non (pa_cons pe_str pa_nil)))) pa_nil)))))))))))
      (pss_one (ps_mkS ((ps_ret (pe_fn C_law_same hr (by decide) (pa_cons (pv 10) (pa_cons (pe_op op_cat (pe_op op_cat (pv 14) (pe_lst (pa_cons (pe_tup (pa_cons pe_str (pa_cons pe_int (pa_cons pe_str pa_nil)))) (pa_cons (pe_tup (pa_cons pe_str (pa_cons pe_int pa_nil))) (pa_cons (pe_tup (pa_cons pe_str (pa_cons pe_int pa_nil))) pa_nil))))) (pe_op op_rep (pe_lst (pa_cons (pe_tup (pa_cons pe_str (pa_cons pe_int pa_nil))) pa_nil)) pe_int)) pa_nil)))))))))))))))), fun S hT => ?_⟩)
  walk_at "dg"
  refine ⟨12, rfl, by decide, fun i ρ => ∃ a2 a3 a4 a5 a6 a7 a8 a9 a10 a11 a12 a13 a14, ρ = [.un, .val .drw, a2, a3, a4, a5, a6, a7, a8, a9, a10, a11, a12, a13, a14], ⟨_, _, _, _, _, _, _, _, _, _, _, _, _, rfl⟩, ?_, ?_⟩
  · rintro i d ρ' hd ⟨a2, a3, a4, a5, a6, a7, a8, a9, a10, a11, a12, a13, a14, rfl⟩
    obtain ⟨hi, rfl⟩ := rgN_get hd
    walk_at "dg"
    refine ex_mkS (ex_unpX (evx_call0 ?_))
    walk_at "dg"
    refine ⟨rfl, rfl, fun rows way nm a O => ⟨_, _, rfl, ?_⟩⟩
    refine ex_unptr 3 rfl ?_
    refine ex_frz 3 rfl ?_
    walk_at "dg"
    have hnmw : isW nm = true := by
      obtain ⟨f, hf, e⟩ := List.mem_map.mp O.nm
      obtain ⟨x, us, rfl, hx, _⟩ := O.ok f hf
      rw [← e]; exact hx
    refine ⟨rows, way, nm, rfl, by have := O.le; omega, fun f hf => shortF_of (O.ok f hf), shortW (waysL_w _ O.way), shortW hnmw, fun z0 hz0 hc0 => ?_⟩
    refine ex_mid ⟨fun ρ => ∃ (rows : List (List Str)) (z : Str) (b6 b7 : Sl), ρ = [.un, .val .drw, .val (.int (i : Int)), .val (.lst (rows.map dF)), .val (.tup [.str way, .str nm]), .val (.str z), b6, b7, a8, a9, a10, a11, a12, a13, a14] ∧ z.length ≤ 700 ∧ CpOk z, ?_, ?_⟩
    · walk_at "dg"
      refine ⟨5, rfl, by decide, by decide, fun t ht => ?_⟩
      walk_at "dg"
      refine k_dec (fun h => ?_) (fun h => ?_)
      · walk_at "dg"
        refine lc_dr id (fun _ y => ∃ f, y = dF f ∧ OkF f) (by show 4 < 100000; decide) (fun q d hd => ?_) (fun l hll hlP => ?_)
        · obtain ⟨x, rfl, hx⟩ : ∃ x : Str, d = .str x ∧ isW x = true := by
            have hd2 := List.mem_of_getElem? hd
            simp only [List.mem_cons, List.not_mem_nil, or_false] at hd2
            rcases hd2 with rfl | rfl | rfl | rfl <;> exact ⟨_, rfl, by decide +kernel⟩
          clear hd
          walk_at "dg"
          exact ⟨x, rfl, fun us hU => ⟨_, ⟨_, rfl, hU.okF hx⟩, rfl⟩⟩
        · rw [List.map_id]
          have hl4 : l.length = 4 := hll
          have el : l = (l.map fieldOf).map dF := by
            rw [List.map_map]
            conv => lhs; rw [← List.map_id l]
            refine List.map_congr_left fun d hd => ?_
            obtain ⟨q, hq⟩ := List.mem_iff_getElem?.mp hd
            obtain ⟨f, rfl, _⟩ := hlP q d hq
            show dF f = dF (fieldOf (dF f))
            rw [fieldOf_dF]
          have hok : ∀ f ∈ l.map fieldOf, ShortF f := fun f hf => by
            obtain ⟨d, hd, rfl⟩ := List.mem_map.mp hf
            obtain ⟨q, hq⟩ := List.mem_iff_getElem?.mp hd
            obtain ⟨f, rfl, ho⟩ := hlP q d hq
            rw [fieldOf_dF]
            exact shortF_of ho
          obtain ⟨rows2, hr2⟩ : ∃ rows2, rows2 = l.map fieldOf := ⟨_, rfl⟩
          rw [← hr2] at el hok
          have hr4 : rows2.length = 4 := by rw [hr2, List.length_map]; exact hl4
          rw [el]
          clear el hr2 hlP hll
          walk_at "dg"
          refine ev_join ?_
          walk_at "dg"
          refine ⟨_, rfl, ?_⟩
          walk_at "dg"
          refine lc_m rows2 dF (fun f => .str (lineS f ++ nlT)) rfl (by omega) (fun g hg => ?_) ?_
          · walk_at "dg"
            refine ⟨g, rfl, hok g hg, ?_⟩
            have hq1 := (hok g hg).lineS.1
            obtain ⟨q, hq⟩ : ∃ q, q = lineS g := ⟨_, rfl⟩
            rw [← hq] at hq1 ⊢
            show EvD K S _ _ _
            refine ev_c ?_
            refine od_adds ?_ rfl
            show _ + 1 < _
            omega
          rw [show rows2.map (fun f => D.str (lineS f ++ nlT)) = dS (rows2.map fun f => lineS f ++ nlT) by unfold dS; rw [List.map_map]; rfl]
          obtain ⟨hz1, hz2⟩ := linesS_ok hok
          refine ⟨_, .inl rfl, ?_, ?_⟩
          · show _ + _ * 0 ≤ _
            have := join0_len (rows2.map fun f => lineS f ++ nlT)
            unfold linesS at hz1
            omega
          show EvD K S _ _ _
          obtain ⟨q, hq⟩ : ∃ q, q = linesS rows2 := ⟨_, rfl⟩
          rw [show Str.join (Str.ofString "") (rows2.map fun f => lineS f ++ nlT) = q from hq.symm]
          rw [← hq] at hz1 hz2
          clear hq
          refine ev_c ?_
          refine od_adds (by show q.length + 12 < _; omega) ?_
          show ∃ (rows : List (List Str)) (z : Str) (b6 b7 : Sl), _
          exact ⟨rows2, _, _, _, rfl, by rw [Str.length_append]; show q.length + 12 ≤ _; omega, hz2.app (.of (by decide +kernel))⟩
      · walk_at "dg"
        exact ⟨rows, z0, _, _, rfl, hz0, hc0⟩
    rintro ρ' ⟨rows, z, b6, b7, rfl, hz, hc⟩
    walk_at "dg"
    refine ⟨3, rfl, by decide, by decide, fun t3 ht3 => ?_⟩
    walk_at "dg"
    refine ⟨t3, rfl, by omega, fun j ρ => ∃ (z : Str) (b8 : Sl), ρ = [.un, .val .drw, .val (.int (i : Int)), .val (.lst (rows.map dF)), .val (.tup [.str way, .str nm]), .val (.str z), b6, b7, b8, a9, a10, a11, a12, a13, a14] ∧ z.length + 20 ≤ 2 ^ j * 720 ∧ CpOk z, ⟨z, _, rfl, by omega, hc⟩, ?_, ?_⟩
    · rintro j d ρ' hd ⟨z, b8, rfl, hz, hc⟩
      obtain ⟨hj, rfl⟩ := rgN_get hd
      walk_at "dg"
      have hz5 : z.length ≤ 5000 := by
        have : 2 ^ j ≤ 2 ^ 2 := Nat.pow_le_pow_right (by decide) (by omega)
        omega
      refine ⟨z, rfl, hz5, hc, fun z' hc' hz' => ?_⟩
      walk_at "dg"
      exact ⟨z', _, rfl, by rw [Nat.pow_succ]; omega, hc'⟩
    clear hz hc z
    rintro ρ' ⟨z, b8, rfl, hz, hc⟩
    rw [rgN_len] at hz
    have hz4 : z.length ≤ 4000 := by
      have : 2 ^ t3 ≤ 2 ^ 2 := Nat.pow_le_pow_right (by decide) (by omega)
      omega
    clear hz
    show ExD K S _ _ _
    refine ex_mid ⟨fun ρ => ∃ (z : Str), ρ = [.un, .val .drw, .val (.int (i : Int)), .val (.lst (rows.map dF)), .val (.tup [.str way, .str nm]), .val (.str z), b6, b7, b8, a9, a10, a11, a12, a13, a14] ∧ z.length ≤ 4000 ∧ CpOk z, ?_, ?_⟩
    · walk_at "dg"
      refine ⟨6, rfl, by decide, by decide, fun t ht => ?_⟩
      walk_at "dg"
      refine k_dec (fun h => ?_) (fun h => ?_)
      · walk_at "dg"
        refine ev_slS ?_
        walk_at "dg"
        refine ⟨z, rfl, by omega, ?_⟩
        walk_at "dg"
        refine ⟨_, rfl, ?_⟩
        walk_at "dg"
        exact ⟨_, rfl, Nat.le_trans (cutS_length z _ _) hz4, hc.sub fun c h => List.mem_of_mem_take (by rw [← cutS_m1]; exact h)⟩
      · walk_at "dg"
        exact ⟨z, rfl, hz4, hc⟩
    clear hz4 hc z
    rintro ρ' ⟨z, rfl, hz, hc⟩
    walk_at "dg"
    refine ⟨2, rfl, by decide, fun j ρ => ∃ b9 b10, ρ = [.un, .val .drw, .val (.int (i : Int)), .val (.lst (rows.map dF)), .val (.tup [.str way, .str nm]), .val (.str z), b6, b7, b8, b9, b10, a11, a12, a13, a14], ⟨_, _, rfl⟩, ?_, ?_⟩
    · rintro j d ρ' hd ⟨b9, b10, rfl⟩
      obtain ⟨hj, rfl⟩ := rgN_get hd
      walk_at "dg"
      refine ev_lam hT (fun d => ∃ rows way nm, ofT z = .made rows way nm ∧ d = dR Yr rows way nm) (fun x => resO Yr XBadText XBadRule (fun _ => False) (fun y => x = y) (ofT z)) ?_ (fun S' E h1 h2 hX => ?_)
      rotate_left
      · walk_at "dX"
        refine ev_cmX hX ?_
        walk_at "dX"
        refine ⟨rfl, ?_⟩
        walk_at "dX"
        refine ⟨z, rfl, by omega, ?_⟩
        cases ho : ofT z with
        | txt n => rfl
        | rul n => rfl
        | shw => rfl
        | made rows way nm => exact ⟨rows, way, nm, rfl, rfl⟩
      refine ⟨ofT z, fun d ⟨rows, way, nm, e, h⟩ => ⟨rows, way, nm, e, (ofT_made e).1, h⟩, fun x hx => hx, ?_⟩
      walk_at "dg"
      refine ⟨z, rfl, by omega, hc, ?_⟩
      walk_at "dg"
      refine fSm.mk rfl (endO_ok z) ?_
      walk_at "dg"
      exact ⟨_, _, rfl⟩
    · rintro ρ' ⟨b9, b10, rfl⟩
      walk_at "dg"
      exact ⟨_, _, _, _, _, _, _, _, _, _, _, _, _, rfl⟩
  · rintro ρ' ⟨a2, a3, a4, a5, a6, a7, a8, a9, a10, a11, a12, a13, a14, rfl⟩
    walk_at "dg"
    have sh : ∀ a : Str, a.length ≤ 10 → CpOk a → ShortF [a, "no", "no", "no", "no", "no", "exact"] := fun a h1 h2 => ⟨rfl, fun x hx => by
      have o : ∀ y ∈ [("no" : Str), "exact"], y.length ≤ 10 ∧ CpOk y := fun y hy => by
        have := List.all_eq_true.mp (show ([("no" : Str), "exact"].all fun x => decide (x.length ≤ 10) && PyData.strOk x) = true by decide +kernel) y hy
        rw [Bool.and_eq_true] at this
        exact ⟨of_decide_eq_true this.1, .of this.2⟩
      simp only [List.mem_cons, List.not_mem_nil, or_false] at hx
      rcases hx with rfl | rfl | rfl | rfl | rfl | rfl | rfl
      · exact ⟨h1, h2⟩
      all_goals exact o _ (by decide +kernel)⟩
    have shA := sh "a" (by decide) (.of (by decide +kernel))
    have shL := sh "abcdefghi" (by decide) (.of (by decide +kernel))
    refine ⟨["a", "no", "no", "no", "no", "no", "exact"], rfl, shA, ?_⟩
    obtain ⟨la, hla⟩ : ∃ la, la = lineS ["a", "no", "no", "no", "no", "no", "exact"] := ⟨_, rfl⟩
    have hq1 := shA.lineS.1
    rw [← hla] at hq1 ⊢
    show EvD K S _ _ _
    refine ev_c ?_
    refine od_adds (by show _ + 1 < _; omega) ?_
    have hll : (la ++ Str.ofString "\n").length ≤ 90 := by rw [hla]; exact loS_len
    obtain ⟨lo, hlo⟩ : ∃ lo, lo = la ++ Str.ofString "\n" := ⟨_, rfl⟩
    rw [← hlo] at hll ⊢
    walk_at "dg"
    refine od_muls (n := 3) (by decide) (by omega) (by omega) ?_
    show EvA K S _ _ _
    walk_at "dg"
    refine od_muls (n := 4) (by decide) (by omega) (by omega) ?_
    show EvA K S _ _ _
    walk_at "dg"
    refine od_adds (by show lo.length + 12 < _; omega) ?_
    show EvA K S _ _ _
    walk_at "dg"
    show ExD K S _ [_, _, _, _, _, _, _, _, _, _, Sl.own [], Sl.val (D.str lo), Sl.val (D.lst (dS (qxA lo))), _, _] _
    have hA : (dS (qxA lo)).length = 7 := rfl
    obtain ⟨ta, hta⟩ : ∃ ta, ta = qxA lo := ⟨_, rfl⟩
    rw [← hta] at hA ⊢
    refine ex_mkS ?_
    walk_at "dg"
    refine od_repA (n := 5) (by decide) (by decide) (fun z => nomatch z) (by decide) ?_
    walk_at "dg"
    refine od_catA (by decide) ?_
    walk_at "dg"
    refine od_catA (by decide) ?_
    walk_at "dg"
    refine ⟨["abcdefghi", "no", "no", "no", "no", "no", "exact"], rfl, shL, ?_⟩
    obtain ⟨lb, hlb⟩ : ∃ lb, lb = lineS ["abcdefghi", "no", "no", "no", "no", "no", "exact"] := ⟨_, rfl⟩
    have hq2 := shL.lineS.1
    rw [← hlb] at hq2 ⊢
    show EvD K S _ _ _
    refine ev_c ?_
    refine od_adds (by show _ + 13 < _; omega) ?_
    show EvA K S _ _ _
    walk_at "dg"
    refine od_adds (by show lo.length + 20 < _; omega) ?_
    show EvA K S _ _ _
    walk_at "dg"
    show ExD K S _ [_, _, _, _, _, _, _, _, _, _, Sl.own [], Sl.val (D.str lo), Sl.val (D.lst (dS ta)), Sl.val (D.lst (dS (qxB lb lo))), _] _
    have hB : (dS (qxB lb lo)).length = 2 := rfl
    obtain ⟨tb, htb⟩ : ∃ tb, tb = qxB lb lo := ⟨_, rfl⟩
    rw [← htb] at hB ⊢
    refine ex_mkS ?_
    walk_at "dg"
    refine od_adds (by show lo.length + 13 < _; omega) ?_
    show EvA K S _ _ _
    walk_at "dg"
    refine od_muls (n := 2) (by decide) (by omega) (by omega) ?_
    have hm2 : (Txt.mul lo ((2 : Nat) : Int)).length ≤ 200 := by rw [hlo, hla]; exact loS_mul
    show EvD K S _ _ _
    walk_at "dg"
    refine od_adds (by show (Txt.mul lo ((2 : Nat) : Int)).length + 3 < _; omega) ?_
    show EvA K S _ _ _
    walk_at "dg"
    refine od_adds (by show lo.length + 12 < _; omega) ?_
    show EvD K S _ _ _
    walk_at "dg"
    refine od_adds (by rw [Str.length_append]; show lo.length + 12 + _ < _; omega) ?_
    show EvA K S _ _ _
    walk_at "dg"
    show ExD K S _ [_, _, _, _, _, _, _, _, _, _, Sl.own [], Sl.val (D.str lo), Sl.val (D.lst (dS ta)), Sl.val (D.lst (dS tb ++ dS (qxC lo))), _] _
    rw [show dS tb ++ dS (qxC lo) = dS (tb ++ qxC lo) from dS_cat _ _]
    obtain ⟨tc, htc⟩ : ∃ tc, tc = tb ++ qxC lo := ⟨_, rfl⟩
    have hC : (dS tc).length = 5 := by rw [htc, htb]; rfl
    rw [← htc]
    refine ex_mkS ?_
    walk_at "dg"
    refine od_muls (n := 2) (by decide) (by omega) (by omega) ?_
    show EvD K S _ _ _
    walk_at "dg"
    refine od_adds (by show (Txt.mul lo ((2 : Nat) : Int)).length + 12 < _; omega) ?_
    show EvA K S _ _ _
    walk_at "dg"
    rw [show dS ta ++ [D.str (Txt.mul lo ((2 : Nat) : Int) ++ Str.ofString "show stay a\n")] ++ dS tc = dS (ta ++ [Txt.mul lo ((2 : Nat) : Int) ++ "show stay a\n"] ++ tc) by rw [← dS_cat, ← dS_cat]; rfl]
    obtain ⟨tx, htx⟩ : ∃ tx, tx = ta ++ [Txt.mul lo ((2 : Nat) : Int) ++ "show stay a\n"] ++ tc := ⟨_, rfl⟩
    have hX : tx = qxX lbS loS := by rw [htx, htc, hta, htb, hlo, hla, hlb]; rfl
    have hX13 : tx.length = 13 := by rw [hX]; rfl
    have hXl : ∀ z ∈ tx, z.length ≤ 1000 := fun z hz => of_decide_eq_true (List.all_eq_true.mp qxX_len z (by rw [← hX]; exact hz))
    have hE : tx.map ofT = endsW := by rw [hX]; exact qxX_ends
    rw [← htx]
    clear hX htx hta htb htc hA hB hC
    refine ⟨fun i ρ => ∃ x, ρ = [.un, .val .drw, a2, a3, a4, x, a6, a7, a8, a9, .own (((tx.take i).map ofT).map endO), .val (.str lo), .val (.lst (dS ta)), .val (.lst (dS tc)), a14], ⟨_, rfl⟩, ?_, ?_⟩
    · rintro i d ρ' hd ⟨x, rfl⟩
      obtain ⟨z, hz, rfl⟩ := dS_get hd
      have hzl := hXl z (List.mem_of_getElem? hz)
      have hi13 : i < 13 := by have := (List.getElem?_eq_some_iff.mp hz).1; omega
      have hacc : (((tx.take i).map ofT).map endO).length < 100000 := by rw [List.length_map, List.length_map, List.length_take]; omega
      have htk : ((tx.take (i + 1)).map ofT).map endO = ((tx.take i).map ofT).map endO ++ [endO (ofT z)] := by
        rw [List.take_add_one, hz, List.map_append, List.map_append]
        rfl
      walk_at "dg"
      refine ev_lam hT (fun d => ∃ rows way nm, ofT z = .made rows way nm ∧ d = dR Yr rows way nm) (fun x => resO Yr XBadText XBadRule (fun _ => False) (fun y => x = y) (ofT z)) ?_ (fun S' E h1 h2 hX => ?_)
      rotate_left
      · walk_at "dX"
        refine ev_cmX hX ?_
        walk_at "dX"
        refine ⟨rfl, ?_⟩
        walk_at "dX"
        refine ⟨z, rfl, by omega, ?_⟩
        cases ho : ofT z with
        | txt n => rfl
        | rul n => rfl
        | shw => rfl
        | made rows way nm => exact ⟨rows, way, nm, rfl, rfl⟩
      refine ⟨ofT z, fun d ⟨rows, way, nm, e, h⟩ => ⟨rows, way, nm, e, (ofT_made e).1, h⟩, fun x hx => hx, ?_⟩
      show ∃ x, _ = [_, _, _, _, _, x, _, _, _, _, Sl.own (((tx.take (i + 1)).map ofT).map endO), _, _, _, _]
      rw [htk]
      exact ⟨_, rfl⟩
    · rintro ρ' ⟨x, rfl⟩
      rw [dS_len, List.take_length, hE]
      walk_at "dg"
      refine ex_mkS ?_
      walk_at "dg"
      refine ex_frz 10 rfl ?_
      refine ex_mkS ?_
      walk_at "dg"
      refine on_rep (n := 3) (by decide) (by decide) ?_
      refine on_cat (by decide) ?_
      walk_at "dg"
      refine fSm.mk rfl rfl ?_
      rfl
end
end
end Lf
set_option Elab.async false
set_option linter.all false
set_option maxRecDepth 100000
set_option maxHeartbeats 0
/-! The head and the end. -/
namespace Lf
open PySem PySem.Spec PyProof.Rows L2
section
variable {P : Program} {w : World} {K : PySem.W.Frag} {h : Heap} {mg : Str → Option Value} {f : Addr}
theorem g_def (X : K.In h) (G : h.Ns mainGlobals mg) (c : He.SaysD fa fn K) {x : Str} {st : Stmt} {d : He.DefD} (i j : Nat) (hi : fa[i]? = some (.glo x) := by rfl) (hj : fn[j]? = some d := by rfl)
    (e : d = ⟨(x, none), x, x, defArgs st, defBody st, defScope st, [], []⟩ := by rfl) : Def K mg x st := by
  obtain ⟨fd, F⟩ := c.def_ j hj
  subst e
  exact ⟨He.ga K x, fd, He.glo_ok X G (c.fact i hi), F⟩
theorem g_meth (c : He.SaysD fa fn K) {x m q : Str} {st : Stmt} {d : He.DefD} (i j : Nat) (hi : fa[i]? = some (.meth x m) := by rfl) (hj : fn[j]? = some d := by rfl)
    (e : d = ⟨(x, some m), m, q, defArgs st, defBody st, defScope st, [], []⟩ := by rfl) : DefM K (He.ga K x) m q st := by
  obtain ⟨fd, F⟩ := c.def_ j hj
  subst e
  exact ⟨He.ma K (He.ga K x) m, fd, He.meth_ok (c.fact i hi), F⟩
theorem g_prop {x m q : Str} {st : Stmt} (h1 : prB K x m = true) (h2 : okA K (pgA K x m) q = true) (h3 : fnA K (pgA K x m) = some (m, q, defArgs st, .stmts (defBody st), defScope st, mainGlobals, [], builtinsNs)) : DefP K (He.ga K x) m q st := by
  obtain ⟨fd, F⟩ := funA h3 h2
  exact ⟨_, _, fd, prB_ok h1, F⟩
theorem g_cls (X : K.In h) (G : h.Ns mainGlobals mg) (c : He.SaysD fa fn K) {base : Heap} {k : Nat} {x : Str} {ps : List Str} {sp : Sp} (i j : Nat) (C : CalM P w K mg base k (He.ga K x) "__init__" ps sp) (hi : fa[i]? = some (.glo x) := by rfl) (hj : fa[j]? = some (.mkr x) := by rfl) :
    CalC P w K mg base k x (He.ga K x) ps sp := by
  have m := c.fact j hj
  obtain ⟨m1, m2⟩ := He.ba (show (PySem.W.makesIn K (He.ga K x) && (He.eqO (PySem.W.findIn K (.ref (He.ga K x)) "__init__") (some (some (.ref (He.ma K (He.ga K x) "__init__")))) && (PySem.W.isFn K (.ref (He.ma K (He.ga K x) "__init__")) && PySem.W.keepIn K (.ref (He.ga K x))))) = true from m)
  exact ⟨He.glo_ok X G (c.fact i hi), m1, (He.ba (He.ba m2).2).2, C⟩
theorem g_clsX (X : K.In h) (G : h.Ns mainGlobals mg) (c : He.SaysD fa fn K) {base : Heap} {k : Nat} {x : Str} {ps : List Str} {sp : Sp} (i j : Nat) (C : CalMX P w K mg base k (He.ga K x) "__init__" ps sp) (hi : fa[i]? = some (.glo x) := by rfl) (hj : fa[j]? = some (.mkr x) := by rfl) :
    CalCX P w K mg base k x (He.ga K x) ps sp := by
  have m := c.fact j hj
  obtain ⟨m1, m2⟩ := He.ba (show (PySem.W.makesIn K (He.ga K x) && (He.eqO (PySem.W.findIn K (.ref (He.ga K x)) "__init__") (some (some (.ref (He.ma K (He.ga K x) "__init__")))) && (PySem.W.isFn K (.ref (He.ma K (He.ga K x) "__init__")) && PySem.W.keepIn K (.ref (He.ga K x))))) = true from m)
  exact ⟨He.glo_ok X G (c.fact i hi), m1, (He.ba (He.ba m2).2).2, C⟩
theorem g_bn (X : K.In h) (G : h.Ns mainGlobals mg) (c : He.SaysD fa fn K) : Bn mg := ⟨He.free_ok X G (c.fact 42 rfl), He.free_ok X G (c.fact 43 rfl), He.free_ok X G (c.fact 44 rfl), He.free_ok X G (c.fact 45 rfl), He.free_ok X G (c.fact 46 rfl), He.free_ok X G (c.fact 47 rfl), He.free_ok X G (c.fact 48 rfl), He.free_ok X G (c.fact 49 rfl), He.free_ok X G (c.fact 50 rfl), He.free_ok X G (c.fact 51 rfl), He.free_ok X G (c.fact 52 rfl), He.free_ok X G (c.fact 53 rfl), He.free_ok X G (c.fact 54 rfl), He.free_ok X G (c.fact 55 rfl), He.free_ok X G (c.fact 56 rfl)⟩
def Zs (K : PySem.W.Frag) : Cs := ⟨He.ga K "Work", He.ga K "Edition"⟩
def Yu (K : PySem.W.Frag) : Ra := ⟨He.ga K "Rule", He.ga K "PARTS", He.ga K "WAYS", He.ga K "WORDS"⟩
theorem g_defL (X : K.In h) (G : h.Ns mainGlobals mg) (c : He.SaysD fa fn K) {base : Heap} {x : Str} {st : Stmt} {d : He.DefD} (i j : Nat) (hp : (x, none) ∈ tfL) (u : tabUni K tfL = true) (tb : ∀ p ∈ tfL.map (He.cT K), LamX.TabB base mg p.1 p.2) (hi : fa[i]? = some (.glo x) := by rfl) (hj : fn[j]? = some d := by rfl)
    (e : d = ⟨(x, none), x, x, defArgs st, defBody st, defScope st, [], []⟩ := by rfl) : DefL K mg base (tabL K tfL) x st := by
  obtain ⟨fd, F⟩ := c.def_ j hj
  subst e
  exact ⟨He.ga K x, fd, _, _, He.glo_ok X G (c.fact i hi), F, code_of F, lamT_of hp u tb⟩
theorem factsY (X : K.In h) (G : h.Ns mainGlobals mg) (hfa : mg ("law" : Str) = some (.ref f)) (c : He.SaysD fa fn K) (y : exY K = true) (gt : gtY K = vlY) (dt : ((tsY K).map fun t => He.dicW K t.1) = kyY w) (hfile : P.main.file = mainFile) (htop : (P.main.scope.names.lookup ("super" : Str)).isSome = false) :
    ∃ fd : FuncData, (∀ (s : Shared) (v : Value), BindsTo s fd ⟨[v], []⟩ [("_law_script", v)]) ∧ ∀ base : Heap, K.In base → base.Ns mainGlobals mg → (∀ p ∈ tfL.map (He.cT K), LamX.TabB base mg p.1 p.2) → FnOk P w K mg base CX0 12 f fd ["_law_script"] (spLawT K (tabL K tfL)) := by
  have B := g_bn X G c
  have y : (exs K).all id = true := y
  have W : Cw mg := ⟨He.str_ok X G (c.fact 58 rfl), He.int_ok X G (c.fact 59 rfl)⟩
  have Ur : Tr K mg (Yu K) := ⟨(He.glo_ok X G (c.fact 29 rfl)), (of_decide_eq_true (row_at y 2 rfl)), (of_decide_eq_true (row_at y 3 rfl)), (He.cls_ok (c.fact 35 rfl)), (He.noat_ok (c.fact 37 rfl)), (He.noat_ok (c.fact 38 rfl))⟩
  have XN_BadRule__BadText := (of_decide_eq_true (row_at y 8 rfl))
  have KD_WORDS : ∃ es n, KDict K w (He.ga K "WORDS") es n := kyT_at (ts := tsY K) dt 0 rfl
  have Cs1 : Trc K w mg (Yu K) := ⟨(He.glo_ok X G (c.fact 32 rfl)), (He.glo_ok X G (c.fact 33 rfl)), (He.glo_ok X G (c.fact 34 rfl)), (He.int_ok X G (c.fact 60 rfl)), txB_ok (row_at y 4 rfl), txB_ok (row_at y 5 rfl), fun i p us h1 h2 => kd_rows KD_WORDS (row_at y 6 rfl) i p us h1 h2⟩
  have Dis_word : Def K mg "is_word" sis_word := g_def X G c 0 0
  have Dis_row : Def K mg "is_row" sis_row := g_def X G c 1 1
  have Dis_one_of : Def K mg "is_one_of" sis_one_of := g_def X G c 2 2
  have Dfield_reason : Def K mg "field_reason" sfield_reason := g_def X G c 3 3
  have Dchecked_fields : Def K mg "checked_fields" schecked_fields := g_def X G c 4 4
  have Dchecked_show : Def K mg "checked_show" schecked_show := g_def X G c 5 5
  have Dfield_of : Def K mg "field_of" sfield_of := g_def X G c 6 6
  have Dshow_of : Def K mg "show_of" sshow_of := g_def X G c 7 7
  have Dread_lines : Def K mg "read_lines" sread_lines := g_def X G c 8 8
  have D_law_fresh : Def K mg "_law_fresh" s_law_fresh := g_def X G c 9 9
  have D_law_fill : Def K mg "_law_fill" s_law_fill := g_def X G c 10 10
  have D_law_take : Def K mg "_law_take" s_law_take := g_def X G c 11 11
  have D_law_one : Def K mg "_law_one" s_law_one := g_def X G c 12 12
  have D_law_same : Def K mg "_law_same" s_law_same := g_def X G c 13 13
  have D_law_all_words : Def K mg "_law_all_words" s_law_all_words := g_def X G c 14 14
  have D_law_some_words : Def K mg "_law_some_words" s_law_some_words := g_def X G c 15 15
  have D_law_parts : Def K mg "_law_parts" s_law_parts := g_def X G c 16 16
  have D_law_field : Def K mg "_law_field" s_law_field := g_def X G c 17 17
  have D_law_rule : Def K mg "_law_rule" s_law_rule := g_def X G c 18 18
  have D_law_line : Def K mg "_law_line" s_law_line := g_def X G c 19 19
  have D_law_text : Def K mg "_law_text" s_law_text := g_def X G c 20 20
  have D_law_tried : Def K mg "_law_tried" s_law_tried := g_def X G c 21 21
  have D_law_is_word : Def K mg "_law_is_word" s_law_is_word := g_def X G c 22 22
  have D_law_field_of : Def K mg "_law_field_of" s_law_field_of := g_def X G c 23 23
  have D_law_is_show : Def K mg "_law_is_show" s_law_is_show := g_def X G c 24 24
  have D_law_due : Def K mg "_law_due" s_law_due := g_def X G c 25 25
  have D_law_rule_due : Def K mg "_law_rule_due" s_law_rule_due := g_def X G c 26 26
  have D_law_spoilt_text : Def K mg "_law_spoilt_text" s_law_spoilt_text := g_def X G c 27 27
  have Dlaw : Def K mg "law" slaw := g_def X G c 28 28
  have DRule___init__ : DefM K (Yu K).R "__init__" "Rule.__init__" sRule___init__ := g_meth (x := "Rule") c 39 29
  have DRule_fields : DefM K (Yu K).R "fields" "Rule.fields" sRule_fields := g_meth (x := "Rule") c 40 30
  have DRule_show : DefM K (Yu K).R "show" "Rule.show" sRule_show := g_meth (x := "Rule") c 41 31
  have DRule_of_text : DefCm K (Yu K).R "of_text" "Rule.of_text" sRule_of_text := g_cmeth (x := "Rule") (m := "of_text") (row_at y 10 rfl) (row_at y 11 rfl) (Option.some.inj (congrArg (fun l : List He.FnW => l[2]?) gt))
  have UT := (row_at y 9 rfl)
  obtain ⟨fd, F0⟩ := c.def_ 28 rfl
  have F : FunD K "law" "law" (defArgs slaw) (defBody slaw) (defScope slaw) [] [] (He.fAd K ("law", none)) fd := F0
  have e := hfa.symm.trans (He.glo_ok X G (c.fact 28 rfl))
  cases e
  have b := FunD.bindsA (ps := ["_law_script"]) F fun _ _ _ _ _ _ us hl => match us, hl with | [_], _ => rfl
  refine ⟨fd, fun s v => b s [v] rfl, fun base _ _ TB => ?_⟩
  have XC_BadRule : Xc2 P w K mg base "BadRule" (He.ga K "BadRule") "index" "reason" := xc_BadRule (xiD_of (He.glo_ok X G (c.fact 30 rfl)) (He.free_ok X G (c.fact 57 rfl)) htop (Option.some.inj (congrArg (fun l : List He.FnW => l[0]?) gt)) (by rw [hfile]; exact (row_at y 12 rfl))) (of_decide_eq_true (row_at y 7 rfl))
  have XC_BadText : Xc1 P w K mg base "BadText" (He.ga K "BadText") "line" := xc_BadText (xiD_of (He.glo_ok X G (c.fact 31 rfl)) (He.free_ok X G (c.fact 57 rfl)) htop (Option.some.inj (congrArg (fun l : List He.FnW => l[1]?) gt)) (by rw [hfile]; exact (row_at y 13 rfl)))
  have C_law_fresh := ok_fresh (P := P) (w := w) (base := base) D_law_fresh
  have C_law_fill := ok_fill (P := P) (w := w) (base := base) B D_law_fill
  have C_law_takeH := ok_take (P := P) (w := w) (base := base) B C_law_fill D_law_take
  have C_law_take := Cal.take C_law_takeH
  have C_law_all_words := ok_all_words (P := P) (w := w) (base := base) D_law_all_words
  have C_law_some_wordsH := ok_some_words (P := P) (w := w) (base := base) B C_law_all_words C_law_takeH D_law_some_words
  have C_law_some_words := Cal.some (K := K) C_law_some_wordsH
  have C_law_one := okD_one (P := P) (w := w) (base := base) B C_law_take D_law_one
  have Cis_row := okD_is_row (P := P) (w := w) (base := base) B Dis_row
  have Cis_word := okD_is_word (P := P) (w := w) (base := base) B W Dis_word
  have C_law_same := okD_same (P := P) (w := w) (base := base) B D_law_same
  have Cis_one_of := okD_one_ofG (P := P) (w := w) (base := base) B Dis_one_of
  have Cfield_reason := okD_reasonG (P := P) (w := w) (base := base) B Cs1 Cis_row Cis_word Cis_one_of Dfield_reason
  have CXchecked_fields := okX_fields (P := P) (w := w) (base := base) B Cs1 XC_BadRule Cis_row Cfield_reason Dchecked_fields
  have CXchecked_show := okX_show (P := P) (w := w) (base := base) B Cs1 XC_BadRule Cis_row Cis_one_of Dchecked_show
  have CXRule___init__ := okX_rule_init (P := P) (w := w) (base := base) B Ur CXchecked_fields CXchecked_show DRule___init__
  have CXRule : CalCX P w K mg base 4 "Rule" (Yu K).R ["self", "fields", "show"] (spIX K (Yu K).R (fRuleIX K (He.ga K "BadRule"))) := g_clsX X G c 29 36 CXRule___init__
  have CRule_fields := okM_fields (P := P) (w := w) (base := base) B Ur DRule_fields
  have CRule_show := okM_show (P := P) (w := w) (base := base) B Ur DRule_show
  have C_law_parts := okD_parts (P := P) (w := w) (base := base) B D_law_parts
  have C_law_field := okD_field (P := P) (w := w) (base := base) B C_law_one C_law_parts D_law_field
  have C_law_rule := okC_rule (P := P) (w := w) (base := base) B C_law_take C_law_one C_law_some_words C_law_field D_law_rule
  have Cfield_of := okD_field_of (P := P) (w := w) (base := base) B Cs1 Cis_word Dfield_of
  have Cshow_of := okD_show_of (P := P) (w := w) (base := base) B Cs1 Cis_word Dshow_of
  have CXread_lines := okX_read_lines (P := P) (w := w) (base := base) B Cs1 XC_BadText Cfield_of Cshow_of Dread_lines
  have CARule_of_text := okX_rule_of_text (P := P) (w := w) (base := base) B CXread_lines CXRule DRule_of_text
  have CT_law_tried := okT_triedO (P := P) (w := w) (base := base) B Ur XC_BadText XC_BadRule XN_BadRule__BadText CRule_fields CRule_show D_law_tried
  have C_law_is_word := okD_is_wordL (P := P) (w := w) (base := base) B D_law_is_word
  have C_law_line := okD_line (P := P) (w := w) (base := base) B D_law_line
  have C_law_field_of := okD_field_ofL (P := P) (w := w) (base := base) B C_law_is_word C_law_parts D_law_field_of
  have C_law_is_show := okD_is_show (P := P) (w := w) (base := base) B C_law_is_word D_law_is_show
  have C_law_rule_due := okD_rule_due (P := P) (w := w) (base := base) B D_law_rule_due
  have C_law_due := okD_dueO (P := P) (w := w) (base := base) B C_law_field_of C_law_is_show C_law_rule_due D_law_due
  have C_law_spoilt_text := okD_spoil (P := P) (w := w) (base := base) B C_law_take C_law_one D_law_spoilt_text
  have C_law_text := okD_text (P := P) (w := w) (base := base) B C_law_line D_law_text
  have CXRule_of_text := okP_of_text (P := P) (w := w) (base := base) CARule_of_text
  exact ok_law B Ur C_law_fresh C_law_take C_law_rule C_law_field C_law_line C_law_text C_law_spoilt_text C_law_due C_law_same CT_law_tried CXRule_of_text F (code_of F) (lamT_of (by decide) UT TB)
end
end Lf
open PySem PySem.W PySem.Calls PyProof.Rows
theorem PySem.Challenge.cw_leafmarks_k24_rule_texts_refused_holds : PySem.Challenge.rw_leafmarks_k24_rule_texts_refused.Holds := by
  refine Lf.head0 ?hc
  case hc =>
    refine LamX.walk_ofTsE (l := PySem.Challenge.rw_leafmarks_k24_rule_texts_refused) (n := 63) (k := 12) (x := "_law_script") (CX := fun _ => L2.CX0) rfl (by decide) (by kernel_rfl) ⟨rfl, by decide, by decide⟩ ?F (fun _ _ _ _ _ z => z)
    intro w mg fa h Y G hmg0
    obtain ⟨K, KX, c, y, gt, dt, tz⟩ := Y
    have hmg : mg ("law" : PySem.Str) = some (.ref fa) := by
      have e : (HandSHeadRun.topDef (OpenLaw.row PySem.Challenge.rw_leafmarks_k24_rule_texts_refused).prog 44).name = ("law" : PySem.Str) := by kernel_rfl
      rw [← e]
      exact hmg0
    obtain ⟨fd, hb, hF⟩ := Lf.factsY (P := (PySem.Challenge.rw_leafmarks_k24_rule_texts_refused).prog) (w := w) KX G hmg c y gt dt (by kernel_rfl) (by kernel_rfl)
    exact ⟨K, KX, fd, Lf.tfL.map (He.cT K), Lf.spLawT K (Lf.tabL K Lf.tfL), fun p hp => by obtain ⟨q, hq, rfl⟩ := List.mem_map.mp hp; exact (tz q hq).2.2, fun p hp => by obtain ⟨q, hq, rfl⟩ := List.mem_map.mp hp; exact (tz q hq).2.1, fun p hp => by obtain ⟨q, hq, rfl⟩ := List.mem_map.mp hp; exact PySem.W.codeHd_of_K KX (tz q hq).1, hb,
      fun H a ns hl _ hT hS => ⟨a, ns, rfl, hS, hl, Lf.tabs_nil hT, fun _ => rfl⟩, hF⟩
