import PyProof.Rows.All
import Wide.All
import OpenK.AllK
import Wide.FinOn
import KE.GoesMore
import HandS.ForMost
import HandS.Walk
import HandS.IsInst
import HandS.TupAny
import HandS.Defaults
import HandS.Conv
import PySem.Challenge.RW_leafmarks_k21_rules_told
import HandS.Property
import HandS.Head0
import HandS.Head1
import HandS.Head2
import HandS.HeadEnd
import HandS.HeadHook1
import HandS.HeadHook2
import HandS.HeadHook4
import HandS.HeadWalk
import HandS.Ends
import HandS.ExcInit
import HandS.ExcField
import KE.KExcSuper
import HandS.HeadHook3
import HandS.HeadNt
import HandS.Lambda
import HandS.NoneIn
import KE.KOpsOwn
import HandS.Style
import HandS.WordsExc
import HandS.TryOnly
import HandS.ExcOwn
import HandS.Zip
import HandS.TupLe
import HandS.MakeKw
import HandS.Dict
import HandS.List
import PyProof.SumWalkG
import PyProof.InstNe
import PyProof.EqKinds
import HandS.DictEq
import HandS.More
import HandS.ClsMeth
set_option Elab.async false
set_option linter.all false
set_option maxRecDepth 100000
/-! Further rules for the hand layer: enumerate of a tuple, calls of defs by one fact each. -/
namespace Lf
section
set_option maxRecDepth 100000
set_option maxHeartbeats 2000000
open PySem PySem.Spec PyProof.Rows L2

/-! ### enumerate(tuple) -/
theorem meets_enumerate_newT (l : Addr) (items : Array Value) (n : Nat) (dct : Option Addr) (sl : Array (Option Value)) :
    Meets (Builtin.«enumerate.__new__» ⟨[.type "enumerate", .ref l], []⟩) (fun _ R s => s.heap.get? l = some { cls := .type "tuple", dict := dct, data := .seq items n, slots := sl } ∧
      R (.ok (.ret (.ref (s.heap.push { cls := .type "tuple_iterator", data := .fields #[.ref l, .int 0 0] }).objs.size)))
        { s with heap := (s.heap.push { cls := .type "tuple_iterator", data := .fields #[.ref l, .int 0 0] }).push { cls := .type "enumerate", data := .fields #[.none, .bool false, .ref s.heap.objs.size, rawInt 0, .none, .none] } }) :=
  .of_wp fun prog w A R s h => by
    obtain ⟨hp, g, d, tk, os⟩ := s; obtain ⟨hl, h⟩ := h
    have hsub := sub_enumerate
    have hL : Heap.IsTuple (Shared.heap ⟨hp, g, d, tk, os⟩) l items := ⟨_, hl, rfl, n, rfl⟩
    wp_walk using AutoSeq1.wpAny_loadPart' hl
    refine wpAny_stack_any fun st => wpAny_pure ?_
    split
    · rename_i c _ _ _ _ _
      cases (c == Value.type "enumerate")
      · wp_walk using AutoSeq1.wpAny_loadPart' hl, wpAny_pyIter_tuple hL
        exact ⟨_, rfl, h⟩
      · wp_walk using AutoSeq1.wpAny_loadPart' hl, wpAny_pyIter_tuple hL
        exact ⟨_, rfl, h⟩
    · wp_walk using AutoSeq1.wpAny_loadPart' hl, wpAny_pyIter_tuple hL
      exact ⟨_, rfl, h⟩
section
variable {prog : Program} {w : World} {A : Around} {E : Value → Shared → Prop} {s : Shared}
theorem call_enumerate_tuple {l : Addr} {items : Array Value} {Q : Value → Shared → Prop} (hL : s.heap.IsTuple l items)
    (h : ∀ h', IsEnum h' (s.heap.objs.size + 1) s.heap.objs.size 0 .none → h'.IsTupleIter s.heap.objs.size l 0 → h'.objs.size = s.heap.objs.size + 2 →
      (∀ b o, s.heap.get? b = some o → h'.get? b = some o) → Q (.ref (s.heap.objs.size + 1)) { s with heap := h' }) :
    wpAny (model prog w) A (call (.type "enumerate") [.ref l]) Q E s := by
  obtain ⟨⟨c, dct, dt, sl⟩, hl, hc, n, hd⟩ := hL
  replace hc : c = .type "tuple" := hc
  replace hd : dt = .seq items n := hd
  subst hc hd
  refine callType_new F.called_enumerate (by decide) (F.typeCall_enumerate_1 _) (F.newCall_enumerate_1 _) (fun obj => F.args_object_init_2 obj _) F.entry_enumerate_new
    (meets_enumerate_newT l items n dct sl) ⟨hl, ?_⟩
  have hz : (s.heap.push { cls := .type "tuple_iterator", data := .fields #[.ref l, .int 0 0] }).objs.size = s.heap.objs.size + 1 := Heap.size_push ..
  show _ ∧ _
  rw [hz]
  have he : IsEnum ((s.heap.push { cls := .type "tuple_iterator", data := .fields #[.ref l, .int 0 0] }).push
      { cls := .type "enumerate", data := .fields #[.none, .bool false, .ref s.heap.objs.size, rawInt 0, .none, .none] }) (s.heap.objs.size + 1) s.heap.objs.size 0 .none := by
    have := Heap.get?_push_size (s.heap.push { cls := .type "tuple_iterator", data := .fields #[.ref l, .int 0 0] })
      (o := { cls := .type "enumerate", data := .fields #[.none, .bool false, .ref s.heap.objs.size, rawInt 0, .none, .none] }) rfl
    rw [hz] at this; exact this
  refine ⟨⟨_, he, rfl⟩, h _ he ⟨_, Heap.get?_push_of_some _ (Heap.get?_push_size _ rfl), rfl, rfl⟩ (by rw [Heap.size_push, hz]) fun b o x => Heap.get?_push_of_some _ (Heap.get?_push_of_some _ x)⟩
end
def IteT (K : PySem.W.Frag) (a : Addr) : It :=
  ⟨fun i H => ∃ (xs : List V) (x : V), SqT K H a xs ∧ xs[i]? = some x, fun i H v H' => ∃ T x, v = .ref T ∧ H T = none ∧ H' = upd H T (.tup [.int (i : Nat), x]) ∧ ∀ xs, SqT K H a xs → xs[i]? = some x, fun i H => ∃ xs : List V, SqT K H a xs ∧ xs.length ≤ i⟩
theorem turn_enumT {P : Program} {w : World} {K : PySem.W.Frag} {elts : List Expr} {kk : Nat} {tpos : Pos} (a e it : Addr) :
    Turn P w K (.Tuple elts kk tpos) (IteT K a) [e, it] e (fun i h => (∃ old, IsEnum h e it ((i : Nat) : Int) old) ∧ h.IsTupleIter it a i ∧ e ≠ it) where
  mem := by simp
  obj := fun i h st b hb => by
    obtain ⟨⟨old, he⟩, ⟨o, ho, hc, hd⟩, _⟩ := st
    have e' : b = e ∨ b = it := by simpa using hb
    rcases e' with z | z
    · rw [z]; exact ⟨_, he, fun v q => nomatch q⟩
    · rw [z]; exact ⟨o, ho, fun v q => by rw [hd] at q; cases q⟩
  keep := fun i h h' st k => let ⟨⟨old, he⟩, hi, hne⟩ := st; ⟨⟨old, k e (by simp) _ he⟩, hi.at fun o q => k it (by simp) o q, hne⟩
  item := by
    intro X hP hw hK hc i pins s σ H E I hf st hg
    subst hP hw hK
    obtain ⟨⟨old, he⟩, hit, hne⟩ := st
    obtain ⟨xs, x, hq, hx⟩ := hg
    obtain ⟨its, rv, p, hz⟩ := I.tuple hq
    obtain ⟨u, hu, ru⟩ := rv.get hx
    have hel : e < s.heap.objs.size := Heap.lt_size he
    have hil : it < s.heap.objs.size := by obtain ⟨_, q, _⟩ := hit; exact Heap.lt_size q
    have hait : a ≠ it := by
      intro z
      obtain ⟨o1, h1, c1, _⟩ := p
      obtain ⟨o2, h2, c2, _⟩ := hit
      rw [z] at h1
      rw [h1] at h2
      cases h2
      rw [c1] at c2
      exact absurd c2 (by decide)
    have hae : e ≠ a := by
      intro z
      obtain ⟨o1, h1, c1, _⟩ := p
      rw [← z] at h1
      have h2 : s.heap.get? e = _ := he
      rw [h1] at h2
      cases h2
      exact absurd c1 (show ¬ Value.type "enumerate" = Value.type "tuple" by decide)
    have hlt : i < its.toArray.size := by
      have : i < its.length := (List.getElem?_eq_some_iff.mp hu).1
      simpa using this
    have hh : X.A.in1.handled = none := I.ok.hd hc
    refine wpAny_pyNext_enum_itemD (Draws.tuple hh it a hait its.toArray) he ⟨hit, show s.heap.IsTuple a its.toArray from p⟩ hlt hne (by simp [hne, hae]) fun y h' tk hy ho hit' hT hsz hk => ?_
    have ey : y = u := by
      have hu' : its.toArray[i]? = some u := by simpa using hu
      have : some y = some u := hy.symm.trans hu'
      exact Option.some.inj this
    subst ey
    refine ⟨_, rfl, wpAny_letOwnedTupleGo_enum (s := { s with heap := h', toks := tk + 1 }) ho fun h'' he' sb => ?_⟩
    have hT2 : h''.get? s.heap.objs.size = some { cls := .type "tuple", data := .seq #[.int i tk, y] } := (sb.2 _ (Nat.ne_of_gt hel)).trans hT
    have new : ObjOk X.prog X.w (upd H s.heap.objs.size (.tup [.int (i : Nat), x])) h'' s.heap.objs.size (.tup [.int (i : Nat), x]) :=
      ⟨by show 2 ≤ sizeLine; decide, [.int i tk, y], .cons ⟨_, rfl⟩ (.cons ru .nil), ⟨_, hT2, rfl, _, rfl⟩⟩
    have I1 : Inv X pins σ (upd H s.heap.objs.size (.tup [.int (i : Nat), x])) { s with heap := h'', toks := tk + 1 } :=
      I.turnedNew (ch := [e, it]) (fun b ob hb q => (sb.2 b (fun z => hb (by simp [z]))).trans (hk b ob (fun z => hb (by simp [z])) (fun z => hb (by simp [z])) q)) hf (Nat.le_refl _) new
    refine ⟨.ref s.heap.objs.size, _, I1, rfl, ⟨_, x, rfl, I.hok.fresh (Nat.le_refl _), rfl, fun ys hy => by rw [I.tuple_inj hy hq]; exact hx⟩, ⟨⟨y, ?_⟩, hit'.1.at fun o q => (sb.2 it (Ne.symm hne)).trans q, hne⟩, fun b hb => ?_⟩
    · have e1 : ((i + 1 : Nat) : Int) = (i : Int) + 1 := by omega
      rw [e1]; exact he'
    · have hb' : b < s.heap.objs.size := by
        have e' : b = e ∨ b = it := by simpa using hb
        rcases e' with z | z
        · rw [z]; exact hel
        · rw [z]; exact hil
      rw [upd_ne (Nat.ne_of_lt hb')]
      exact (hf b hb).1
  done := by
    intro X hP hw hK hc i pins s σ H E I hf st hg
    subst hP hw hK
    obtain ⟨⟨old, he⟩, hit, hne⟩ := st
    obtain ⟨xs, hq, hx⟩ := hg
    obtain ⟨its, rv, p, hz⟩ := I.tuple hq
    obtain ⟨f0, f1, f2, f3, f4, f5⟩ := hf it (by simp)
    have hl := rv.length
    have hn : its.toArray[i]? = none := by simp; omega
    have hT : s.TypeIs (.ref e) "enumerate" := ⟨_, he, rfl⟩
    unfold pyNext
    refine wpAny_bind (wpAny_attempt (wpAny_callSpecial?_slot (name := Str.ofString "__next__") hT F.slot_enumerate_next
      (wpAny_call_entry F.slot_enumerate_next hT F.entry_enumerate_next ?_ (F.args_enumerate_next_1 _))))
    show wpAny _ _ (field (.ref e) 2 >>= _) _ _ _
    refine wpAny_bind (wpAny_field he rfl (x := .ref it) rfl ?_)
    refine wpAny_bind (wpAny_nextOf_tuple_end (A := X.A.in1) (I.ok.hd hc) hit (show s.heap.IsTuple a its.toArray from p) hn fun h' x he' hx' => ?_)
    obtain ⟨o, ho, hc'⟩ := hx'
    refine wpAny_bind (wpAny_isInstance (T := "StopIteration") (b := true) ⟨o, ho, hc'⟩ isSubtype_stop ?_)
    exact wpAny_pure ⟨rfl, I.turned (t' := s.toks) (fun b o hb q => he' b o hb q) f0 f1 f3 f4 f5⟩
  self := fun A i s Q E st h => let ⟨⟨_, he⟩, _⟩ := st; wpAny_pyIter_enum he h
/-- enumerate of a tuple or of a list -/
def rEnumA (K : PySem.W.Frag) (vs : List V) (H1 : Hp) (R : It → Hp → Prop) : Prop := ∃ a xs, vs = [.ref a] ∧ ((SqL K H1 a xs ∧ R (Ite K a) H1) ∨ (SqT K H1 a xs ∧ R (IteT K a) H1))
def iEnumA (K : PySem.W.Frag) (ta : TA) : TI := fun σ H R => ta σ H fun vs H1 => rEnumA K vs H1 R
theorem pi_enumA {X : Cx} {e : Expr} {ta : TA} {p pos tpos : Pos} {elts : List Expr} {kk : Nat} (hg : Gl X "enumerate") (hm : X.mg "enumerate" = none) (ha : PA X [e] ta) (hs : starEach [e] X.env = [(false, eval e X.env)] := by rfl) :
    PI X (.Tuple elts kk tpos) (.Call (.Name "enumerate" p) [e] [] pos) (iEnumA X.K ta) := by
  refine ⟨fun pins s σ H R I h => ?_⟩
  refine Call_ (ld_blt I hg hm boot_enumerate (PyProof.Rows.callWith_type1 (thn (ha.run pos pins s σ H _ I h) fun us s1 ⟨vs, H1, I1, r1, q1⟩ => ?_) hs rfl))
  obtain ⟨a, xs, ex, hq⟩ := q1
  subst ex
  cases r1 with
  | cons r rr =>
    cases rr
    cases r
    rcases hq with ⟨hq, q⟩ | ⟨hq, q⟩
    · obtain ⟨its, rv, p', hz⟩ := I1.list hq
      refine call_enumerate_list p'.isList fun h' he hit hsz hk => wpAny_pyIter_enum he ?_
      have I2 : Inv X pins σ H1 { s1 with heap := h' } := I1.kept (t' := s1.toks) hk
      refine ⟨s1.heap.objs.size + 1, [s1.heap.objs.size + 1, s1.heap.objs.size], _, _, H1, rfl, I2, turn_enum a (s1.heap.objs.size + 1) s1.heap.objs.size, ⟨⟨.none, he⟩, hit, Nat.succ_ne_self _⟩, fun b hb => ?_, q⟩
      have e' : b = s1.heap.objs.size + 1 ∨ b = s1.heap.objs.size := by simpa using hb
      have hle : s1.heap.objs.size ≤ b := by
        rcases e' with z | z
        · rw [z]; exact Nat.le_add_right _ _
        · rw [z]; exact Nat.le_refl _
      exact I1.fpOk hle (I1.hok.fresh hle)
    · obtain ⟨its, rv, p', hz⟩ := I1.tuple hq
      refine call_enumerate_tuple (show s1.heap.IsTuple a its.toArray from p') fun h' he hit hsz hk => wpAny_pyIter_enum he ?_
      have I2 : Inv X pins σ H1 { s1 with heap := h' } := I1.kept (t' := s1.toks) hk
      refine ⟨s1.heap.objs.size + 1, [s1.heap.objs.size + 1, s1.heap.objs.size], _, _, H1, rfl, I2, turn_enumT a (s1.heap.objs.size + 1) s1.heap.objs.size, ⟨⟨.none, he⟩, hit, Nat.succ_ne_self _⟩, fun b hb => ?_, q⟩
      have e' : b = s1.heap.objs.size + 1 ∨ b = s1.heap.objs.size := by simpa using hb
      have hle : s1.heap.objs.size ≤ b := by
        rcases e' with z | z
        · rw [z]; exact Nat.le_add_right _ _
        · rw [z]; exact Nat.le_refl _
      exact I1.fpOk hle (I1.hok.fresh hle)
theorem walk_enumT {K : PySem.W.Frag} {a : Addr} {xs : List V} : Walk (IteT K a) xs.length (fun H => SqT K H a xs) (YPair (fun i => some (.int (i : Nat))) (fun i => xs[i]?)) := by
  refine ⟨fun i _ hi q => ⟨xs, xs[i], q, by simp [hi]⟩, fun _ q => ⟨xs, q, Nat.le_refl _⟩, fun i H v H' _ q y => ?_⟩
  obtain ⟨T, x, h1, h2, h3, h4⟩ := y
  exact ⟨T, .int (i : Nat), x, h1, h2, h3, rfl, h4 xs q⟩

/-! ### a sequence: a list or a tuple -/
def SqA (K : PySem.W.Frag) (H : Hp) (a : Addr) (xs : List V) : Prop := SqL K H a xs ∨ SqT K H a xs
/-- what is walked, by its value -/
def rItL (K : PySem.W.Frag) (x : V) (H : Hp) (R : It → Hp → Prop) : Prop := ∃ a, x = .ref a ∧ (∃ xs, SqL K H a xs) ∧ R (Itl K a) H
def rItT (K : PySem.W.Frag) (x : V) (H : Hp) (R : It → Hp → Prop) : Prop := ∃ a, x = .ref a ∧ (∃ xs, SqT K H a xs) ∧ R (Itt K a) H
def rItS (x : V) (H : Hp) (R : It → Hp → Prop) : Prop := ∃ z, x = .str z ∧ R (Its z) H
def rItA (K : PySem.W.Frag) (x : V) (H : Hp) (R : It → Hp → Prop) : Prop := ∃ a xs, x = .ref a ∧ ((SqL K H a xs ∧ R (Itl K a) H) ∨ (SqT K H a xs ∧ R (Itt K a) H))
def rRg1 (vs : List V) (H : Hp) (R : It → Hp → Prop) : Prop := ∃ j : Int, vs = [.int j] ∧ -(2 ^ 62) ≤ j ∧ j < 2 ^ 62 ∧ R (Itr 0 j.toNat) H
def rRg2 (vs : List V) (H : Hp) (R : It → Hp → Prop) : Prop := ∃ i j : Int, vs = [.int i, .int j] ∧ (-(2 ^ 62) ≤ i ∧ i < 2 ^ 62 ∧ -(2 ^ 62) ≤ j ∧ j < 2 ^ 62) ∧ R (Itr i (j - i).toNat) H
def rZipL (K : PySem.W.Frag) (vs : List V) (H : Hp) (R : It → Hp → Prop) : Prop := ∃ a b xs ys, vs = [.ref a, .ref b] ∧ SqL K H a xs ∧ SqL K H b ys ∧ R (Itz K a b) H
def iE (r : V → Hp → (It → Hp → Prop) → Prop) (tl : TE) : TI := fun σ H R => tl σ H fun x H1 => r x H1 R
def iA (r : List V → Hp → (It → Hp → Prop) → Prop) (ta : TA) : TI := fun σ H R => ta σ H fun vs H1 => r vs H1 R
theorem p_seq {X : Cx} {tg l : Expr} {tl : TE} (hl : PE X l tl) : PI X tg l (iE (rItA X.K) tl) := by
  refine ⟨fun pins s σ H R I h => ?_⟩
  refine thn (hl.run pins s σ H _ I h) fun v s1 ⟨x, H1, I1, r1, q1⟩ => ?_
  obtain ⟨a, xs, e, q1⟩ := q1
  subst e
  cases r1
  rcases q1 with ⟨hq, q⟩ | ⟨hq, q⟩
  · obtain ⟨its, rv, p, hz⟩ := I1.list hq
    refine wpAny_pyIter_list p.isList ?_
    refine ⟨s1.heap.objs.size, [s1.heap.objs.size], _, _, H1, rfl, I1.kept (t' := s1.toks) fun b o e => Heap.get?_push_of_some _ e, turn_list a _, ⟨_, Heap.get?_push_size _ rfl, rfl, rfl⟩, fun b hb => ?_, q⟩
    have e : b = s1.heap.objs.size := by simpa using hb
    subst e
    exact I1.fpOk (Nat.le_refl _) (I1.hok.fresh (Nat.le_refl _))
  · obtain ⟨its, rv, p, hz⟩ := I1.tuple hq
    refine wpAny_pyIter_tuple (show s1.heap.IsTuple a its.toArray from p) ?_
    refine ⟨s1.heap.objs.size, [s1.heap.objs.size], _, _, H1, rfl, I1.kept (t' := s1.toks) fun b o e => Heap.get?_push_of_some _ e, turn_tuple a _, ⟨_, Heap.get?_push_size _ rfl, rfl, rfl⟩, fun b hb => ?_, q⟩
    have e : b = s1.heap.objs.size := by simpa using hb
    subst e
    exact I1.fpOk (Nat.le_refl _) (I1.hok.fresh (Nat.le_refl _))
theorem p_str {X : Cx} {tg l : Expr} {tl : TE} (hl : PE X l tl) : PI X tg l (iE rItS tl) := pi_str hl
theorem p_range1 {X : Cx} {tg a : Expr} {ta : TA} {p pos : Pos} (hm : X.mg "range" = none) (ha : PA X [a] ta) (hg : Gl X "range" := by rfl) (hs : starEach [a] X.env = [(false, eval a X.env)] := by rfl) : PI X tg (.Call (.Name "range" p) [a] [] pos) (iA rRg1 ta) := pi_range1 hg hm ha hs
theorem p_enum {X : Cx} {e : Expr} {ta : TA} {p pos tpos : Pos} {elts : List Expr} {kk : Nat} (hm : X.mg "enumerate" = none) (ha : PA X [e] ta) (hg : Gl X "enumerate" := by rfl) (hs : starEach [e] X.env = [(false, eval e X.env)] := by rfl) :
    PI X (.Tuple elts kk tpos) (.Call (.Name "enumerate" p) [e] [] pos) (iA (rEnumA X.K) ta) := pi_enumA hg hm ha hs
/-! ### the built-in names that the module leaves alone -/
structure Bn (mg : Str → Option Value) : Prop where
  len : mg "len" = none
  range : mg "range" = none
  enumerate : mg "enumerate" = none
  zip : mg "zip" = none
  isinstance : mg "isinstance" = none
  int : mg "int" = none
  str : mg "str" = none
  bool : mg "bool" = none
  list : mg "list" = none
  tuple : mg "tuple" = none
  all : mg "all" = none
  any : mg "any" = none
  max : mg "max" = none
  min : mg "min" = none
  sum : mg "sum" = none

/-! ### defs and their promises, by one fact each -/
/-- the module's name x stands for the def st -/
def Def (K : PySem.W.Frag) (mg : Str → Option Value) (x : Str) (st : Stmt) : Prop :=
  ∃ (f : Addr) (fd : FuncData), mg x = some (.ref f) ∧ FunD K x x (defArgs st) (defBody st) (defScope st) [] [] f fd
/-- the class at C has the def st as its method m -/
def DefM (K : PySem.W.Frag) (C : Addr) (m q : Str) (st : Stmt) : Prop :=
  ∃ (f : Addr) (fd : FuncData), Meth K C m f ∧ FunD K m q (defArgs st) (defBody st) (defScope st) [] [] f fd
section
variable (P : Program) (w : World) (K : PySem.W.Frag) (mg : Str → Option Value) (base : Heap)
/-- the def x keeps sp -/
def Cal (k : Nat) (x : Str) (ps : List Str) (sp : Sp) : Prop :=
  ∃ (f : Addr) (fd : FuncData), mg x = some (.ref f) ∧ PySem.W.keepIn K (.ref f) = true ∧ Binds K fd ps [] ∧ FnOk P w K mg base CX0 k f fd ps sp
/-- the method m of the class at C keeps sp -/
def CalM (k : Nat) (C : Addr) (m : Str) (ps : List Str) (sp : Sp) : Prop :=
  ∃ (f : Addr) (fd : FuncData), Meth K C m f ∧ Binds K fd ps [] ∧ FnOk P w K mg base CX0 k f fd ps sp
/-- the class x at C is made, its __init__ keeps sp -/
def CalC (k : Nat) (x : Str) (C : Addr) (ps : List Str) (sp : Sp) : Prop :=
  mg x = some (.ref C) ∧ PySem.W.makesIn K C = true ∧ PySem.W.keepIn K (.ref C) = true ∧ CalM P w K mg base k C "__init__" ps sp
end
/-- the context of a def's body that lets nothing out -/
abbrev cxR (P : Program) (w : World) (K : PySem.W.Frag) (mg : Str → Option Value) (base : Heap) (N : List Str) (qual : Str) (scope : Scope) (f : Addr) (cd : Value) (A : Around) (outer : List Env) (s : Shared) (H : Hp) : Cx where
  prog := P
  w := w
  K := K
  mg := mg
  base := base
  A := A.deeper (envOfC qual scope s.heap.objs.size f cd)
  N := N
  s_0 := s
  H_0 := H
  env := envOfC qual scope s.heap.objs.size f cd
  outer := outer
  stack := envOfC qual scope s.heap.objs.size f cd :: outer
  ex := []
  calm := true
  fn := fun _ => true
  pn := []
  xe := fun _ _ => False
section
variable {P : Program} {w : World} {K : PySem.W.Frag} {mg : Str → Option Value} {base : Heap}
theorem Cal.of {x : Str} {st : Stmt} {N ps : List Str} {k : Nat} {sp : Sp} (D : Def K mg x st) (S : FnScope N ps (defScope st))
    (hb : ∀ (kV doc pm : Value) (an : Option Addr) (cdv ct : Value) (us : List Value), us.length = ps.length → bindArgs (PySem.W.fnOf x x (defArgs st) (defBody st) (defScope st) .none kV doc pm an cdv ct) ⟨us, []⟩ = pure (ps.zip us))
    (len : ∀ vs H Q E, sp vs H Q E → vs.length = ps.length)
    (hbody : ∀ (f : Addr) (cdv : Value) (A : Around) (outer : List Env) (s : Shared) (H : Hp) (vs : List V) (Q : VK) (E : XK), Room k (A.deeper (envOfC x (defScope st) s.heap.objs.size f cdv)) → sp vs H Q E →
      ∃ t, PSs (cxR P w K mg base N x (defScope st) f cdv A outer s H) (defBody st) t ∧ t { nx := fun _ H' => Q .non H', rt := Q } (start N vs) H) : Cal P w K mg base (k + 1) x ps sp := by
  obtain ⟨f, fd, hm, F⟩ := D
  refine ⟨f, fd, hm, F.kp, F.bindsN hb, F.ok S len fun cdv A outer s H vs Q E hr h => ?_⟩
  obtain ⟨t, h1, h2⟩ := hbody f cdv A outer s H vs Q E hr h
  exact ⟨t, PSs.nox h1, h2⟩
theorem CalM.of {C : Addr} {m q : Str} {st : Stmt} {N ps : List Str} {k : Nat} {sp : Sp} (D : DefM K C m q st) (S : FnScope N ps (defScope st))
    (hb : ∀ (kV doc pm : Value) (an : Option Addr) (cdv ct : Value) (us : List Value), us.length = ps.length → bindArgs (PySem.W.fnOf m q (defArgs st) (defBody st) (defScope st) .none kV doc pm an cdv ct) ⟨us, []⟩ = pure (ps.zip us))
    (len : ∀ vs H Q E, sp vs H Q E → vs.length = ps.length)
    (hbody : ∀ (f : Addr) (cdv : Value) (A : Around) (outer : List Env) (s : Shared) (H : Hp) (vs : List V) (Q : VK) (E : XK), Room k (A.deeper (envOfC q (defScope st) s.heap.objs.size f cdv)) → sp vs H Q E →
      ∃ t, PSs (cxR P w K mg base N q (defScope st) f cdv A outer s H) (defBody st) t ∧ t { nx := fun _ H' => Q .non H', rt := Q } (start N vs) H) : CalM P w K mg base (k + 1) C m ps sp := by
  obtain ⟨f, fd, hm, F⟩ := D
  refine ⟨f, fd, hm, F.bindsN hb, F.ok S len fun cdv A outer s H vs Q E hr h => ?_⟩
  obtain ⟨t, h1, h2⟩ := hbody f cdv A outer s H vs Q E hr h
  exact ⟨t, PSs.nox h1, h2⟩
theorem Cal.imp {x : Str} {ps : List Str} {j k : Nat} {sp sp' : Sp} (C : Cal P w K mg base j x ps sp) (hk : j ≤ k) (h : ∀ vs H Q E, sp' vs H Q E → sp vs H Q E) : Cal P w K mg base k x ps sp' := by
  obtain ⟨f, fd, a, b, c, d⟩ := C
  exact ⟨f, fd, a, b, c, (d.mono hk).imp h⟩
end
section
variable {X : Cx} {k j : Nat} {ps : List Str} {sp : Sp} {x m : Str} {C : Addr} {p pos apos : Pos} {e o : Expr} {es : List Expr} {ta : TE} {t : TA}
theorem pe_fn (c : Cal X.prog X.w X.K X.mg X.base k x ps sp) (hr : Room j X.A) (hk : k ≤ j) (ha : PA X (e :: es) t) (hg : Gl X x := by rfl)
    (hdb : (x == ("__debug__" : Str)) = false := by decide) (he : starEach (e :: es) X.env = (false, eval e X.env) :: starEach es X.env := by rfl) (hpl : (backTo pos (starEach es X.env)).any (·.1) = false := by rfl) :
    PE X (.Call (.Name x p) (e :: es) [] pos) (tCall sp [] E0 t) := by
  obtain ⟨f, fd, h1, h2, h3, h4⟩ := c
  exact pe_call h4 (hr.mono hk) hg h1 h2 h3 .nil pass0 ha hdb he hpl
theorem pe_fn0 (c : Cal X.prog X.w X.K X.mg X.base k x ps sp) (hr : Room j X.A) (hk : k ≤ j) (hg : Gl X x := by rfl)
    (hdb : (x == ("__debug__" : Str)) = false := by decide) : PE X (.Call (.Name x p) [] [] pos) (tCall sp [] E0 tNil) := by
  obtain ⟨f, fd, h1, h2, h3, h4⟩ := c
  exact pe_call0 h4 (hr.mono hk) hg h1 h2 h3 .nil pass0 hdb
theorem pe_mk (c : CalC X.prog X.w X.K X.mg X.base k x C ps sp) (hr : Room j X.A) (hk : k + 1 ≤ j) (ha : PA X (e :: es) t) (hg : Gl X x := by rfl)
    (hdb : (x == ("__debug__" : Str)) = false := by decide) (he : starEach (e :: es) X.env = (false, eval e X.env) :: starEach es X.env := by rfl) (hpl : (backTo pos (starEach es X.env)).any (·.1) = false := by rfl) :
    PE X (.Call (.Name x p) (e :: es) [] pos) (tMake C sp [] E0 t) := by
  obtain ⟨h1, h2, h3, f, fd, h4, h5, h6⟩ := c
  exact pe_make ⟨h2, h4.at_, h4.fn, h3⟩ h6 (hr.mono hk) hg h1 h5 .nil pass0 ha hdb he hpl
theorem pe_mt0 {pl : Sem Bool} (hx : PE X o ta) (cl : Cls X.K C) (c : CalM X.prog X.w X.K X.mg X.base k C m ps sp) (hr : Room j X.A) (hk : k ≤ j)
    (ht : eval (.Call (.Attribute o m apos) [] [] pos) X.env = (do
      let ov ← eval o X.env
      standAt apos.atName
      let (f, first) ← holding [ov] (getMethod ov m pl)
      callWith pos f first (backTo pos (starEach [] X.env)) (backToKw pos (keywordEach [] X.env))) := by rfl) :
    PE X (.Call (.Attribute o m apos) [] [] pos) (tMeth C m sp [] E0 ta tNil) := by
  obtain ⟨f, fd, h1, h2, h3⟩ := c
  exact pe_meth0 hx cl h1 h3 (hr.mono hk) h2 .nil pass0 ht
end
/-! ### a test or a value told at once -/
def tAns (t : TT) : TT := fun σ H Q => ∃ b, (∀ Q' : Bool → Hp → Prop, Q' b H → t σ H Q') ∧ Q b H
theorem pt_ans {X : Cx} {e : Expr} {t : TT} (h : PT X e t) : PT X e (tAns t) := ⟨fun pins s σ H Q I hq => by
  obtain ⟨b, h1, h2⟩ := hq
  exact h.run pins s σ H Q I (h1 Q h2)⟩
/-! ### what stands between two statements, said -/
def tMid (t u : TS) : TS := fun D σ H => ∃ Mid : L2.St → Hp → Prop, t { D with nx := Mid } σ H ∧ ∀ σ' H', Mid σ' H' → u D σ' H'
theorem pss_cutL {X : Cx} {st : Stmt} {rest : List Stmt} {t u : TS} (h1 : PS X st t) (h2 : PSs X rest u) : PSs X (st :: rest) (tMid t u) := by
  refine ⟨fun pins s σ H D I h => ?_⟩
  obtain ⟨M, h3, h4⟩ := h
  exact (pss_cons (t := fun D' σ' H' => t { D' with nx := M } σ' H' ∧ ∀ σ'' H'', M σ'' H'' → D'.nx σ'' H'') (u := u)
    ⟨fun pins s σ H D I h => wpAny_mono (h1.run pins s σ H _ I h.1) (fun f s' q => by
      cases f with
      | next => obtain ⟨σ', H', I', q'⟩ := q; exact ⟨σ', H', I', h.2 _ _ q'⟩
      | _ => exact q) fun _ _ e => e⟩ h2).run pins s σ H D I ⟨h3, h4⟩
/-! ### heaps -/
/-- all but what stands at st is as it was -/
def Fr (st : Addr) (H H' : Hp) : Prop := ∀ b o, b ≠ st → H b = some o → H' b = some o
theorem Fr.refl {st : Addr} {H : Hp} : Fr st H H := fun _ _ _ h => h
theorem Fr.trans {st : Addr} {H H1 H2 : Hp} (a : Fr st H H1) (b : Fr st H1 H2) : Fr st H H2 := fun c o n h => b c o n (a c o n h)
theorem Fr.same {st : Addr} {H H1 H2 : Hp} (a : Fr st H H1) (b : Same H1 H2) : Fr st H H2 := fun c o n h => b c o (a c o n h)
theorem Fr.new {st p : Addr} {H H1 : Hp} {u : HO} (a : Fr st H H1) (np : H1 p = none) : Fr st H (upd H1 p u) := fun c o n h => by
  have q := a c o n h
  rw [upd_ne (ne_of_none q np)]; exact q
theorem Fr.at {st : Addr} {H H1 : Hp} {u : HO} (a : Fr st H H1) : Fr st H (upd H1 st u) := fun c o n h => by
  rw [upd_ne n]; exact a c o n h
theorem Fr.mut {st p : Addr} {H H1 : Hp} {u : HO} (a : Fr st H H1) (np : H p = none) : Fr st H (upd H1 p u) := fun c o n h => by
  rw [upd_ne (ne_of_none h np)]; exact a c o n h
theorem Same.fr {st : Addr} {H H1 : Hp} (a : Same H H1) : Fr st H H1 := fun c o _ h => a c o h
theorem Same.new {p : Addr} {H H1 : Hp} {u : HO} (a : Same H H1) (np : H1 p = none) : Same H (upd H1 p u) := fun c o h => by
  have q := a c o h
  rw [upd_ne (ne_of_none q np)]; exact q
theorem Same.mut {p : Addr} {H H1 : Hp} {u : HO} (a : Same H H1) (np : H p = none) : Same H (upd H1 p u) := fun c o h => by
  rw [upd_ne (ne_of_none h np)]; exact a c o h
theorem upd_new {H : Hp} {p q : Addr} {o u : HO} (h : H q = some o) (n : H p = none) : upd H p u q = some o := by rw [upd_ne (ne_of_none h n)]; exact h
theorem upd_old {H : Hp} {p q : Addr} {o u : HO} (h : H q = some o) (n : q ≠ p) : upd H p u q = some o := by rw [upd_ne n]; exact h
theorem Same.none {H H' : Hp} {p : Addr} (s : Same H H') (n : H' p = none) : H p = none := s.free n
theorem new_none {H : Hp} {p q : Addr} {u : HO} (n : upd H p u q = none) : H q = none := by
  by_cases e : q = p
  · subst e; rw [upd_same] at n; cases n
  · rw [upd_ne e] at n; exact n
theorem sm_get {H H' : Hp} {q : Addr} {o : HO} (s : Same H H') (h : H q = some o) : H' q = some o := s _ _ h
theorem fr_get {st : Addr} {H H' : Hp} {q : Addr} {o : HO} (s : Fr st H H') (h : H q = some o) (n : q ≠ st) : H' q = some o := s _ _ n h
theorem sl_of {K : PySem.W.Frag} {H : Hp} {p : Addr} {xs : List V} (h : H p = some (.lst xs)) : SqL K H p xs := .inl (.inl h)
theorem st_of {K : PySem.W.Frag} {H : Hp} {p : Addr} {xs : List V} (h : H p = some (.tup xs)) : SqT K H p xs := .inl (.inl h)
theorem rd_new {H : Hp} {p q : Addr} {u o : HO} (h : Rd H q u) (n : H p = none) : Rd (upd H p o) q u := by
  rcases h with h | ⟨b, h⟩
  · exact .inl (upd_new h n)
  · exact .inr ⟨b, upd_new h n⟩
theorem rd_sm {H H' : Hp} {q : Addr} {u : HO} (s : Same H H') (h : Rd H q u) : Rd H' q u := by
  rcases h with h | ⟨b, h⟩
  · exact .inl (s _ _ h)
  · exact .inr ⟨b, s _ _ h⟩
theorem sl_new {K : PySem.W.Frag} {H : Hp} {p q : Addr} {o : HO} {xs : List V} (h : SqL K H q xs) (n : H p = none) : SqL K (upd H p o) q xs := h.imp (fun h => rd_new h n) id
theorem st_new {K : PySem.W.Frag} {H : Hp} {p q : Addr} {o : HO} {xs : List V} (h : SqT K H q xs) (n : H p = none) : SqT K (upd H p o) q xs := h.imp (fun h => rd_new h n) id
theorem sl_sm {K : PySem.W.Frag} {H H' : Hp} {q : Addr} {xs : List V} (s : Same H H') (h : SqL K H q xs) : SqL K H' q xs := h.imp (fun h => rd_sm s h) id
theorem st_sm {K : PySem.W.Frag} {H H' : Hp} {q : Addr} {xs : List V} (s : Same H H') (h : SqT K H q xs) : SqT K H' q xs := h.imp (fun h => rd_sm s h) id
theorem rd_fr {st : Addr} {H H' : Hp} {q : Addr} {u : HO} (s : Fr st H H') (n : q ≠ st) (h : Rd H q u) : Rd H' q u := by
  rcases h with h | ⟨b, h⟩
  · exact .inl (s _ _ n h)
  · exact .inr ⟨b, s _ _ n h⟩
theorem sl_fr {K : PySem.W.Frag} {st : Addr} {H H' : Hp} {q : Addr} {xs : List V} (s : Fr st H H') (n : q ≠ st) (h : SqL K H q xs) : SqL K H' q xs := h.imp (fun h => rd_fr s n h) id
theorem st_fr {K : PySem.W.Frag} {st : Addr} {H H' : Hp} {q : Addr} {xs : List V} (s : Fr st H H') (n : q ≠ st) (h : SqT K H q xs) : SqT K H' q xs := h.imp (fun h => rd_fr s n h) id
theorem sa_fr {K : PySem.W.Frag} {st : Addr} {H H' : Hp} {q : Addr} {xs : List V} (s : Fr st H H') (n : q ≠ st) (h : SqA K H q xs) : SqA K H' q xs := h.imp (fun h => sl_fr s n h) (fun h => st_fr s n h)
theorem sa_new {K : PySem.W.Frag} {H : Hp} {p q : Addr} {o : HO} {xs : List V} (h : SqA K H q xs) (n : H p = none) : SqA K (upd H p o) q xs := h.imp (fun h => sl_new h n) (fun h => st_new h n)
theorem sa_sm {K : PySem.W.Frag} {H H' : Hp} {q : Addr} {xs : List V} (s : Same H H') (h : SqA K H q xs) : SqA K H' q xs := h.imp (fun h => sl_sm s h) (fun h => st_sm s h)
theorem sa_l {K : PySem.W.Frag} {H : Hp} {q : Addr} {xs : List V} (h : H q = some (.lst xs)) : SqA K H q xs := .inl (sl_of h)
theorem sa_t {K : PySem.W.Frag} {H : Hp} {q : Addr} {xs : List V} (h : H q = some (.tup xs)) : SqA K H q xs := .inr (st_of h)
theorem ty_sm {K : PySem.W.Frag} {H H' : Hp} {v : V} {t : Value} (s : Same H H') (h : TyX K H v t) : TyX K H' v t := by
  cases h with
  | base b =>
    refine .base ?_
    cases b with
    | non => exact .non
    | bl x => exact .bl x
    | int i => exact .int i
    | str x => exact .str x
    | flt x => exact .flt x
    | lst e => exact .lst (s _ _ e)
    | frz e => exact .frz (s _ _ e)
    | tup e => exact .tup (s _ _ e)
    | dK e => exact .dK (s _ _ e)
    | dT e => exact .dT (s _ _ e)
    | ins e cl ha hn htk hm => exact .ins (s _ _ e) cl ha hn htk hm
  | byt b => exact .byt b
  | set e => exact .set (s _ _ e)
  | kList e c => exact .kList e c
  | kTuple e c => exact .kTuple e c
  | kDict e c => exact .kDict e c
  | fTuple e => exact .fTuple (s _ _ e)
  | fDict e => exact .fDict (s _ _ e)
theorem ty_new {K : PySem.W.Frag} {H : Hp} {v : V} {t : Value} {p : Addr} {o : HO} (h : TyX K H v t) (np : H p = none) : TyX K (upd H p o) v t := ty_sm (fun _ _ e => upd_new e np) h
/-- a heap of one object -/
theorem rd_one {H : Hp} {p : Addr} {o u : HO} (h : H p = some o) (r : Rd (fun b => if b = p then some o else none) p u) : Rd H p u := by
  rcases r with r | ⟨b, r⟩
  · have r' : some o = some u := by simpa using r
    cases r'
    exact .inl h
  · have r' : some o = some (.frz b u) := by simpa using r
    cases r'
    exact .inr ⟨b, h⟩
end
/-! Readings step by step: one lemma a shape, by the head of the goal. -/
section
set_option maxRecDepth 100000
set_option maxHeartbeats 2000000
open PySem L2

/-! ### readings under names -/
def rLen (K : PySem.W.Frag) : List V → Hp → VK → Prop := fun xs H Q => ∃ x n, xs = [x] ∧ LenV K x H n ∧ Q (.int (n : Nat)) H
theorem c_len {X : Cx} : CallR X (.builtin "len") (rLen X.K) := call_len
def rInt1 : List V → Hp → VK → Prop := fun xs H Q => (∃ i, xs = [.int i] ∧ Q (.int i) H) ∨ ∃ k, xs = [.bl k] ∧ Q (.int (if k then 1 else 0)) H
theorem c_int {X : Cx} : CallR X (.type "int") rInt1 := call_int1
def rListOf (K : PySem.W.Frag) : List V → Hp → VK → Prop := fun xs H Q => ∃ p ys, xs = [.ref p] ∧ (SqL K H p ys ∨ SqT K H p ys) ∧ ∀ l, H l = none → Q (.ref l) (upd H l (.lst ys))
theorem c_list {X : Cx} : CallR X (.type "list") (rListOf X.K) := call_list_of
def rTupOf (K : PySem.W.Frag) : List V → Hp → VK → Prop := fun xs H Q => ∃ p ys, xs = [.ref p] ∧ ((SqL K H p ys ∧ ∀ l, H l = none → Q (.ref l) (upd H l (.tup ys))) ∨ (SqT K H p ys ∧ Q (.ref p) H))
theorem c_tuple {X : Cx} : CallR X (.type "tuple") (rTupOf X.K) := call_tuple_of
def rAddS2 : R2 := fun x y H Q => ∃ i j, x = .str i ∧ y = .str j ∧ i.length + j.length ≤ sizeLine ∧ Q (.str (i ++ j)) H
theorem o_adds {X : Cx} : OpR X (binaryOp .Add) rAddS2 := op_add_str
def rInSign : R2 := fun x y H Q => ∃ (c : Nat) (z : Str), x = .str ⟨#[c]⟩ ∧ y = .str z ∧ Q (.bl (decide (c ∈ z.cps.toList))) H
theorem o_insign {X : Cx} : OpR X (compareOp .In) rInSign := op_in_sign

/-! ### the rules with the written part named (so that a reading does not hang on its context) -/
section
variable {X : Cx} (K : PySem.W.Frag)
theorem x_list (h : X.K = K := by rfl) : IxR X (rIxL K) := h ▸ ix_list
theorem x_tup (h : X.K = K := by rfl) : IxR X (rIxT K) := h ▸ ix_tup
theorem x_seq (h : X.K = K := by rfl) : IxR X (rIx K) := h ▸ ix_seq
theorem y_list (h : X.K = K := by rfl) : SlR X (rSlL K) := h ▸ sl_list
theorem y_tup (h : X.K = K := by rfl) : SlR X (rSlA K) := h ▸ sl_tupA
theorem n_len (h : X.K = K := by rfl) : CallR X (.builtin "len") (rLen K) := h ▸ c_len
theorem n_list (h : X.K = K := by rfl) : CallR X (.type "list") (rListOf K) := h ▸ c_list
theorem n_tuple (h : X.K = K := by rfl) : CallR X (.type "tuple") (rTupOf K) := h ▸ c_tuple
theorem n_all (hc : X.calm = true) (h : X.K = K := by rfl) : CallR X (.builtin "all") (rAll K) := h ▸ cr_all hc
theorem n_isi (h : X.K = K := by rfl) : CallR X (.builtin "isinstance") (rIsi K) := h ▸ call_isi
theorem n_isiT (h : X.K = K := by rfl) : CallR X (.builtin "isinstance") (rIsiT K) := h ▸ call_isiT
theorem o_inq (h : X.K = K := by rfl) : OpR X (compareOp .In) (rIn K false) := h ▸ op_in_seq
theorem o_eqD (hu : X.A.units + 64 < cLine) (h : X.K = K := by rfl) : OpR X (compareOp .Eq) (rEqD K) := h ▸ op_eqD hu
theorem q_seq {tg l : Expr} {tl : TE} (hl : PE X l tl) (h : X.K = K := by rfl) : PI X tg l (iE (rItA K) tl) := h ▸ p_seq hl
theorem q_enum {e : Expr} {ta : TA} {p pos tpos : Pos} {elts : List Expr} {kk : Nat} (hm : X.mg "enumerate" = none) (ha : PA X [e] ta) (hg : Gl X "enumerate" := by rfl) (hs : starEach [e] X.env = [(false, eval e X.env)] := by rfl) (h : X.K = K := by rfl) :
    PI X (.Tuple elts kk tpos) (.Call (.Name "enumerate" p) [e] [] pos) (iA (rEnumA K) ta) := h ▸ p_enum hm ha hg hs
theorem e_fld {e : Expr} {f : Str} {ta : TE} {pos : Pos} (he : PE X e ta) (hb : attributeBase e f X.env (eval e X.env) = eval e X.env := by rfl) (h : X.K = K := by rfl) : PE X (.Attribute e f pos) (tFld K ta f) := h ▸ pe_fld he hb
theorem e_bm {o e : Expr} {es : List Expr} {to : TE} {t : TA} {name : Str} {apos cpos : Pos} {T id : String} {r : V → List V → Hp → VK → Prop} (pa : PlainAttrs T) (slot : Slot T name id) (hty : typeOf (.builtin id) = pure (.type "method_descriptor")) (hm : MtR X id r) (ho : PE X o to) (ha : PA X (e :: es) t)
    (hbase : attributeBase o name X.env (eval o X.env) = eval o X.env := by rfl)
    (hfew : ((backTo cpos (starEach (e :: es) X.env)).all (fun x => !x.1) && (backToKw cpos (keywordEach [] X.env)).all (fun x => x.1.isSome)
      && decide ((e :: es).length + ([] : List Keyword).length + (if ([] : List Keyword).isEmpty then 0 else 1) < 30)) = true := by rfl)
    (hline : (apos.endLine == cpos.line) = true := by rfl) (hs : starEach (e :: es) X.env = (false, eval e X.env) :: starEach es X.env := by rfl) (hplain : (backTo cpos (starEach es X.env)).any (·.1) = false := by rfl) (h : X.K = K := by rfl) :
    PE X (.Call (.Attribute o name apos) (e :: es) [] cpos) (tBM K T r to t) := h ▸ pe_bm pa slot hty hm ho ha hbase hfew hline hs hplain
theorem t_fld {o value : Expr} {f : Str} {ta tv : TE} {pos pos' : Pos} (ha : PE X o ta) (hv : PE X value tv) (hs : swapsWith value (some (.Attribute o f pos')) pos.line X.env = pure false := by rfl) (h : X.K = K := by rfl) : PS X (.Assign [.Attribute o f pos'] value pos) (sFld K ta tv f) := h ▸ ps_fld ha hv hs
end
def rRgt (x : V) (H1 : Hp) (Q : Int → Int → Hp → Prop) : Prop := ∃ n, x = .int n ∧ Q 0 n H1
/-! ### loops under names -/
def ForB (g : TG) (tb : TS) (D : Ends) (σ : L2.St) : It → Hp → Prop := fun J H1 => ∃ W : Nat → Nat → L2.St → Hp → Prop, (∃ m, W 0 m σ H1) ∧ ∀ i m σ H, W i m σ H →
    (J.stop i H ∧ D.nx σ H) ∨ (J.go i H ∧ ∃ N : L2.St → Hp → Prop, (∀ σ' H', N σ' H' → ∃ m', m' < m ∧ W (i + 1) m' σ' H') ∧ ∀ x H', J.yld i H x H' → g x σ H' fun σ2 H2 => tb { D with nx := N, ct := N, bk := D.nx } σ2 H2)
def LcB (g : TG) (tt : TT) (te : TE) (vs : List Nat) (σ : L2.St) (Q : VK) : It → Hp → Prop := fun J H1 => ∀ D, H1 D = none → ∃ W : Nat → Nat → Hp → Prop, (∃ m, W 0 m (upd H1 D (.lst []))) ∧ ∀ i m H, W i m H →
    (J.stop i H ∧ Q (.ref D) H) ∨ (J.go i H ∧ ∃ Nx : Hp → Prop, (∀ H', Nx H' → ∃ m', m' < m ∧ W (i + 1) m' H') ∧ ∀ x H', J.yld i H x H' → g x (wipe σ vs) H' fun σ2 H2 => wipe σ2 vs = wipe σ vs ∧ tt σ2 H2 fun b H3 =>
    if b = true then te σ2 H3 fun y H4 => ∃ acc, H4 D = some (.lst acc) ∧ acc.length < sizeLine ∧ Nx (upd H4 D (.lst (acc ++ [y]))) else Nx H3)
theorem for_w {J : It} {n : Nat} {G : Hp → Prop} {Y : Nat → Hp → V → Hp → Prop} (w : Walk J n G Y) {g : TG} {tb : TS} {D : Ends} {σ : L2.St} {H : Hp} (Pv : Nat → L2.St → Hp → Prop) (h0 : Pv 0 σ H) (hG : ∀ i σ H, i ≤ n → Pv i σ H → G H)
    (hs : ∀ i x σ H H', i < n → Pv i σ H → Y i H x H' → g x σ H' fun σ2 H2 => tb { D with nx := Pv (i + 1), ct := Pv (i + 1), bk := D.nx } σ2 H2) (hd : ∀ σ H, Pv n σ H → D.nx σ H) : ForB g tb D σ J H := for_it w Pv h0 hG hs hd
theorem lc_w {J : It} {n : Nat} {G : Hp → Prop} {Y : Nat → Hp → V → Hp → Prop} (w : Walk J n G Y) {g : TG} {tt : TT} {te : TE} {vs : List Nat} {σ : L2.St} {H1 : Hp} {Q : VK} (Pv : Addr → Nat → Hp → Prop) (h0 : ∀ D, H1 D = none → Pv D 0 (upd H1 D (.lst []))) (hG : ∀ D i H, H1 D = none → i ≤ n → Pv D i H → G H)
    (hs : ∀ D i x H H', H1 D = none → i < n → Pv D i H → Y i H x H' → g x (wipe σ vs) H' fun σ2 H2 => wipe σ2 vs = wipe σ vs ∧ tt σ2 H2 fun b H3 =>
      if b = true then te σ2 H3 fun y H4 => ∃ acc, H4 D = some (.lst acc) ∧ acc.length < sizeLine ∧ Pv D (i + 1) (upd H4 D (.lst (acc ++ [y]))) else Pv D (i + 1) H3) (hd : ∀ D H, H1 D = none → Pv D n H → Q (.ref D) H) : LcB g tt te vs σ Q J H1 :=
  fun D nD => lc_it w (Pv D) (h0 D nD) (fun i H hi p => hG D i H nD hi p) (fun i x H H' hi p y => hs D i x H H' nD hi p y) (fun H p => hd D H nD p)
/-! ### own instances -/
def rFld (K : PySem.W.Frag) (f : Str) (x : V) (H1 : Hp) (Q : VK) : Prop := ∃ a C dx fs v, x = .ref a ∧ H1 a = some (.ins C dx fs) ∧ Cls K C ∧ NoAttr K C f ∧ fs.lookup f = some v ∧ Q v H1
def rPut (K : PySem.W.Frag) (f : Str) (x y : V) (H2 : Hp) (N : Hp → Prop) : Prop := ∃ a C dx fs, x = .ref a ∧ H2 a = some (.ins C dx fs) ∧ Cls K C ∧ NoAttr K C f ∧ fs.length < 1000 ∧ N (upd H2 a (.ins C dx (putF f y fs)))
/-- a new instance is made -/
def MkB (C : Addr) (sp : Sp) (vs : List V) (H1 : Hp) (Q : VK) : Prop := ∀ x dx, H1 x = none → H1 dx = none → dx ≠ x → sp (.ref x :: (vs ++ [])) (upd (upd H1 dx (.own x)) x (.ins C dx [])) (fun v H2 => v = .non ∧ Q (.ref x) H2) E0
/-- the field f of the instance at a holds v -/
def Fl (K : PySem.W.Frag) (H : Hp) (a : Addr) (f : Str) (v : V) : Prop := ∃ C dx fs, H a = some (.ins C dx fs) ∧ Cls K C ∧ NoAttr K C f ∧ fs.lookup f = some v
/-- an instance of C, no field of which is m -/
def Mt (H : Hp) (a C : Addr) (m : Str) : Prop := ∃ dx fs, H a = some (.ins C dx fs) ∧ fs.lookup m = none
/-- an instance of C -/
def Is (H : Hp) (a C : Addr) : Prop := ∃ dx fs, H a = some (.ins C dx fs)
/-! ### isinstance -/
theorem kb_NoneType_str : kitB "NoneType" "str" = some false := by decide +kernel
theorem kb_NoneType_int : kitB "NoneType" "int" = some false := by decide +kernel
theorem kb_NoneType_bool : kitB "NoneType" "bool" = some false := by decide +kernel
theorem kb_NoneType_list : kitB "NoneType" "list" = some false := by decide +kernel
theorem kb_NoneType_tuple : kitB "NoneType" "tuple" = some false := by decide +kernel
theorem kb_NoneType_dict : kitB "NoneType" "dict" = some false := by decide +kernel
theorem kb_bool_str : kitB "bool" "str" = some false := by decide +kernel
theorem kb_bool_int : kitB "bool" "int" = some true := by decide +kernel
theorem kb_bool_bool : kitB "bool" "bool" = some true := by decide +kernel
theorem kb_bool_list : kitB "bool" "list" = some false := by decide +kernel
theorem kb_bool_tuple : kitB "bool" "tuple" = some false := by decide +kernel
theorem kb_bool_dict : kitB "bool" "dict" = some false := by decide +kernel
theorem kb_int_str : kitB "int" "str" = some false := by decide +kernel
theorem kb_int_int : kitB "int" "int" = some true := by decide +kernel
theorem kb_int_bool : kitB "int" "bool" = some false := by decide +kernel
theorem kb_int_list : kitB "int" "list" = some false := by decide +kernel
theorem kb_int_tuple : kitB "int" "tuple" = some false := by decide +kernel
theorem kb_int_dict : kitB "int" "dict" = some false := by decide +kernel
theorem kb_str_str : kitB "str" "str" = some true := by decide +kernel
theorem kb_str_int : kitB "str" "int" = some false := by decide +kernel
theorem kb_str_bool : kitB "str" "bool" = some false := by decide +kernel
theorem kb_str_list : kitB "str" "list" = some false := by decide +kernel
theorem kb_str_tuple : kitB "str" "tuple" = some false := by decide +kernel
theorem kb_str_dict : kitB "str" "dict" = some false := by decide +kernel
theorem kb_list_str : kitB "list" "str" = some false := by decide +kernel
theorem kb_list_int : kitB "list" "int" = some false := by decide +kernel
theorem kb_list_bool : kitB "list" "bool" = some false := by decide +kernel
theorem kb_list_list : kitB "list" "list" = some true := by decide +kernel
theorem kb_list_tuple : kitB "list" "tuple" = some false := by decide +kernel
theorem kb_list_dict : kitB "list" "dict" = some false := by decide +kernel
theorem kb_tuple_str : kitB "tuple" "str" = some false := by decide +kernel
theorem kb_tuple_int : kitB "tuple" "int" = some false := by decide +kernel
theorem kb_tuple_bool : kitB "tuple" "bool" = some false := by decide +kernel
theorem kb_tuple_list : kitB "tuple" "list" = some false := by decide +kernel
theorem kb_tuple_tuple : kitB "tuple" "tuple" = some true := by decide +kernel
theorem kb_tuple_dict : kitB "tuple" "dict" = some false := by decide +kernel
theorem kb_dict_str : kitB "dict" "str" = some false := by decide +kernel
theorem kb_dict_int : kitB "dict" "int" = some false := by decide +kernel
theorem kb_dict_bool : kitB "dict" "bool" = some false := by decide +kernel
theorem kb_dict_list : kitB "dict" "list" = some false := by decide +kernel
theorem kb_dict_tuple : kitB "dict" "tuple" = some false := by decide +kernel
theorem kb_dict_dict : kitB "dict" "dict" = some true := by decide +kernel
theorem ka1 {K : PySem.W.Frag} {t c1 : Value} {r1 : Bool} (h1 : PySem.W.kitOne K t c1 = some r1) : PySem.W.kitAny K t [c1] = some r1 := by
  unfold PySem.W.kitAny
  rw [h1]
  cases r1 <;> rfl
theorem kaC {K : PySem.W.Frag} {t c : Value} {cs : List Value} {r1 r2 : Bool} (h1 : PySem.W.kitOne K t c = some r1) (h2 : PySem.W.kitAny K t cs = some r2) : PySem.W.kitAny K t (c :: cs) = some (r1 || r2) := by
  unfold PySem.W.kitAny
  rw [h1]
  cases r1
  · exact h2
  · rfl
section
variable {K : PySem.W.Frag} {σ : L2.St} {H H' : Hp} {D : Ends} {Q : VK} {Qb : Bool → Hp → Prop} {Qa : List V → Hp → Prop} {t u v : TS} {ta tb tc te : TE} {tr : TA} {c d : TT} {x y z : V} {i j : Nat} {A B : Prop} {g : TG} {gs : TGs} {r : R2}

/-! ### statements -/
theorem k_seq (h : t { D with nx := u D } σ H) : tSeq t u D σ H := h
theorem k_set (h : te σ H fun x H1 => D.nx (σ.set i (some x)) H1) : tAsg te (gName i) D σ H := h
theorem k_asg (h : te σ H fun x H1 => g x σ H1 D.nx) : tAsg te g D σ H := h
theorem k_par (h : tr σ H fun vs H1 => ∃ v w, vs = [v, w] ∧ D.nx ((σ.set i (some v)).set j (some w)) H1) : tPar i j tr D σ H := h
theorem k_par2 {N : V → V → Prop} (h : N x y) : ∃ v w, [x, y] = [v, w] ∧ N v w := ⟨_, _, rfl, h⟩
theorem k_drop (h : te σ H fun _ H1 => D.nx σ H1) : tDrop te D σ H := h
theorem k_ret (h : te σ H D.rt) : tRet te D σ H := h
theorem k_next (h : D.nx σ H) : tNext D σ H := h
theorem k_if (h : c σ H fun b H1 => if b = true then t D σ H1 else u D σ H1) : tIfS c t u D σ H := h
theorem k_aug {tip : TIp} (hx : σ[i]? = some (some x)) (h : te σ H fun y H1 => tip x y H1 fun z H2 => D.nx (σ.set i (some z)) H2) : tAug i te tip D σ H := ⟨_, hx, h⟩
theorem k_ipI {f : Int → Int → Int} {a b : Int} (h : Q (.int (f a b)) H) : ipI f (.int a) (.int b) H Q := ⟨_, _, rfl, rfl, h⟩
theorem k_gname {N : L2.St → Hp → Prop} (h : N (σ.set i (some x)) H) : gName i x σ H N := h
theorem k_gsub {to ti : TE} {ts : TSet} {N : L2.St → Hp → Prop} (h : to σ H fun o H1 => ti σ H1 fun i H2 => ts o i x H2 fun H3 => N σ H3) : gSub to ti ts x σ H N := h
theorem k_gtup {a : Addr} {xs : List V} {n : Nat} {N : L2.St → Hp → Prop} (hs : SqT K H a xs) (hl : xs.length = n) (h : gs xs σ H N) : gTup K n gs (.ref a) σ H N := ⟨a, xs, rfl, hs, hl, h⟩
theorem k_gcons {xs : List V} {N : L2.St → Hp → Prop} (h : g x σ H fun σ' H' => gs xs σ' H' N) : gCons g gs (x :: xs) σ H N := ⟨_, _, rfl, h⟩
theorem k_gnil {N : L2.St → Hp → Prop} (h : N σ H) : gNil [] σ H N := ⟨rfl, h⟩
theorem k_setl {p : Addr} {xs : List V} {k : Int} {n : Nat} {N : Hp → Prop} (hp : H p = some (.lst xs)) (hn : ixN xs.length k = some n) (h : N (upd H p (.lst (xs.set n x)))) : rSetL (.ref p) (.int k) x H N := ⟨p, xs, k, n, rfl, rfl, hp, hn, h⟩
theorem k_st1 {p : Addr} {a b c d : V} {N : Hp → Prop} (hp : H p = some (.lst [a, b, c, d])) (h : N (upd H p (.lst [a, x, c, d]))) : rSetL (.ref p) (.int 1) x H N := ⟨p, _, 1, 1, rfl, rfl, hp, rfl, h⟩
theorem k_st2 {p : Addr} {a b c d : V} {N : Hp → Prop} (hp : H p = some (.lst [a, b, c, d])) (h : N (upd H p (.lst [a, b, x, d]))) : rSetL (.ref p) (.int 2) x H N := ⟨p, _, 2, 2, rfl, rfl, hp, rfl, h⟩
theorem k_st3 {p : Addr} {a b c d : V} {N : Hp → Prop} (hp : H p = some (.lst [a, b, c, d])) (h : N (upd H p (.lst [a, b, c, x]))) : rSetL (.ref p) (.int 3) x H N := ⟨p, _, 3, 3, rfl, rfl, hp, rfl, h⟩

/-! ### tests -/
theorem k_test (h : te σ H fun x H' => ∃ k, x = .bl k ∧ Qb k H') : tTest te σ H Qb := h
theorem k_B (h : te σ H fun x H' => ∃ k, x = .bl k ∧ Qb k H') : tB te σ H Qb := h
theorem k_blE {b : Bool} {P : Bool → Prop} (h : P b) : ∃ k, V.bl b = .bl k ∧ P k := ⟨_, rfl, h⟩
theorem k_and (h : c σ H fun b H1 => if b = true then d σ H1 Qb else Qb false H1) : tAnd c d σ H Qb := h
theorem k_or (h : c σ H fun b H1 => if b = true then Qb true H1 else d σ H1 Qb) : tOr c d σ H Qb := h
theorem k_not (h : c σ H fun b H1 => Qb (!b) H1) : tNot c σ H Qb := h
theorem k_dec {p : Prop} [Decidable p] (h1 : p → A) (h2 : ¬ p → B) : if decide p = true then A else B := by
  by_cases h : p
  · rw [if_pos (decide_eq_true h)]; exact h1 h
  · rw [if_neg (by rw [decide_eq_false h]; exact Bool.false_ne_true)]; exact h2 h
theorem k_ndec {p : Prop} [Decidable p] (h1 : p → B) (h2 : ¬ p → A) : if (!decide p) = true then A else B := by
  by_cases h : p
  · rw [decide_eq_true h]; exact iteF (h1 h)
  · rw [decide_eq_false h]; exact iteT (h2 h)
theorem k_no {b : Bool} (hb : b = false) (h : B) : if b = true then A else B := by rw [if_neg (by rw [hb]; exact Bool.false_ne_true)]; exact h
theorem k_bool {b : Bool} (h1 : b = true → A) (h2 : b = false → B) : if b = true then A else B := by
  cases b with
  | true => exact iteT (h1 rfl)
  | false => exact iteF (h2 rfl)

/-! ### expressions -/
theorem k_var (hv : σ[i]? = some (some x)) (h : Q x H) : tVar i σ H Q := ⟨_, hv, h⟩
theorem k_c (h : Q x H) : tC x σ H Q := h
theorem k_op (h : ta σ H fun x H1 => tb σ H1 fun y H2 => r x y H2 Q) : tOp r ta tb σ H Q := h
theorem k_un {f : V → Hp → VK → Prop} (h : ta σ H fun x H1 => f x H1 Q) : tUn f ta σ H Q := h
theorem k_U {f : Int → V} {a : Int} (h : Q (f a) H) : rU f (.int a) H Q := ⟨_, rfl, h⟩
theorem k_I0 {f : Int → Int → V} {a b : Int} (h : Q (f a b) H) : rI0 f (.int a) (.int b) H Q := ⟨_, _, rfl, rfl, h⟩
theorem k_I {C : Int → Int → Prop} {f : Int → Int → V} {a b : Int} (hc : C a b) (h : Q (f a b) H) : rI C f (.int a) (.int b) H Q := ⟨_, _, rfl, rfl, hc, h⟩
theorem int_eq {a b : Int} : decide (V.int a = V.int b) = decide (a = b) := by
  by_cases h : a = b
  · subst h; simp
  · rw [decide_eq_false h, decide_eq_false (fun e => h (V.int.inj e))]
theorem k_eqI {a b : Int} (h : Q (.bl (decide (a = b))) H) : rEq (.int a) (.int b) H Q := ⟨rfl, by rw [int_eq]; exact h⟩
theorem k_neI {a b : Int} (h : Q (.bl (!decide (a = b))) H) : rNe (.int a) (.int b) H Q := ⟨rfl, by rw [int_eq]; exact h⟩
theorem str_eq {a b : Str} : decide (V.str a = V.str b) = decide (a = b) := by
  by_cases h : a = b
  · subst h; simp
  · rw [decide_eq_false h, decide_eq_false (fun e => h (V.str.inj e))]
theorem k_eqS {a b : Str} (h : Q (.bl (decide (a = b))) H) : rEq (.str a) (.str b) H Q := ⟨rfl, by rw [str_eq]; exact h⟩
theorem k_neS {a b : Str} (h : Q (.bl (!decide (a = b))) H) : rNe (.str a) (.str b) H Q := ⟨rfl, by rw [str_eq]; exact h⟩
theorem bl_eq {a b : Bool} : decide (V.bl a = V.bl b) = (a == b) := by cases a <;> cases b <;> rfl
theorem k_eqB {a b : Bool} (h : Q (.bl (a == b)) H) : rEq (.bl a) (.bl b) H Q := ⟨rfl, by rw [bl_eq]; exact h⟩
theorem k_neB {a b : Bool} (h : Q (.bl (!(a == b))) H) : rNe (.bl a) (.bl b) H Q := ⟨rfl, by rw [bl_eq]; exact h⟩
theorem k_ixl {p : Addr} {xs : List V} {k : Int} (hp : SqL K H p xs) (hn : atI xs k = some x) (h : Q x H) : rIxL K (.ref p) (.int k) H Q := ⟨p, xs, k, x, rfl, rfl, hp, hn, h⟩
theorem k_ixt {p : Addr} {xs : List V} {k : Int} (hp : SqT K H p xs) (hn : atI xs k = some x) (h : Q x H) : rIxT K (.ref p) (.int k) H Q := ⟨p, xs, k, x, rfl, rfl, hp, hn, h⟩
theorem k_ixa {p : Addr} {xs : List V} {k : Int} (hp : SqA K H p xs) (hn : atI xs k = some x) (h : Q x H) : rIx K (.ref p) (.int k) H Q :=
  hp.elim (fun hp => .inl ⟨p, xs, k, x, rfl, rfl, hp, hn, h⟩) fun hp => .inr (.inl ⟨p, xs, k, x, rfl, rfl, hp, hn, h⟩)
theorem k_nil (h : Qa [] H) : tNil σ H Qa := h
theorem k_cons (h : ta σ H fun x H1 => tr σ H1 fun xs H2 => Qa (x :: xs) H2) : tCons ta tr σ H Qa := h
theorem k_cb {f : List V → Hp → VK → Prop} (h : tr σ H fun vs H1 => f vs H1 Q) : tCB f tr σ H Q := h
theorem k_call {sp : Sp} {E : XK} (h : tr σ H fun vs H1 => sp (vs ++ []) H1 Q E) : tCall sp [] E tr σ H Q := h
theorem k_lst (h : tr σ H fun xs H1 => xs.length ≤ sizeLine ∧ ∀ p, H1 p = none → Q (.ref p) (upd H1 p (.lst xs))) : tLst tr σ H Q := h
theorem k_tup (h : tr σ H fun xs H1 => xs.length ≤ sizeLine ∧ ∀ p, H1 p = none → Q (.ref p) (upd H1 p (.tup xs))) : tTup tr σ H Q := h
theorem k_ifx (h : c σ H fun b H1 => if b = true then ta σ H1 Q else tb σ H1 Q) : tIf c ta tb σ H Q := h
theorem k_andv (h : ta σ H fun x H1 => ∃ c, x = .bl c ∧ if c = true then tb σ H1 Q else Q (.bl false) H1) : tAndV ta tb σ H Q := h
theorem k_orv (h : ta σ H fun x H1 => ∃ c, x = .bl c ∧ if c = true then Q (.bl true) H1 else tb σ H1 Q) : tOrV ta tb σ H Q := h
theorem k_notv (h : ta σ H fun x H1 => ∃ c, x = .bl c ∧ Q (.bl (!c)) H1) : tNotV ta σ H Q := h
theorem k_lenl {p : Addr} {xs : List V} (hp : SqL K H p xs) (h : Q (.int (xs.length : Nat)) H) : rLen K [.ref p] H Q := ⟨_, _, rfl, .inl ⟨xs, hp, rfl⟩, h⟩
theorem k_lent {p : Addr} {xs : List V} (hp : SqT K H p xs) (h : Q (.int (xs.length : Nat)) H) : rLen K [.ref p] H Q := ⟨_, _, rfl, .inr ⟨xs, hp, rfl⟩, h⟩
theorem k_lena {p : Addr} {xs : List V} (hp : SqA K H p xs) (h : Q (.int (xs.length : Nat)) H) : rLen K [.ref p] H Q := hp.elim (fun hp => k_lenl hp h) fun hp => k_lent hp h
theorem k_lens {z : Str} (hz : z.length ≤ sizeLine) (h : Q (.int (z.length : Nat)) H) : rLen K [.str z] H Q := ⟨_, _, rfl, ⟨hz, rfl⟩, h⟩
theorem k_inti {a : Int} (h : Q (.int a) H) : rInt1 [.int a] H Q := .inl ⟨_, rfl, h⟩
theorem k_intb {b : Bool} (h : Q (.int (if b then 1 else 0)) H) : rInt1 [.bl b] H Q := .inr ⟨_, rfl, h⟩
theorem k_sl {f : V → Option Int → Option Int → Hp → VK → Prop} {tl th : TO} (h : te σ H fun x H1 => tl σ H1 fun l H2 => th σ H2 fun u H3 => f x l u H3 Q) : tSl f te tl th σ H Q := h
theorem k_nopart {Qo : Option Int → Hp → Prop} (h : Qo none H) : tNoPart σ H Qo := h
theorem k_part {Qo : Option Int → Hp → Prop} (h : te σ H fun x H1 => ∃ i, x = .int i ∧ Qo (some i) H1) : tPart te σ H Qo := h
theorem k_parti {N : Int → Prop} {a : Int} (h : N a) : ∃ i, V.int a = .int i ∧ N i := ⟨_, rfl, h⟩
theorem k_sll {lo hi : Option Int} {p : Addr} {xs : List V} (hp : SqL K H p xs) (h : ∀ l, H l = none → Q (.ref l) (upd H l (.lst (cutV xs lo hi)))) : rSlL K (.ref p) lo hi H Q := ⟨p, xs, rfl, hp, h⟩
theorem k_for {wi : TI} {tb : TS} (h : wi σ H (ForB g tb D σ)) : tFor wi g tb D σ H := h
variable {R : It → Hp → Prop}
theorem k_iE {ri : V → Hp → (It → Hp → Prop) → Prop} (h : te σ H fun x H1 => ri x H1 R) : iE ri te σ H R := h
theorem k_iA {ri : List V → Hp → (It → Hp → Prop) → Prop} (h : tr σ H fun x H1 => ri x H1 R) : iA ri tr σ H R := h
theorem k_itl {p : Addr} {xs : List V} (hp : SqL K H p xs) (h : R (Itl K p) H) : rItL K (.ref p) H R := ⟨p, rfl, ⟨xs, hp⟩, h⟩
theorem k_itt {p : Addr} {xs : List V} (hp : SqT K H p xs) (h : R (Itt K p) H) : rItT K (.ref p) H R := ⟨p, rfl, ⟨xs, hp⟩, h⟩
theorem k_its {s : Str} (h : R (Its s) H) : rItS (.str s) H R := ⟨s, rfl, h⟩
theorem k_rg1 {n : Int} (h1 : -(2 ^ 62) ≤ n) (h2 : n < 2 ^ 62) (h : R (Itr 0 n.toNat) H) : rRg1 [.int n] H R := ⟨n, rfl, h1, h2, h⟩
theorem k_rg1n {n : Nat} (h2 : n < 10000) (h : R (Itr 0 n) H) : rRg1 [.int (n : Int)] H R := ⟨n, rfl, by omega, by omega, by rw [Int.toNat_natCast]; exact h⟩
theorem k_enuml {p : Addr} {xs : List V} (hp : SqL K H p xs) (h : R (Ite K p) H) : rEnumA K [.ref p] H R := ⟨p, xs, rfl, .inl ⟨hp, h⟩⟩
theorem k_enumt {p : Addr} {xs : List V} (hp : SqT K H p xs) (h : R (IteT K p) H) : rEnumA K [.ref p] H R := ⟨p, xs, rfl, .inr ⟨hp, h⟩⟩
theorem sl_rd {a : Addr} {xs : List V} {H' : Hp} (k : ∀ u, Rd H a u → Rd H' a u) (h : SqL K H a xs) : SqL K H' a xs := h.imp (k _) id
theorem st_rd {a : Addr} {xs : List V} {H' : Hp} (k : ∀ u, Rd H a u → Rd H' a u) (h : SqT K H a xs) : SqT K H' a xs := h.imp (k _) id
/-- for i, x in enumerate(xs), xs a list or a tuple -/
theorem for_enum {tb : TS} {a : Addr} {xs : List V} {H0 : Hp} (hS : SqA K H0 a xs) (Pv : Nat → L2.St → Hp → Prop) (h0 : Pv 0 σ H) (hG : ∀ i σ' H', i ≤ xs.length → Pv i σ' H' → ∀ u, Rd H0 a u → Rd H' a u)
    (hs : ∀ i x σ' H' T, i < xs.length → Pv i σ' H' → H' T = none → xs[i]? = some x → g (.ref T) σ' (upd H' T (.tup [.int (i : Nat), x])) fun σ2 H2 => tb { D with nx := Pv (i + 1), ct := Pv (i + 1), bk := D.nx } σ2 H2)
    (hd : ∀ σ' H', Pv xs.length σ' H' → D.nx σ' H') : rEnumA K [.ref a] H (ForB g tb D σ) := by
  rcases hS with hS | hS
  · refine k_enuml (sl_rd (hG 0 σ H (Nat.zero_le _) h0) hS) (for_w walk_enum Pv h0 (fun i σ' H' hi p => sl_rd (hG i σ' H' hi p) hS) ?_ hd)
    rintro i v σ' H' H'' hi p ⟨T, x, y, rfl, nT, rfl, e1, e2⟩
    cases e1
    exact hs i y σ' H' T hi p nT e2
  · refine k_enumt (st_rd (hG 0 σ H (Nat.zero_le _) h0) hS) (for_w walk_enumT Pv h0 (fun i σ' H' hi p => st_rd (hG i σ' H' hi p) hS) ?_ hd)
    rintro i v σ' H' H'' hi p ⟨T, x, y, rfl, nT, rfl, e1, e2⟩
    cases e1
    exact hs i y σ' H' T hi p nT e2
theorem all_flat_str (ws : List Str) : (ws.map V.str).all flatV = true := by rw [List.all_map]; exact List.all_eq_true.mpr fun _ _ => rfl
theorem all_flat_int (ns : List Int) : (ns.map V.int).all flatV = true := by rw [List.all_map]; exact List.all_eq_true.mpr fun _ _ => rfl
theorem inV_str (s : Str) (ws : List Str) : inV (.str s) (ws.map V.str) = decide (s ∈ ws) := by
  unfold inV
  rw [List.any_map]
  show ws.any (fun y => eqV (.str y) (.str s)) = _
  rw [Bool.eq_iff_iff, List.any_eq_true, decide_eq_true_iff]
  constructor
  · rintro ⟨y, hy, e⟩
    have e' : (y == s) = true := e
    rw [← eq_of_beq e']; exact hy
  · intro h
    exact ⟨s, h, beq_self_eq_true s⟩
theorem inV_int (n : Int) (ns : List Int) : inV (.int n) (ns.map V.int) = decide (n ∈ ns) := by
  unfold inV
  rw [List.any_map]
  show ns.any (fun y => eqV (.int y) (.int n)) = _
  rw [Bool.eq_iff_iff, List.any_eq_true, decide_eq_true_iff]
  constructor
  · rintro ⟨y, hy, e⟩
    have e' : (y == n) = true := e
    rw [← eq_of_beq e']; exact hy
  · intro h
    exact ⟨n, h, beq_self_eq_true n⟩
theorem k_in {p : Addr} {xs : List V} (hp : SqA K H p xs) (hx : flatV x = true) (hf : xs.all flatV = true) (h : Q (.bl (inV x xs)) H) : rIn K false x (.ref p) H Q := ⟨p, xs, rfl, hp, hx, hf, h⟩
theorem k_nin {p : Addr} {xs : List V} (hp : SqA K H p xs) (hx : flatV x = true) (hf : xs.all flatV = true) (h : Q (.bl (!inV x xs)) H) : rIn K true x (.ref p) H Q := ⟨p, xs, rfl, hp, hx, hf, h⟩
theorem k_inS {p : Addr} {s : Str} {ws : List Str} (hp : SqA K H p (ws.map V.str)) (h : Q (.bl (decide (s ∈ ws))) H) : rIn K false (.str s) (.ref p) H Q := k_in hp rfl (all_flat_str ws) (by rw [inV_str]; exact h)
theorem k_inI {p : Addr} {n : Int} {ns : List Int} (hp : SqA K H p (ns.map V.int)) (h : Q (.bl (decide (n ∈ ns))) H) : rIn K false (.int n) (.ref p) H Q := k_in hp rfl (all_flat_int ns) (by rw [inV_int]; exact h)
theorem k_ninS {p : Addr} {s : Str} {ws : List Str} (hp : SqA K H p (ws.map V.str)) (h : Q (.bl (!decide (s ∈ ws))) H) : rIn K true (.str s) (.ref p) H Q := k_nin hp rfl (all_flat_str ws) (by rw [inV_str]; exact h)
theorem k_ninI {p : Addr} {n : Int} {ns : List Int} (hp : SqA K H p (ns.map V.int)) (h : Q (.bl (!decide (n ∈ ns))) H) : rIn K true (.int n) (.ref p) H Q := k_nin hp rfl (all_flat_int ns) (by rw [inV_int]; exact h)
theorem k_zipl {p q : Addr} {xs ys : List V} (hp : SqL K H p xs) (hq : SqL K H q ys) (h : R (Itz K p q) H) : rZipL K [.ref p, .ref q] H R := ⟨p, q, xs, ys, rfl, hp, hq, h⟩
theorem k_isi {n : String} {t : Value} {b : Bool} (ht : TyX K H x t) (hk : PySem.W.kitOne K t (.type n) = some b) (h : Q (.bl b) H) : rIsi K [x, .ty n] H Q := ⟨x, _, t, _, b, rfl, .ty n, ht, hk, h⟩
theorem k_isiO {C : Addr} {t : Value} {b : Bool} (ht : TyX K H x t) (hk : PySem.W.kitOne K t (.ref C) = some b) (h : Q (.bl b) H) : rIsi K [x, .ref C] H Q := ⟨x, _, t, _, b, rfl, .own C, ht, hk, h⟩
theorem or_t {b : Bool} : (true || b) = true := rfl
theorem or_f {b : Bool} : (false || b) = b := rfl
theorem iteNT (h : B) : if (!true) = true then A else B := h
theorem iteNF (h : A) : if (!false) = true then A else B := h
theorem k_all {p : Addr} {bs : List Bool} (hp : H p = some (.lst (bs.map V.bl))) (h : Q (.bl (bs.all id)) H) : rAll K [.ref p] H Q := ⟨p, bs, rfl, sl_of hp, h⟩
theorem k_any {p : Addr} {bs : List Bool} (hp : H p = some (.lst (bs.map V.bl))) (h : Q (.bl (bs.any id)) H) : rAny K [.ref p] H Q := ⟨p, bs, rfl, sl_of hp, h⟩
theorem k_insign {c : Nat} {s : Str} (h : Q (.bl (decide (c ∈ s.cps.toList))) H) : rInSign (.str ⟨#[c]⟩) (.str s) H Q := ⟨c, s, rfl, rfl, h⟩
theorem k_isi2 {tp : Addr} {n m : String} {t : Value} {b b1 b2 : Bool} (hb : (b1 || b2) = b) (hp : H tp = some (.tup [.ty n, .ty m])) (ht : TyX K H x t) (h1 : PySem.W.kitOne K t (.type n) = some b1) (h2 : PySem.W.kitOne K t (.type m) = some b2) (h : Q (.bl b) H) : rIsiT K [x, .ref tp] H Q :=
  ⟨x, tp, _, t, _, _, rfl, hp, .cons (.ty n) (.cons (.ty m) .nil), ht, kaC h1 (ka1 h2), by rw [hb]; exact h⟩
theorem k_isi4 {tp : Addr} {n m n' m' : String} {t : Value} {b1 b2 b3 b4 : Bool} (hp : H tp = some (.tup [.ty n, .ty m, .ty n', .ty m'])) (ht : TyX K H x t) (h1 : PySem.W.kitOne K t (.type n) = some b1) (h2 : PySem.W.kitOne K t (.type m) = some b2) (h3 : PySem.W.kitOne K t (.type n') = some b3) (h4 : PySem.W.kitOne K t (.type m') = some b4) (h : Q (.bl (b1 || (b2 || (b3 || b4)))) H) : rIsiT K [x, .ref tp] H Q :=
  ⟨x, tp, _, t, _, _, rfl, hp, .cons (.ty n) (.cons (.ty m) (.cons (.ty n') (.cons (.ty m') .nil))), ht, kaC h1 (kaC h2 (kaC h3 (ka1 h4))), h⟩
theorem k_chain {r' : R2} (h : ta σ H fun x H1 => tb σ H1 fun y H2 => r x y H2 fun z H3 => ∃ k, z = .bl k ∧ (if k = true then tc σ H3 fun w' H4 => r' y w' H4 Q else Q (.bl false) H3)) : tChain r r' ta tb tc σ H Q := h
/-! fields and methods of own instances -/
theorem k_fldR {f : Str} (h : ta σ H fun x H1 => rFld K f x H1 Q) : tFld K ta f σ H Q := h
theorem k_fl {a : Addr} {f : Str} (hf : Fl K H a f x) (h : Q x H) : rFld K f (.ref a) H Q := by
  obtain ⟨C, dx, fs, h1, h2, h3, h4⟩ := hf
  exact ⟨a, C, dx, fs, x, rfl, h1, h2, h3, h4, h⟩
theorem k_sfld {f : Str} (h : tb σ H fun y H1 => ta σ H1 fun x H2 => rPut K f x y H2 fun H3 => D.nx σ H3) : sFld K ta tb f D σ H := h
theorem k_meth {C : Addr} {m : Str} {sp : Sp} {E : XK} (h : ta σ H fun x H1 => ∃ a dx fs, x = .ref a ∧ H1 a = some (.ins C dx fs) ∧ fs.lookup m = none ∧ tr σ H1 fun vs H2 => sp (x :: (vs ++ [])) H2 Q E) : tMeth C m sp [] E ta tr σ H Q := h
theorem k_mt {a C : Addr} {m : Str} (hm : Mt H a C m) (h : A) : ∃ a' dx fs, V.ref a = .ref a' ∧ H a' = some (.ins C dx fs) ∧ fs.lookup m = none ∧ A := by
  obtain ⟨dx, fs, h1, h2⟩ := hm
  exact ⟨a, dx, fs, rfl, h1, h2, h⟩
theorem k_make {C : Addr} {sp : Sp} (h : tr σ H fun vs H1 => MkB C sp vs H1 Q) : tMake C sp [] E0 tr σ H Q := h
theorem k_bm {T : String} {f : V → List V → Hp → VK → Prop} (h : te σ H fun x H1 => tyV K T x H1 ∧ tr σ H1 fun xs H2 => f x xs H2 Q) : tBM K T f te tr σ H Q := h
theorem k_bm0 {T : String} {f : V → List V → Hp → VK → Prop} (h : te σ H fun x H1 => tyV K T x H1 ∧ f x [] H1 Q) : tBM0 K T f te σ H Q := h
theorem k_tyl {p : Addr} {xs : List V} (hp : SqL K H p xs) (h : A) : tyV K "list" (.ref p) H ∧ A := ⟨.inl ⟨rfl, xs, hp⟩, h⟩
theorem k_tys {s : Str} (h : A) : tyV K "str" (.str s) H ∧ A := ⟨rfl, h⟩
theorem k_ext {p q : Addr} {xs ys : List V} (hp : H p = some (.lst xs)) (hq : H q = some (.lst ys)) (hn : xs.length + ys.length < 100000) (h : Q .non (upd H p (.lst (xs ++ ys)))) : rExtend (.ref p) [.ref q] H Q := ⟨p, q, xs, ys, rfl, rfl, hp, hq, Nat.le_of_lt (Nat.lt_of_lt_of_le hn (by decide)), h⟩
theorem k_popat {p : Addr} {xs : List V} {n : Nat} (hp : H p = some (.lst xs)) (hn : xs[n]? = some x) (hl : n < 100000) (h : Q x (upd H p (.lst (xs.eraseIdx n)))) : rPopAt (.ref p) [.int (n : Int)] H Q := by
  have hj : n < xs.length := (List.getElem?_eq_some_iff.mp hn).1
  have e : ixN xs.length (n : Int) = some n := by
    unfold ixN
    rw [if_pos (by omega), if_pos (by omega), Int.toNat_natCast]
  exact ⟨p, xs, n, n, x, rfl, rfl, hp, by omega, by omega, (ixN_seq e).1, hn, h⟩
theorem k_lc {wi : TI} {tt : TT} {vs : List Nat} (h : wi σ H (LcB g tt te vs σ Q)) : tLc wi g tt te vs σ H Q := h
theorem k_yes0 (h : Qb true H) : tYes σ H Qb := h
theorem k_adds {a b : Str} (hl : a.length + b.length < 1000000) (h : Q (.str (a ++ b)) H) : rAddS2 (.str a) (.str b) H Q := ⟨a, b, rfl, rfl, Nat.le_of_lt (Nat.lt_of_lt_of_le hl (by decide)), h⟩
theorem sz {n : Nat} (h : n < 100000) : n < sizeLine := Nat.lt_of_lt_of_le h (by decide)
theorem szl {n : Nat} (h : n < 100000) : n ≤ sizeLine := Nat.le_of_lt (sz h)
theorem k_lrg {te' : L2.St → Hp → (Int → Int → Hp → Prop) → Prop} (h : te' σ H fun a b H1 => RgOk a b ∧ ∀ q, H1 q = none → Q (.ref q) (upd H1 q (.lst (rgV a b)))) : tLstRg te' σ H Q := h
theorem k_rgt {Qr : Int → Int → Hp → Prop} (h : ta σ H fun x H1 => rRgt x H1 Qr) : tRg1 ta σ H Qr := h
theorem k_rgti {Qr : Int → Int → Hp → Prop} {n : Int} (h : Qr 0 n H) : rRgt (.int n) H Qr := ⟨n, rfl, h⟩
theorem k_rep {p : Addr} {xs : List V} {n : Nat} (hp : H p = some (.lst xs)) (hn : xs.length * n < 100000) (hn2 : n < 100000) (h : ∀ l, H l = none → Q (.ref l) (upd H l (.lst (List.replicate n xs).flatten))) : rRep (.ref p) (.int (n : Int)) H Q := ⟨p, n, xs, rfl, rfl, hp, by omega, by omega, by rw [Int.toNat_natCast]; exact Nat.le_of_lt (Nat.lt_of_lt_of_le hn (by decide)), fun l nl => by rw [Int.toNat_natCast]; exact h l nl⟩
theorem k_app {p : Addr} {xs : List V} (hp : H p = some (.lst xs)) (hn : xs.length < 10000) (h : Q .non (upd H p (.lst (xs ++ [x])))) : rAppend (.ref p) [x] H Q := ⟨p, xs, x, rfl, rfl, hp, Nat.lt_of_lt_of_le hn (by decide), h⟩
end
end
/-! The draws of a law: fresh, fill, take, one. -/
end Lf
namespace Lf
open PySem L2
local macro_rules | `(tactic| walk_at "nq") => `(tactic| first | with_reducible assumption | with_reducible exact Ne.symm (by assumption) | with_reducible exact ne_of_none (by assumption) (by assumption) | with_reducible exact Ne.symm (ne_of_none (by assumption) (by assumption)))
local macro_rules | `(tactic| walk_at "gt") => `(tactic| first | with_reducible assumption | with_reducible exact upd_same | ((with_reducible refine' upd_new ?ha ?hb); (case hb => with_reducible assumption); (case ha => walk_at "gt")) | ((with_reducible refine' upd_old ?ha ?hb); (case hb => walk_at "nq"); (case ha => walk_at "gt")) | ((with_reducible refine' sm_get ?hb ?ha); (case hb => with_reducible assumption); (case ha => walk_at "gt")) | ((with_reducible refine' fr_get ?hb ?ha ?hc); (case hb => with_reducible assumption); (case hc => walk_at "nq"); (case ha => walk_at "gt")))
local macro_rules | `(tactic| walk_at "sl") => `(tactic| first | with_reducible assumption | ((with_reducible refine' sl_of ?ha); (case ha => walk_at "gt")) | ((with_reducible refine' sl_new ?ha ?hb); (case hb => with_reducible assumption); (case ha => walk_at "sl")) | ((with_reducible refine' sl_sm ?hb ?ha); (case hb => with_reducible assumption); (case ha => walk_at "sl")) | ((with_reducible refine' sl_fr ?hb ?hc ?ha); (case hb => with_reducible assumption); (case hc => walk_at "nq"); (case ha => walk_at "sl")))
local macro_rules | `(tactic| walk_at "st") => `(tactic| first | with_reducible assumption | ((with_reducible refine' st_of ?ha); (case ha => walk_at "gt")) | ((with_reducible refine' st_new ?ha ?hb); (case hb => with_reducible assumption); (case ha => walk_at "st")) | ((with_reducible refine' st_sm ?hb ?ha); (case hb => with_reducible assumption); (case ha => walk_at "st")) | ((with_reducible refine' st_fr ?hb ?hc ?ha); (case hb => with_reducible assumption); (case hc => walk_at "nq"); (case ha => walk_at "st")))
local macro_rules | `(tactic| walk_at "sa") => `(tactic| first | with_reducible assumption | ((with_reducible refine' sa_l ?ha); (case ha => walk_at "gt")) | ((with_reducible refine' sa_t ?ha); (case ha => walk_at "gt")) | ((with_reducible refine' sa_new ?ha ?hb); (case hb => with_reducible assumption); (case ha => walk_at "sa")) | ((with_reducible refine' sa_sm ?hb ?ha); (case hb => with_reducible assumption); (case ha => walk_at "sa")) | ((with_reducible refine' sa_fr ?hb ?hc ?ha); (case hb => with_reducible assumption); (case hc => walk_at "nq"); (case ha => walk_at "sa")) | ((with_reducible refine' Or.inl ?ha); (case ha => walk_at "sl")) | ((with_reducible refine' Or.inr ?ha); (case ha => walk_at "st")))
local macro_rules | `(tactic| walk_at "ln") => `(tactic| first | decide | omega | exact Nat.le_of_ble_eq_true rfl | (simp only [List.length_append, List.length_map, List.length_cons, List.length_nil, List.length_flatMap]; omega))
local macro_rules | `(tactic| walk_at "ty") => `(tactic| first | with_reducible assumption | with_reducible exact .base (.int _) | with_reducible exact .base (.str _) | with_reducible exact .base (.bl _) | with_reducible exact .base .non | ((with_reducible refine' TyX.base (TyOf.lst ?ha)); (case ha => walk_at "gt")) | ((with_reducible refine' TyX.base (TyOf.tup ?ha)); (case ha => walk_at "gt")) | ((with_reducible refine' TyX.base (TyOf.dK ?ha)); (case ha => walk_at "gt")) | ((with_reducible refine' ty_new ?ha ?hb); (case hb => with_reducible assumption); (case ha => walk_at "ty")) | ((with_reducible refine' ty_sm ?hb ?ha); (case hb => with_reducible assumption); (case ha => walk_at "ty")))
local macro_rules | `(tactic| walk_at "kb") => `(tactic| first | with_reducible assumption | exact kb_str_str | exact kb_int_str | exact kb_list_str | exact kb_tuple_str | exact kb_bool_str | exact kb_NoneType_str | exact kb_dict_str | exact kb_str_int | exact kb_int_int | exact kb_list_int | exact kb_tuple_int | exact kb_bool_int | exact kb_NoneType_int | exact kb_dict_int | exact kb_str_bool | exact kb_int_bool | exact kb_list_bool | exact kb_tuple_bool | exact kb_bool_bool | exact kb_NoneType_bool | exact kb_dict_bool | exact kb_str_list | exact kb_int_list | exact kb_list_list | exact kb_tuple_list | exact kb_bool_list | exact kb_NoneType_list | exact kb_dict_list | exact kb_str_tuple | exact kb_int_tuple | exact kb_list_tuple | exact kb_tuple_tuple | exact kb_bool_tuple | exact kb_NoneType_tuple | exact kb_dict_tuple | exact kb_str_dict | exact kb_int_dict | exact kb_list_dict | exact kb_tuple_dict | exact kb_bool_dict | exact kb_NoneType_dict | exact kb_dict_dict)
local macro_rules | `(tactic| walk_at "wk") => `(tactic| first | with_reducible assumption | ((with_reducible refine' WkAt.new ?ha ?hb); (case hb => with_reducible assumption); (case ha => walk_at "wk")) | ((with_reducible refine' WkAt.sm ?hb ?ha); (case hb => with_reducible assumption); (case ha => walk_at "wk")) | ((with_reducible refine' WkAt.dr ?hb ?hc ?ha); (case hb => with_reducible assumption); (case hc => with_reducible assumption); (case ha => walk_at "wk")))
local macro_rules | `(tactic| walk_at "ed") => `(tactic| first | with_reducible assumption | ((with_reducible refine' EdAt.new ?ha ?hb); (case hb => with_reducible assumption); (case ha => walk_at "ed")) | ((with_reducible refine' EdAt.sm ?hb ?ha); (case hb => with_reducible assumption); (case ha => walk_at "ed")) | ((with_reducible refine' EdAt.dr ?hb ?hc ?ha); (case hb => with_reducible assumption); (case hc => with_reducible assumption); (case ha => walk_at "ed")))
local macro_rules | `(tactic| walk_at "pl") => `(tactic| first | with_reducible assumption | ((with_reducible refine' PlAt.new ?ha ?hb); (case hb => with_reducible assumption); (case ha => walk_at "pl")) | ((with_reducible refine' PlAt.sm ?hb ?ha); (case hb => with_reducible assumption); (case ha => walk_at "pl")) | ((with_reducible refine' PlAt.dr ?hb ?hc ?ha); (case hb => with_reducible assumption); (case hc => with_reducible assumption); (case ha => walk_at "pl")))
local macro_rules | `(tactic| walk_at "fl") => `(tactic| first | with_reducible assumption | ((with_reducible refine' WkAt.rows ?hT ?hW); (case hT => assumption); (case hW => walk_at "wk")) | ((with_reducible refine' WkAt.name ?hT ?hW); (case hT => assumption); (case hW => walk_at "wk")) | ((with_reducible refine' EdAt.work ?hT ?hW); (case hT => assumption); (case hW => walk_at "ed")) | ((with_reducible refine' EdAt.nums ?hT ?hW); (case hT => assumption); (case hW => walk_at "ed")) | ((with_reducible refine' PlAt.edition ?hT ?hW); (case hT => assumption); (case hW => walk_at "pl")) | ((with_reducible refine' PlAt.count ?hT ?hW); (case hT => assumption); (case hW => walk_at "pl")))
local macro_rules | `(tactic| walk_at "mt") => `(tactic| first | with_reducible assumption | ((with_reducible refine' WkAt.mt ?hn1 ?hn2 ?hW); (case hW => walk_at "wk"); (case hn1 => decide +kernel); (case hn2 => decide +kernel)) | ((with_reducible refine' EdAt.mt ?hn1 ?hn2 ?hW); (case hW => walk_at "ed"); (case hn1 => decide +kernel); (case hn2 => decide +kernel)) | ((with_reducible refine' PlAt.mt ?hn1 ?hn2 ?hW); (case hW => walk_at "pl"); (case hn1 => decide +kernel); (case hn2 => decide +kernel)))
local macro_rules | `(tactic| walk_at "is") => `(tactic| first | with_reducible assumption | ((with_reducible refine' WkAt.is ?hW); (case hW => walk_at "wk")) | ((with_reducible refine' EdAt.is ?hW); (case hW => walk_at "ed")) | ((with_reducible refine' PlAt.is ?hW); (case hW => walk_at "pl")))
local macro_rules | `(tactic| walk_at "ic") => `(tactic| first
  | ((with_reducible show CMul _ _); first | exact Or.inl ⟨by decide, by decide⟩ | exact Or.inr ⟨by decide, by decide⟩ | exact Or.inl ⟨by omega, by omega⟩ | exact Or.inr ⟨by omega, by omega⟩)
  | ((with_reducible show CDiv _ _); first | exact ⟨by decide, by decide⟩ | exact ⟨by omega, by omega⟩)
  | ((with_reducible show CPow _ _); first | exact ⟨by decide, by decide, by decide⟩ | exact ⟨by decide, by decide, by omega⟩)
  | (show (0 : Int) < _; first | decide | omega))
local macro_rules | `(tactic| walk_at "s1") => `(tactic| first
  | with_reducible refine k_seq ?_
  | with_reducible refine k_set ?_
  | with_reducible refine k_asg ?_
  | with_reducible refine k_par ?_
  | with_reducible refine k_par2 ?_
  | with_reducible refine k_drop ?_
  | with_reducible refine k_ret ?_
  | with_reducible refine k_next ?_
  | with_reducible refine k_if ?_
  | ((with_reducible refine' k_aug ?hv ?_); (case hv => exact rfl))
  | with_reducible refine k_ipI ?_
  | with_reducible refine k_gname ?_
  | with_reducible refine k_gsub ?_
  | ((with_reducible refine' k_gtup ?hv ?hw ?_); (case hv => walk_at "st"); (case hw => rfl))
  | with_reducible refine k_gcons ?_
  | with_reducible refine k_gnil ?_
  | with_reducible refine k_test ?_
  | with_reducible refine k_B ?_
  | with_reducible refine k_blE ?_
  | with_reducible refine k_and ?_
  | with_reducible refine k_or ?_
  | with_reducible refine k_not ?_
  | with_reducible refine iteT ?_
  | with_reducible refine iteF ?_
  | with_reducible refine iteNT ?_
  | with_reducible refine iteNF ?_
  | ((with_reducible refine' k_var ?hv ?_); (case hv => exact rfl))
  | with_reducible refine k_c ?_
  | with_reducible refine k_op ?_
  | with_reducible refine k_un ?_
  | with_reducible refine k_U ?_
  | with_reducible refine k_I0 ?_
  | ((with_reducible refine' k_I ?hv ?_); (case hv => walk_at "ic"))
  | with_reducible refine k_eqI ?_
  | with_reducible refine k_neI ?_
  | with_reducible refine k_eqS ?_
  | with_reducible refine k_neS ?_
  | with_reducible refine k_eqB ?_
  | with_reducible refine k_neB ?_
  | with_reducible refine k_for ?_
  | with_reducible refine k_iE ?_
  | with_reducible refine k_iA ?_
  | ((with_reducible refine' k_itl ?hv ?_); (case hv => walk_at "sl"))
  | ((with_reducible refine' k_itt ?hv ?_); (case hv => walk_at "st"))
  | with_reducible refine k_its ?_
  | ((with_reducible refine' k_rg1n ?hv ?_); (case hv => first | decide | omega))
  | ((with_reducible refine' k_rg1 ?hv ?hw ?_); (case hv => first | decide | omega); (case hw => first | decide | omega))
  | ((with_reducible refine' k_inS ?hv ?_); (case hv => walk_at "sa"))
  | ((with_reducible refine' k_inI ?hv ?_); (case hv => walk_at "sa"))
  | ((with_reducible refine' k_ninS ?hv ?_); (case hv => walk_at "sa"))
  | ((with_reducible refine' k_ninI ?hv ?_); (case hv => walk_at "sa"))
  | ((with_reducible refine' k_zipl ?hv ?hw ?_); (case hv => walk_at "sl"); (case hw => walk_at "sl"))
  | with_reducible refine k_nil ?_
  | with_reducible refine k_cons ?_
  | with_reducible refine k_cb ?_
  | with_reducible refine k_call ?_
  | with_reducible refine k_lst ?_
  | with_reducible refine k_tup ?_
  | with_reducible refine k_ifx ?_
  | with_reducible refine k_andv ?_
  | with_reducible refine k_orv ?_
  | with_reducible refine k_notv ?_
  | with_reducible refine k_inti ?_
  | with_reducible refine k_intb ?_
  | with_reducible refine k_sl ?_
  | with_reducible refine k_nopart ?_
  | with_reducible refine k_part ?_
  | with_reducible refine k_parti ?_
  | ((with_reducible refine' k_lenl ?hv ?_); (case hv => walk_at "sl"))
  | ((with_reducible refine' k_lent ?hv ?_); (case hv => walk_at "st"))
  | ((with_reducible refine' k_lens ?hv ?_); (case hv => exact szl (by walk_at "ln")))
  | ((with_reducible refine' k_lena ?hv ?_); (case hv => walk_at "sa"))
  | ((with_reducible refine' k_ixl ?hv ?hn ?_); (case hv => walk_at "sl"); (case hn => first | rfl | assumption))
  | ((with_reducible refine' k_ixt ?hv ?hn ?_); (case hv => walk_at "st"); (case hn => first | rfl | assumption))
  | ((with_reducible refine' k_ixa ?hv ?hn ?_); (case hv => walk_at "sa"); (case hn => first | rfl | assumption))
  | with_reducible refine k_chain ?_
  | ((with_reducible refine' k_isi ?hv ?hw ?_); (case hv => walk_at "ty"); (case hw => walk_at "kb"))
  | ((with_reducible refine' k_isi2 ?hb ?hp ?hv ?hw ?hx ?_); (case hp => walk_at "gt"); (case hv => walk_at "ty"); (case hw => walk_at "kb"); (case hx => walk_at "kb"); (case hb => first | exact or_t | exact or_f))
  | ((with_reducible refine' k_all ?hv ?_); (case hv => walk_at "gt"))
  | ((with_reducible refine' k_any ?hv ?_); (case hv => walk_at "gt"))
  | with_reducible refine k_insign ?_
  | with_reducible refine k_fldR ?_
  | ((with_reducible refine' k_fl ?hv ?_); (case hv => walk_at "fl"))
  | with_reducible refine k_sfld ?_
  | with_reducible refine k_meth ?_
  | ((with_reducible refine' k_mt ?hv ?_); (case hv => walk_at "mt"))
  | with_reducible refine k_make ?_
  | ((with_reducible refine' k_own ?hv ?hw ?_); (case hv => walk_at "is"); (case hw => walk_at "is"))
  | ((with_reducible refine' k_ownin ?hv ?_); (case hv => walk_at "is"))
  | ((with_reducible refine' k_lenO ?hv ?_); (case hv => walk_at "is"))
  | with_reducible refine k_prop ?_
  | ((with_reducible refine' k_pr ?hv ?_); (case hv => walk_at "is"))
  | ((with_reducible refine' k_ownI ?hv ?_); (case hv => walk_at "is"))
  | ((with_reducible refine' k_ownR ?hv ?_); (case hv => walk_at "is"))
  | with_reducible refine k_mx ?_
  | with_reducible refine k_mn ?_
  | with_reducible refine k_lrg ?_
  | with_reducible refine k_rgt ?_
  | with_reducible refine k_rgti ?_
  | with_reducible refine k_bm ?_
  | with_reducible refine k_bm0 ?_
  | with_reducible refine k_tys ?_
  | ((with_reducible refine' k_tyl ?hv ?_); (case hv => walk_at "sl"))
  | ((with_reducible refine' k_ext ?hv ?hw ?hn ?_); (case hv => walk_at "gt"); (case hw => walk_at "gt"); (case hn => walk_at "ln"))
  | ((with_reducible refine' k_app ?hv ?hn ?_); (case hv => walk_at "gt"); (case hn => walk_at "ln"))
  | ((with_reducible refine' k_popat ?hv ?hn ?hw ?_); (case hv => walk_at "gt"); (case hn => with_reducible assumption); (case hw => walk_at "ln"))
  | with_reducible refine k_lc ?_
  | with_reducible refine k_yes0 ?_
  | ((with_reducible show wipe _ _ = wipe _ _ ∧ _); refine ⟨rfl, ?_⟩)
  | ((with_reducible refine' k_adds ?hv ?_); (case hv => walk_at "ln"))
  | ((with_reducible refine' k_st1 ?hv ?_); (case hv => walk_at "gt"))
  | ((with_reducible refine' k_st2 ?hv ?_); (case hv => walk_at "gt"))
  | ((with_reducible refine' k_st3 ?hv ?_); (case hv => walk_at "gt"))
  | ((with_reducible refine' k_setl ?hv ?hn ?_); (case hv => walk_at "gt"); (case hn => rfl)))
local macro_rules | `(tactic| walk_at "put") => `(tactic| ((refine' ⟨_, ?ha, sz ?hb, ?_⟩); (case ha => walk_at "gt"); (case hb => walk_at "ln")))
local macro_rules | `(tactic| walk_at "go") => `(tactic| repeat (walk_at "s1"))
section
set_option maxRecDepth 100000
set_option maxHeartbeats 2000000

def top (i : Nat) : Stmt := PySem.Challenge.pw_leafmarks_k21_rules_told.main.body.getD i (.Pass ⟨0, 0, 0, 0⟩)
abbrev s_law_fresh : Stmt := top 20
theorem sc_law_fresh : FnScope ["_law_script"] ["_law_script"] (defScope s_law_fresh) := ⟨rfl, rfl, rfl, by decide +kernel, rfl, by decide +kernel, by decide +kernel⟩
abbrev s_law_fill : Stmt := top 21
theorem sc_law_fill : FnScope ["_law_state", "_law_cells", "_law_nth", "_law_seed", "_law_k", "_law_prime", "_law_far"] ["_law_state"] (defScope s_law_fill) := ⟨rfl, rfl, rfl, by decide +kernel, rfl, by decide +kernel, by decide +kernel⟩
abbrev s_law_take : Stmt := top 22
theorem sc_law_take : FnScope ["_law_state", "_law_many", "_law_laps", "_law_digit"] ["_law_state", "_law_many"] (defScope s_law_take) := ⟨rfl, rfl, rfl, by decide +kernel, rfl, by decide +kernel, by decide +kernel⟩
abbrev s_law_one : Stmt := top 23
theorem sc_law_one : FnScope ["_law_state", "_law_things"] ["_law_state", "_law_things"] (defScope s_law_one) := ⟨rfl, rfl, rfl, by decide +kernel, rfl, by decide +kernel, by decide +kernel⟩
section
variable {P : Program} {w : World} {K : PySem.W.Frag} {mg : Str → Option Value} {base : Heap}

/-- where a state of draws stands: its list, the cells' list -/
structure Ds where
  st : Addr
  c : Addr
/-- a state of draws stands there -/
def Dr (H : Hp) (S : Ds) : Prop := ∃ (n r : Int) (b : Bool) (cells : List Int),
  H S.st = some (.lst [.ref S.c, .int n, .int r, .bl b]) ∧ H S.c = some (.lst (cells.map V.int)) ∧ 0 ≤ n ∧ 0 ≤ r ∧ cells.length ≤ 63
theorem cell_ne {H : Hp} {st c : Addr} {n r : Int} {b : Bool} {cells : List Int} (h1 : H st = some (.lst [.ref c, .int n, .int r, .bl b])) (h2 : H c = some (.lst (cells.map V.int))) : c ≠ st := by
  refine ne_of h2 h1 fun e => ?_
  have e' := HO.lst.inj e
  cases cells with
  | nil => cases e'
  | cons a l =>
    rw [List.map_cons] at e'
    injection e' with e1 _
    cases e1
theorem Dr.same {H H' : Hp} {S : Ds} (s : Same H H') (d : Dr H S) : Dr H' S := by
  obtain ⟨n, r, b, cells, h1, h2, h3⟩ := d
  exact ⟨n, r, b, cells, s _ _ h1, s _ _ h2, h3⟩
theorem Dr.new {H : Hp} {S : Ds} {p : Addr} {o : HO} (d : Dr H S) (np : H p = none) : Dr (upd H p o) S := by
  obtain ⟨n, r, b, cells, h1, h2, h3⟩ := d
  exact ⟨n, r, b, cells, upd_new h1 np, upd_new h2 np, h3⟩
theorem Dr.ne {H : Hp} {S : Ds} {p : Addr} (d : Dr H S) (np : H p = none) : p ≠ S.st := by
  obtain ⟨n, r, b, cells, h1, _⟩ := d
  exact (ne_of_none h1 np).symm
theorem Dr.nc {H : Hp} {S : Ds} {p : Addr} (d : Dr H S) (np : H p = none) : p ≠ S.c := by
  obtain ⟨n, r, b, cells, h1, h2, _⟩ := d
  exact (ne_of_none h2 np).symm
/-- another object changes -/
theorem Dr.mut {H H0 : Hp} {S : Ds} {p : Addr} {o : HO} (d : Dr H S) (d0 : Dr H0 S) (np : H0 p = none) : Dr (upd H p o) S := by
  have n1 := d0.ne np
  have n2 := d0.nc np
  obtain ⟨n, r, b, cells, h1, h2, h3⟩ := d
  exact ⟨n, r, b, cells, upd_old h1 n1.symm, upd_old h2 n2.symm, h3⟩
theorem Fr.none {H H' : Hp} {S : Ds} {p : Addr} (f : Fr S.st H H') (d : Dr H' S) (n : H' p = none) : H p = none := by
  cases e : H p with
  | none => rfl
  | some o =>
    by_cases q : p = S.st
    · subst q
      obtain ⟨_, _, _, _, h1, _⟩ := d
      rw [h1] at n; cases n
    · rw [f _ _ q e] at n; cases n

def spFresh (K : PySem.W.Frag) : Sp := fun vs H Q _ => ∃ (a : Addr) (ns : List Int), vs = [.ref a] ∧ SqL K H a (ns.map V.int) ∧ ns.length ≤ 63 ∧
  ∀ S H', Same H H' → H S.st = none → H S.c = none → Dr H' S → Q (.ref S.st) H'
theorem cutV_upto {xs : List V} {n : Nat} (h : xs.length ≤ n) : cutV xs none (some (n : Int)) = xs := by
  unfold cutV
  rw [HT.sIx_none, HT.sIx_nat, List.drop_zero, Nat.sub_zero, Nat.min_eq_right h, List.take_length]
theorem ok_fresh (D : Def K mg "_law_fresh" s_law_fresh) : Cal P w K mg base 1 "_law_fresh" ["_law_script"] (spFresh K) := by
  refine Cal.of D sc_law_fresh (fun _ _ _ _ _ _ us hl => match us, hl with | [_], _ => rfl) (fun vs H Q E h => ?_) (fun f cdv A outer s H vs Q E hr h => ?_)
  · obtain ⟨a, ns, rfl, _⟩ := h; rfl
  · obtain ⟨a, ns, rfl, hS, hl, k⟩ := h
    refine ⟨_, (pss_one (ps_ret (pe_lst (pa_cons (pe_slice (y_list K) (pv 0) po_none (po_some pe_int)) (pa_cons pe_int (pa_cons pe_int (pa_cons pe_bl pa_nil))))))), ?_⟩
    walk_at "go"
    refine k_sll hS fun c nc => ?_
    walk_at "go"
    refine ⟨Nat.le_of_ble_eq_true rfl, fun st nst => ?_⟩
    have e : cutV (ns.map V.int) none (some ((63 : Nat) : Int)) = ns.map V.int := cutV_upto (by rw [List.length_map]; exact hl)
    have nst' : H st = none := by
      cases q : H st with
      | none => rfl
      | some o => rw [upd_new q nc] at nst; cases nst
    refine k ⟨st, c⟩ _ (fun b o hb => upd_new (upd_new hb nc) nst) nst' nc ⟨0, 0, false, ns, upd_same, ?_, Int.le_refl _, Int.le_refl _, hl⟩
    show upd _ st _ c = _
    rw [upd_ne (ne_of_none upd_same nst), upd_same]
    exact congrArg (fun z => some (HO.lst z)) e

/-! ### fill -/
theorem at_lt {xs : List V} {k : Int} (h0 : 0 ≤ k) (h1 : k < xs.length) : ∃ x, x ∈ xs ∧ atI xs k = some x := by
  have e : xs[k.toNat]? = some (xs[k.toNat]'(by omega)) := List.getElem?_eq_getElem (by omega)
  have q := atI_nat e
  rw [Int.toNat_of_nonneg h0] at q
  exact ⟨_, List.getElem_mem _, q⟩
theorem at_mod {xs : List Int} (n : Int) (h : (0 : Int) < ((xs.map V.int).length : Nat)) : ∃ z, atI (xs.map V.int) (n % ((xs.map V.int).length : Nat)) = some (.int z) := by
  obtain ⟨x, hx, e⟩ := at_lt (xs := xs.map V.int) (k := n % ((xs.map V.int).length : Nat)) (Int.emod_nonneg _ (by omega)) (Int.emod_lt_of_pos _ h)
  obtain ⟨z, _, rfl⟩ := List.mem_map.mp hx
  exact ⟨z, e⟩
def spFill : Sp := fun vs H Q _ => ∃ S : Ds, vs = [.ref S.st] ∧ Dr H S ∧ ∀ H', Fr S.st H H' → Dr H' S → Q .non H'
def primes : List V := [.int 2147483647, .int 2147483629, .int 2147483587, .int 2147483579, .int 2147483563]
theorem ok_fill (B : Bn mg) (D : Def K mg "_law_fill" s_law_fill) : Cal P w K mg base 1 "_law_fill" ["_law_state"] spFill := by
  refine Cal.of D sc_law_fill (fun _ _ _ _ _ _ us hl => match us, hl with | [_], _ => rfl) (fun vs H Q E h => ?_) (fun f cdv A outer s H vs Q E hr h => ?_)
  · obtain ⟨a, rfl, _⟩ := h; rfl
  · obtain ⟨⟨st, c⟩, rfl, ⟨n, r, b, cells, h1, h2, hn, hr0, hcl⟩, k⟩ := h
    replace h1 : H st = some (.lst [.ref c, .int n, .int r, .bl b]) := h1
    replace h2 : H c = some (.lst (cells.map V.int)) := h2
    replace k : ∀ H', Fr st H H' → Dr H' ⟨st, c⟩ → Q .non H' := k
    have nc := cell_ne h1 h2
    have nc' := nc.symm
    have hcl' : (cells.map V.int).length ≤ 63 := by rw [List.length_map]; exact hcl
    refine ⟨_, (pss_cons (ps_par (i := 1) (j := 2) (by rfl) sc_law_fill.nd rfl rfl (by decide) rfl rfl (pa_cons (pe_ix (x_list K) (pv 0) pe_int (fun _ _ => rfl)) (pa_cons (pe_ix (x_list K) (pv 0) pe_int (fun _ _ => rfl)) pa_nil)) (by rfl))
      (pss_cons (ps_set (i := 3) sc_law_fill.nd rfl (Or.inl rfl) (pe_op op_add (pe_op op_mul pe_int (pv 2)) pe_int))
      (pss_cutL (ps_if (pt_cmpR op_gt (pe_callB (n_len K) (by rfl) B.len PySem.boot_len (pa_cons (pv 1) pa_nil)) pe_int (nomark _)) (pss_one (ps_set (i := 3) sc_law_fill.nd rfl (Or.inl rfl) (pe_op op_add (pe_op op_mul pe_int (pe_op op_fdiv (pv 2) (pe_callB (n_len K) (by rfl) B.len PySem.boot_len (pa_cons (pv 1) pa_nil)))) (pe_ix (x_list K) (pv 1) (pe_op op_mod (pe_callTy c_int (by rfl) B.int (by decide +kernel) (pa_cons (pv 2) pa_nil)) (pe_callB (n_len K) (by rfl) B.len PySem.boot_len (pa_cons (pv 1) pa_nil))) (fun _ _ => rfl))))) pss_nil)
      (pss_cons (ps_asg (pe_op op_add (pv 2) pe_int) (pg_sub (pv 0) pe_int set_list))
      (pss_cutL (ps_asg (pe_or (pe_cmpR op_ge (pv 2) (pe_callB (n_len K) (by rfl) B.len PySem.boot_len (pa_cons (pv 1) pa_nil)) (nomark _)) (pe_one (pe_cmpR op_lt (pv 3) (pe_op op_pow pe_int pe_int) (nomark _)))) (pg_sub (pv 0) pe_int set_list))
      (pss_cons (ps_asg (pe_op op_sub (pv 3) (pe_op op_pow pe_int pe_int)) (pg_sub (pv 0) pe_int set_list))
      (pss_one (ps_if (pt_val (pe_ix (x_list K) (pv 0) pe_int (fun _ _ => rfl))) (pss_cons (ps_asg pe_int (pg_sub (pv 0) pe_int set_list))
      (pss_one (ps_for PassesOwn.never rfl (q_enum K B.enumerate (pa_cons (pe_tup (pa_cons pe_int (pa_cons pe_int (pa_cons pe_int (pa_cons pe_int (pa_cons pe_int pa_nil)))))) pa_nil)) (pg_tup rfl (pgs_cons (pg_name (i := 4) sc_law_fill.nd rfl (Or.inl rfl)) (pgs_cons (pg_name (i := 5) sc_law_fill.nd rfl (Or.inl rfl)) pgs_nil))) (pss_cons (ps_set (i := 6) sc_law_fill.nd rfl (Or.inl rfl) (pe_op op_mod (pe_callTy c_int (by rfl) B.int (by decide +kernel) (pa_cons (pe_op op_mul (pe_op op_add (pe_op op_add (pv 3) (pe_op op_mul (pe_op op_mul pe_int (pv 4)) (pv 4))) (pe_op op_mul pe_int (pv 4))) (pe_op op_add pe_int (pe_op op_mul pe_int (pv 4)))) pa_nil)) (pv 5)))
      (pss_one (ps_asg (pe_op op_add (pe_op op_mul (pe_ix (x_list K) (pv 0) pe_int (fun _ _ => rfl)) (pv 5)) (pe_op op_mod (pe_callTy c_int (by rfl) B.int (by decide +kernel) (pa_cons (pe_op op_pow (pv 6) pe_int) pa_nil)) (pv 5))) (pg_sub (pv 0) pe_int set_list))))))) pss_nil)))))))), ?_⟩
    walk_at "go"
    refine ⟨fun σ' H' => H' = H ∧ ∃ seed, σ' = [some (.ref st), some (.ref c), some (.int n), some (.int seed), none, none, none], ?_, ?_⟩
    · walk_at "go"
      refine k_dec (fun h => ?_) (fun h => ⟨rfl, _, rfl⟩)
      obtain ⟨z, hz⟩ := at_mod n h
      walk_at "go"
      exact ⟨rfl, _, rfl⟩
    · rintro σ' H1 ⟨rfl, seed, rfl⟩
      walk_at "go"
      refine ⟨fun σ' H' => ∃ b', σ' = [some (.ref st), some (.ref c), some (.int n), some (.int seed), none, none, none] ∧ H' = upd H1 st (.lst [.ref c, .int (n + 1), .int r, .bl b']) ∧ (b' = false → 10 ^ 18 ≤ seed), ?_, ?_⟩
      · walk_at "go"
        refine k_dec (fun h => ?_) (fun h => ?_)
        · walk_at "go"
          exact ⟨true, rfl, upd_upd, fun e => nomatch e⟩
        · walk_at "go"
          refine ⟨decide (seed < 10 ^ 18), rfl, upd_upd, fun e => ?_⟩
          have := of_decide_eq_false e
          omega
      · rintro σ' H2 ⟨b', rfl, rfl, hb'⟩
        walk_at "go"
        refine k_bool (fun h => ?_) (fun h => ?_)
        · subst h
          walk_at "go"
          refine ⟨Nat.le_of_ble_eq_true rfl, fun tp ntp => ?_⟩
          have ntp' : tp ≠ st := by
            intro e
            rw [e, upd_same] at ntp
            cases ntp
          walk_at "go"
          refine for_enum (xs := primes) (H0 := fun b => if b = tp then some (.tup primes) else none) (sa_t (if_pos rfl)) (fun i σ' H' => ∃ v4 v5 v6 r', σ' = [some (.ref st), some (.ref c), some (.int n), some (.int seed), v4, v5, v6] ∧ H' st = some (.lst [.ref c, .int (n + 1), .int r', .bl true]) ∧ 0 ≤ r' ∧ Fr st H1 H' ∧ H' tp = some (.tup primes)) ⟨_, _, _, 0, rfl, by walk_at "gt", Int.le_refl _, ?_, upd_same⟩ ?_ ?_ ?_
          · exact Fr.new (Fr.at (Fr.at (Fr.at Fr.refl))) ntp
          · rintro i σ' H' _ ⟨_, _, _, _, _, _, _, _, h⟩ u hu
            exact rd_one h hu
          · rintro i x2 σ' H' T hi ⟨v4, v5, v6, r', rfl, g1, g2, g3, g4⟩ nT e2
            obtain ⟨p, rfl, hp0, hp1⟩ : ∃ p : Int, x2 = .int p ∧ 0 < p ∧ p < 2 ^ 40 := by
              have : x2 ∈ primes := List.mem_of_getElem? e2
              simp only [primes, List.mem_cons, List.not_mem_nil, or_false] at this
              rcases this with h | h | h | h | h <;> exact ⟨_, h, by decide, by decide⟩
            have nT' : T ≠ st := (ne_of_none g1 nT).symm
            have hi5 : i < 5 := hi
            walk_at "go"
            refine k_I ⟨by decide, by decide, ?_⟩ ?_
            · have q1 := Int.emod_nonneg ((seed + 10007 * (i : Int) * (i : Int) + 101 * (i : Int)) * (48271 + 2 * (i : Int))) (show p ≠ 0 by omega)
              have q2 := Int.emod_lt_of_pos ((seed + 10007 * (i : Int) * (i : Int) + 101 * (i : Int)) * (48271 + 2 * (i : Int))) hp0
              omega
            walk_at "go"
            refine ⟨_, _, _, _, rfl, upd_same, ?_, ?_, ?_⟩
            · exact Int.add_nonneg (Int.mul_nonneg g2 (by omega)) (Int.emod_nonneg _ (by omega))
            · exact Fr.at (Fr.new g3 nT)
            · exact upd_old (upd_new g4 nT) ntp'
          · rintro σ' H' ⟨v4, v5, v6, r', rfl, g1, g2, g3, g4⟩
            exact k _ g3 ⟨n + 1, r', true, cells, g1, g3 _ _ nc h2, by omega, g2, hcl⟩
        · walk_at "go"
          rw [upd_upd]
          exact k _ (Fr.at Fr.refl) ⟨n + 1, _, b', cells, upd_same, upd_old h2 nc, by omega, by have := hb' h; show (0 : Int) ≤ seed - 10 ^ 18; omega, hcl⟩

/-! ### take -/
def spTake : Sp := fun vs H Q _ => ∃ (S : Ds) (m : Int), vs = [.ref S.st, .int m] ∧ Dr H S ∧ 1 ≤ m ∧ m < 1073741824 ∧
  ∀ (d : Nat) H', (d : Int) < m → Fr S.st H H' → Dr H' S → Q (.int (d : Nat)) H'
theorem ok_take (B : Bn mg) (C_law_fill : Cal P w K mg base 1 "_law_fill" ["_law_state"] spFill) (D : Def K mg "_law_take" s_law_take) : Cal P w K mg base 2 "_law_take" ["_law_state", "_law_many"] spTake := by
  refine Cal.of D sc_law_take (fun _ _ _ _ _ _ us hl => match us, hl with | [_, _], _ => rfl) (fun vs H Q E h => ?_) (fun f cdv A outer s H vs Q E hr h => ?_)
  · obtain ⟨a, m, rfl, _⟩ := h; rfl
  · obtain ⟨⟨st, c⟩, m, rfl, D0, hm1, hm2, k⟩ := h
    replace k : ∀ (d : Nat) H', (d : Int) < m → Fr st H H' → Dr H' ⟨st, c⟩ → Q (.int (d : Nat)) H' := k
    refine ⟨_, (pss_cons (ps_set (i := 2) sc_law_take.nd rfl (Or.inl rfl) pe_int)
      (pss_cons (ps_while PassesOwn.never (pt_ans (PW.pt (pw_and (pt_cmpR op_lt (pv 2) pe_int (nomark _)) (pw_and1 (PW.pt (pw_or (pt_cmpR op_eq (pe_ix (x_list K) (pv 0) pe_int (fun _ _ => rfl)) pe_int (nomark _)) (pw_or1 (PW.pt (pw_and (pt_val (pe_ix (x_list K) (pv 0) pe_int (fun _ _ => rfl))) (pw_and1 (pt_cmpR op_lt (pe_ix (x_list K) (pv 0) pe_int (fun _ _ => rfl)) (pe_op op_mul (pv 1) pe_int) (nomark _)))))))))))) (pss_cons (ps_expr (pe_fn C_law_fill hr (by decide) (pa_cons (pv 0) pa_nil)))
      (pss_cons (ps_aug (i := 2) sc_law_take.nd rfl (Or.inl rfl) pe_int ip_add)
      (pss_one (ps_if (pt_ans (PW.pt (pw_and (pt_val (pe_ix (x_list K) (pv 0) pe_int (fun _ _ => rfl))) (pw_and1 (pt_cmpR op_lt (pe_ix (x_list K) (pv 0) pe_int (fun _ _ => rfl)) (pe_op op_mul (pv 1) pe_int) (nomark _)))))) (pss_one (ps_asg (pe_op op_add (pe_ix (x_list K) (pv 0) pe_int (fun _ _ => rfl)) (pe_op op_mul (pe_op op_mul (pv 1) pe_int) (pe_op op_add pe_int (pe_op op_mod (pe_callTy c_int (by rfl) B.int (by decide +kernel) (pa_cons (pe_ix (x_list K) (pv 0) pe_int (fun _ _ => rfl)) pa_nil)) pe_int)))) (pg_sub (pv 0) pe_int set_list))) pss_nil)))))
      (pss_cons (ps_set (i := 3) sc_law_take.nd rfl (Or.inl rfl) (pe_op op_mod (pe_callTy c_int (by rfl) B.int (by decide +kernel) (pa_cons (pe_ix (x_list K) (pv 0) pe_int (fun _ _ => rfl)) pa_nil)) (pv 1)))
      (pss_cons (ps_asg (pe_op op_fdiv (pe_ix (x_list K) (pv 0) pe_int (fun _ _ => rfl)) (pv 1)) (pg_sub (pv 0) pe_int set_list))
      (pss_one (ps_ret (pv 3))))))), ?_⟩
    walk_at "go"
    refine ⟨fun j σ' H' => ∃ laps : Int, 0 ≤ laps ∧ j = (64 - laps).toNat ∧ σ' = [some (.ref st), some (.int m), some (.int laps), none] ∧ Fr st H H' ∧ Dr H' ⟨st, c⟩, ⟨64, 0, Int.le_refl _, rfl, rfl, Fr.refl, D0⟩, ?_⟩
    rintro j σ' H1 ⟨laps, hl0, rfl, rfl, F1, D1⟩
    obtain ⟨n, r, b, cells, h1, h2, hn, hr0, hcl⟩ := id D1
    replace h1 : H1 st = some (.lst [.ref c, .int n, .int r, .bl b]) := h1
    replace h2 : H1 c = some (.lst (cells.map V.int)) := h2
    have nc := cell_ne h1 h2
    refine ⟨decide (laps < 64) && (decide (r = 0) || (b && decide (r < m * 4096))), fun Q' q => ?_, ?_⟩
    · walk_at "go"
      refine k_dec (fun hl => ?_) (fun hl => ?_)
      · rw [decide_eq_true hl, Bool.true_and] at q
        walk_at "go"
        refine k_dec (fun h => ?_) (fun h => ?_)
        · rw [decide_eq_true h, Bool.true_or] at q; exact q
        · rw [decide_eq_false h, Bool.false_or] at q
          walk_at "go"
          refine k_bool (fun h => ?_) (fun h => ?_)
          · rw [h, Bool.true_and] at q
            walk_at "go"
            exact q
          · rw [h, Bool.false_and] at q; exact q
      · rw [decide_eq_false hl, Bool.false_and] at q; exact q
    · refine k_bool (fun hb => ?_) (fun hb => ?_)
      · have hl : laps < 64 := by
          rw [Bool.and_eq_true] at hb
          exact of_decide_eq_true hb.1
        refine ⟨_, fun σ' H' h => h, ?_⟩
        walk_at "go"
        refine ⟨⟨st, c⟩, rfl, D1, fun H2 F2 D2 => ?_⟩
        replace F2 : Fr st H1 H2 := F2
        obtain ⟨n2, r2, b2, cells2, g1, g2, gn, gr0, gcl⟩ := id D2
        replace g1 : H2 st = some (.lst [.ref c, .int n2, .int r2, .bl b2]) := g1
        replace g2 : H2 c = some (.lst (cells2.map V.int)) := g2
        walk_at "go"
        refine ⟨b2 && decide (r2 < m * 4096), fun Q' q => ?_, ?_⟩
        · walk_at "go"
          refine k_bool (fun h => ?_) (fun h => ?_)
          · rw [h, Bool.true_and] at q
            walk_at "go"
            exact q
          · rw [h, Bool.false_and] at q; exact q
        · refine k_bool (fun hc => ?_) (fun hc => ?_)
          · walk_at "go"
            refine ⟨(64 - (laps + 1)).toNat, by omega, laps + 1, by omega, rfl, rfl, Fr.at (F1.trans F2), ⟨n2, _, b2, cells2, upd_same, upd_old g2 (cell_ne g1 g2), gn, ?_, gcl⟩⟩
            exact Int.add_nonneg gr0 (Int.mul_nonneg (by omega) (by omega))
          · walk_at "go"
            exact ⟨(64 - (laps + 1)).toNat, by omega, laps + 1, by omega, rfl, rfl, F1.trans F2, D2⟩
      · walk_at "go"
        have q1 := Int.emod_nonneg r (show m ≠ 0 by omega)
        have q2 := Int.emod_lt_of_pos r (show 0 < m by omega)
        have e : (((r % m).toNat : Nat) : Int) = r % m := Int.toNat_of_nonneg q1
        have q := k (r % m).toNat _ (by rw [e]; exact q2) (Fr.at F1) ⟨n, r / m, b, cells, upd_same, upd_old h2 nc, hn, Int.ediv_nonneg hr0 (by omega), hcl⟩
        rw [e] at q
        exact q

/-! ### one -/
end
end
/-! Properties by one fact each; max and min of two. -/
section
set_option maxRecDepth 100000
set_option maxHeartbeats 2000000
open PySem PySem.Spec PyProof.Rows L2
def DefP (K : PySem.W.Frag) (C : Addr) (m q : Str) (st : Stmt) : Prop :=
  ∃ (p g : Addr) (fd : FuncData), PropOf K C m p g ∧ FunD K m q (defArgs st) (defBody st) (defScope st) [] [] g fd
/-- the property m of the class at C keeps sp -/
def CalP (P : Program) (w : World) (K : PySem.W.Frag) (mg : Str → Option Value) (base : Heap) (k : Nat) (C : Addr) (m : Str) (ps : List Str) (sp : Sp) : Prop :=
  ∃ (p g : Addr) (fd : FuncData), PropOf K C m p g ∧ Binds K fd ps [] ∧ FnOk P w K mg base CX0 k g fd ps sp
section
variable {P : Program} {w : World} {K : PySem.W.Frag} {mg : Str → Option Value} {base : Heap}
theorem CalP.of {C : Addr} {m q : Str} {st : Stmt} {N ps : List Str} {k : Nat} {sp : Sp} (D : DefP K C m q st) (S : FnScope N ps (defScope st))
    (hb : ∀ (kV doc pm : Value) (an : Option Addr) (cdv ct : Value) (us : List Value), us.length = ps.length → bindArgs (PySem.W.fnOf m q (defArgs st) (defBody st) (defScope st) .none kV doc pm an cdv ct) ⟨us, []⟩ = pure (ps.zip us))
    (len : ∀ vs H Q E, sp vs H Q E → vs.length = ps.length)
    (hbody : ∀ (f : Addr) (cdv : Value) (A : Around) (outer : List Env) (s : Shared) (H : Hp) (vs : List V) (Q : VK) (E : XK), Room k (A.deeper (envOfC q (defScope st) s.heap.objs.size f cdv)) → sp vs H Q E →
      ∃ t, PSs (cxR P w K mg base N q (defScope st) f cdv A outer s H) (defBody st) t ∧ t { nx := fun _ H' => Q .non H', rt := Q } (start N vs) H) : CalP P w K mg base (k + 1) C m ps sp := by
  obtain ⟨p, f, fd, hm, F⟩ := D
  refine ⟨p, f, fd, hm, F.bindsN hb, F.ok S len fun cdv A outer s H vs Q E hr h => ?_⟩
  obtain ⟨t, h1, h2⟩ := hbody f cdv A outer s H vs Q E hr h
  exact ⟨t, PSs.nox h1, h2⟩
end
section
variable {X : Cx} {k j : Nat} {ps : List Str} {sp : Sp} {m : Str} {C : Addr} {e : Expr} {ta : TE} {pos : Pos}
end
def rProp (C : Addr) (sp : Sp) (x : V) (H1 : Hp) (Q : VK) : Prop := ∃ a dx fs, x = .ref a ∧ H1 a = some (.ins C dx fs) ∧ sp (.ref a :: []) H1 Q E0
section
variable {C : Addr} {sp : Sp} {σ : L2.St} {H : Hp} {Q : VK} {ta : TE}
theorem k_prop (h : ta σ H fun x H1 => rProp C sp x H1 Q) : tProp C sp [] E0 ta σ H Q := h
theorem k_pr {a : Addr} (ha : Is H a C) (h : sp [.ref a] H Q E0) : rProp C sp (.ref a) H Q := by
  obtain ⟨dx, fs, h1⟩ := ha
  exact ⟨a, dx, fs, rfl, h1, h⟩
def rMx : List V → Hp → VK → Prop := fun xs H Q => ∃ i j, xs = [.int i, .int j] ∧ Q (.int (if j > i then j else i)) H
def rMn : List V → Hp → VK → Prop := fun xs H Q => ∃ i j, xs = [.int i, .int j] ∧ Q (.int (if j < i then j else i)) H
theorem k_mx {i j : Int} (h : Q (.int (max i j)) H) : rMx [.int i, .int j] H Q := by
  refine ⟨i, j, rfl, ?_⟩
  have e : (if j > i then j else i) = max i j := by
    rw [Int.max_def]; split <;> split <;> omega
  rw [e]; exact h
theorem k_mn {i j : Int} (h : Q (.int (min i j)) H) : rMn [.int i, .int j] H Q := by
  refine ⟨i, j, rfl, ?_⟩
  have e : (if j < i then j else i) = min i j := by
    rw [Int.min_def]; split <;> split <;> omega
  rw [e]; exact h
end
def bltT : List String := ["NoneType", "int", "bool", "str", "list", "tuple", "dict"]
/-- the class at C and the builtin types know nothing of each other; its != is object's -/
def strB (K : PySem.W.Frag) (C : Addr) : Bool := decide (PySem.W.findIn K (.ref C) "__ne__" = some (some (.builtin "object.__ne__"))) && decide (PySem.W.subIn K (.ref C) (.type "object") = some true) &&
  bltT.all fun T => decide (PySem.W.kitOne K (.type T) (.ref C) = some false) && (PySem.W.notFirst K C (.type T) && decide (PySem.W.subIn K (.ref C) (.type T) = some false))
end
/-! For the head: defs at given addresses (the getters of properties), facts in a row. -/
section
set_option maxRecDepth 100000
set_option maxHeartbeats 0
open PySem PySem.Spec PyProof.Rows L2
def pgA (K : PySem.W.Frag) (x m : Str) : Addr := match PySem.W.recIn K (He.ma K (He.ga K x) m) "property" with
  | some (.ref g :: _) => g
  | _ => 0
def fnA (K : PySem.W.Frag) (a : Addr) : He.FnW := match K.lookup a with
  | some ⟨_, _, .func fd, _⟩ => some (fd.name, fd.qualname, fd.params, fd.body, fd.scope, fd.globals, fd.closure, fd.builtins)
  | _ => none
def okA (K : PySem.W.Frag) (a : Addr) (q : Str) : Bool := PySem.W.keepIn K (.ref a) && (match K.lookup a with
  | some ⟨_, _, .func fd, _⟩ => PySem.W.codeIn K fd.code q && (He.dflB K fd.defaults [] && He.kwdB K fd.kwdefaults [])
  | _ => false)
theorem funA {K : PySem.W.Frag} {a : Addr} {x q : Str} {ps : Arguments} {b : List Stmt} {sc : Scope} (e : fnA K a = some (x, q, ps, .stmts b, sc, mainGlobals, [], builtinsNs)) (c : okA K a q = true) : ∃ fd, FunD K x q ps b sc [] [] a fd := by
  obtain ⟨kp, c2⟩ := He.ba c
  unfold fnA at e
  cases l : K.lookup a with
  | none =>
    rw [l] at c2
    cases c2
  | some o =>
    obtain ⟨oc, od, dt, osl⟩ := o
    rw [l] at c2 e
    cases dt with
    | func fd =>
      obtain ⟨n1, n2, n3, n4, n5, n6, n7, n8, n9, n10, n11, n12, n13, n14, n15⟩ := fd
      have e2 : (some (n1, n2, n3, n4, n5, n6, n7, n15) : He.FnW) = some (x, q, ps, .stmts b, sc, mainGlobals, [], builtinsNs) := e
      simp only [Option.some.injEq, Prod.mk.injEq] at e2
      obtain ⟨h1, h2, h3, h4, h5, h6, h7, h8⟩ := e2
      subst h1 h2 h3 h4 h5 h6 h7 h8
      have c3 : (PySem.W.codeIn K n13 n2 && (He.dflB K n8 [] && He.kwdB K n9 [])) = true := c2
      obtain ⟨k1, k2⟩ := He.ba c3
      obtain ⟨k3, k4⟩ := He.ba k2
      exact ⟨_, ⟨oc, od, n8, n9, n10, n11, n12, n13, n14, osl, rfl, l, k1, He.dflB_ok k3, He.kwdB_ok k4⟩, kp⟩
    | _ => cases c2
def prB (K : PySem.W.Frag) (x m : Str) : Bool := decide (PySem.W.findIn K (.ref (He.ga K x)) m = some (some (.ref (He.ma K (He.ga K x) m)))) && (decide (PySem.W.specialIn K (.ref (He.ma K (He.ga K x) m)) "__get__" = some (some (.builtin "property.__get__"))) &&
  (decide (PySem.W.takesIn K (.ref (He.ma K (He.ga K x) m)) = some true) && (match PySem.W.recIn K (He.ma K (He.ga K x) m) "property" with
    | some (.ref _ :: _) => true
    | _ => false)))
theorem prB_ok {K : PySem.W.Frag} {x m : Str} (c : prB K x m = true) : PropOf K (He.ga K x) m (He.ma K (He.ga K x) m) (pgA K x m) := by
  obtain ⟨c1, c⟩ := He.ba c
  obtain ⟨c2, c⟩ := He.ba c
  obtain ⟨c3, c4⟩ := He.ba c
  refine ⟨of_decide_eq_true c1, of_decide_eq_true c2, of_decide_eq_true c3, ?_⟩
  unfold pgA
  cases q : PySem.W.recIn K (He.ma K (He.ga K x) m) "property" with
  | none => rw [q] at c4; cases c4
  | some l =>
    rw [q] at c4
    cases l with
    | nil => cases c4
    | cons v rest =>
      cases v with
      | ref g => exact ⟨rest, rfl⟩
      | _ => cases c4
/-- one fact of a row -/
theorem row_at {l : List Bool} (h : l.all id = true) (i : Nat) {b : Bool} (e : l[i]? = some b) : b = true := List.all_eq_true.mp h b (List.mem_of_getElem? e)
/-- the tables of the defs tf, as they lie behind the top -/
def TabsAt (tf : List He.Defn) (h : Heap) (K : PySem.W.Frag) : Prop := ∀ p ∈ tf, PySem.W.codeHdIn K (He.cT K p).1 (He.cT K p).2 = true ∧ K.lookup (He.cT K p).2 = none ∧ h.get? (He.cT K p).2 = some { cls := .none, data := .fields #[] }
theorem TabsAt.keeps {tf : List He.Defn} {h h' : Heap} {K : PySem.W.Frag} (t : TabsAt tf h K) (k : ∀ b o, h.get? b = some o → h'.get? b = some o) : TabsAt tf h' K := fun p hp => ⟨(t p hp).1, (t p hp).2.1, k _ _ (t p hp).2.2⟩
end
/-! For the head: written tuples and tables. -/
section
set_option maxRecDepth 100000
set_option maxHeartbeats 0
open PySem PySem.Spec PyProof.Rows L2
/-- the texts of a written tuple at a -/
def txB (K : PySem.W.Frag) (a : Addr) (us : List Str) : Bool := match K.lookup a with
  | some ⟨.type c, _, .seq its _, _⟩ => decide (c = "tuple") && (decide (its.size ≤ sizeLine) && He.relAll (us.map V.str) its.toList)
  | _ => false
theorem txB_ok {K : PySem.W.Frag} {a : Addr} {us : List Str} (h : txB K a us = true) : ∃ (o : Obj) (its : Array Value) (n : Nat), K.lookup a = some o ∧ o.cls = .type "tuple" ∧ o.data = .seq its n ∧ its.size ≤ sizeLine ∧ Vals (us.map V.str) its.toList := by
  unfold txB at h
  cases q : K.lookup a with
  | none =>
    rw [q] at h
    cases h
  | some o =>
    obtain ⟨oc, od, dt, osl⟩ := o
    rw [q] at h
    cases oc with
    | type c =>
      cases dt with
      | seq its n =>
        obtain ⟨h1, h2⟩ := He.ba (show (decide (c = "tuple") && (decide (its.size ≤ sizeLine) && He.relAll (us.map V.str) its.toList)) = true from h)
        obtain ⟨h3, h4⟩ := He.ba h2
        exact ⟨_, its, n, rfl, congrArg Value.type (of_decide_eq_true h1), rfl, of_decide_eq_true h3, He.relAll_ok h4⟩
      | _ => cases h
    | _ => cases dt <;> cases h
/-- the address that the written table at d has at a key -/
def atB (K : PySem.W.Frag) (d : Addr) (z : Str) : Addr := match PySem.W.nsIn K d z with
  | some (some (.ref t)) => t
  | _ => 0
/-- rows of texts by keys -/
def rowsB (K : PySem.W.Frag) (d : Addr) (kvs : List (Str × List Str)) : Bool := kvs.all fun p => decide (PySem.W.nsIn K d p.1 = some (some (.ref (atB K d p.1)))) && txB K (atB K d p.1) p.2
theorem rowsB_ok {K : PySem.W.Frag} {d : Addr} {kvs : List (Str × List Str)} (h : rowsB K d kvs = true) {p : Str × List Str} (hp : p ∈ kvs) : ∃ t, PySem.W.nsIn K d p.1 = some (some (.ref t)) ∧ txB K t p.2 = true := by
  obtain ⟨h1, h2⟩ := He.ba (List.all_eq_true.mp h p hp)
  exact ⟨_, of_decide_eq_true h1, h2⟩
/-! ### the addresses, level by level, by bits -/
def hasB (s a : Nat) : Bool := Nat.beq (Nat.land (Nat.shiftRight s a) 1) 1
def addB : Nat → List Addr → List Addr × Nat
  | s, [] => ([], s)
  | s, a :: r => match hasB s a with
    | true => addB s r
    | false => HandSHeadRun.frNat (Nat.lor s (Nat.shiftLeft 1 a)) fun s' => (a :: (addB s' r).1, (addB s' r).2)
/-- the written tables' keys -/
abbrev KyT : Type := List (Option (List (Option (Str × Int))))
theorem kyT_at {K : PySem.W.Frag} {w : World} {ts : List (Addr × List Str)} (e : (ts.map fun t => He.dicW K t.1) = ts.map fun t => some (He.keysIn w.params t.2)) (i : Nat) {t : Addr × List Str} (h : ts[i]? = some t) : ∃ es n, KDict K w t.1 es n := by
  have e2 : (ts.map fun t => He.dicW K t.1)[i]? = (ts.map fun t => some (He.keysIn w.params t.2))[i]? := by rw [e]
  rw [List.getElem?_map, List.getElem?_map, h] at e2
  exact He.dicW_ok (Option.some.inj e2)
end
/-! For the head: static methods. -/
section
set_option maxRecDepth 100000
set_option maxHeartbeats 0
open PySem PySem.Spec PyProof.Rows L2
/-- the def of a static method -/
def stmA (K : PySem.W.Frag) (x m : Str) : Addr := He5.wf K (He.ga K x) "staticmethod" m
def stmB (K : PySem.W.Frag) (x m : Str) : Bool := PySem.W.readsIn K (He.ga K x) (.type "type") && He5.wrapB K (He.ga K x) "staticmethod" "staticmethod.__get__" m
theorem reads_c {K : PySem.W.Frag} {C : Addr} (h0 : PySem.W.readsIn K C (.type "type") = true) : ClX.CRead K C (.type "type") := by
  refine ⟨h0, ?_⟩
  have h := h0
  unfold PySem.W.readsIn at h
  obtain ⟨h, _⟩ := He.ba h
  obtain ⟨h, _⟩ := He.ba h
  obtain ⟨h, h3⟩ := He.ba h
  obtain ⟨_, h2⟩ := He.ba h
  unfold PySem.W.specialIn
  rw [beq_iff_eq.mp h2, Option.bind_some]
  exact beq_iff_eq.mp h3
/-- the code of the static methods, a level deeper than others -/
def exB (g : Addr → Option Obj) (ns : List Str) (l : List Addr) : List Addr := l.flatMap fun a => match g a with
  | some ⟨_, _, .func fd, _⟩ => (match decide (fd.name ∈ ns), fd.code with
    | true, .ref c => [c]
    | _, _ => [])
  | _ => []
def levC (g : Addr → Option Obj) (ns : List Str) : Nat → List Addr → Nat → List Addr
  | 0, fr, _ => exB g ns fr
  | n + 1, fr, s => match addB s (fr.flatMap fun a => match g a with
      | some o => He.refsD o
      | none => []) with
    | (new, s') => new ++ levC g ns n new s'
def asC (g : Addr → Option Obj) (ns : List Str) (n : Nat) : List Addr := mainGlobals :: levC g ns n [mainGlobals] (Nat.shiftLeft 1 mainGlobals)
end
/-! The head: what the top of the program leaves. -/
section
set_option maxRecDepth 100000
set_option maxHeartbeats 0
open PySem PySem.Spec PyProof.Rows L2
section
open PySem.W PySem.Calls
theorem ends0 (h : (OpenLaw.row PySem.Challenge.rw_leafmarks_k21_rules_told).wellSaid = true → (OpenLaw.row PySem.Challenge.rw_leafmarks_k21_rules_told).Holds) : PySem.Challenge.rw_leafmarks_k21_rules_told.Holds := by
  w_on; o_law
  exact h (by first | assumption | decide +kernel)
theorem witness0 : (OpenLaw.row PySem.Challenge.rw_leafmarks_k21_rules_told).toRowW.promised := by w_witness2
end
def d_is_word : He.DefD := ⟨("is_word", none), "is_word", "is_word", defArgs (top 7), defBody (top 7), defScope (top 7), [], []⟩
def d_is_row : He.DefD := ⟨("is_row", none), "is_row", "is_row", defArgs (top 8), defBody (top 8), defScope (top 8), [], []⟩
def d_is_one_of : He.DefD := ⟨("is_one_of", none), "is_one_of", "is_one_of", defArgs (top 14), defBody (top 14), defScope (top 14), [], []⟩
def d_field_reason : He.DefD := ⟨("field_reason", none), "field_reason", "field_reason", defArgs (top 15), defBody (top 15), defScope (top 15), [], []⟩
def d_checked_fields : He.DefD := ⟨("checked_fields", none), "checked_fields", "checked_fields", defArgs (top 16), defBody (top 16), defScope (top 16), [], []⟩
def d_checked_show : He.DefD := ⟨("checked_show", none), "checked_show", "checked_show", defArgs (top 17), defBody (top 17), defScope (top 17), [], []⟩
def d__law_fresh : He.DefD := ⟨("_law_fresh", none), "_law_fresh", "_law_fresh", defArgs (top 20), defBody (top 20), defScope (top 20), [], []⟩
def d__law_fill : He.DefD := ⟨("_law_fill", none), "_law_fill", "_law_fill", defArgs (top 21), defBody (top 21), defScope (top 21), [], []⟩
def d__law_take : He.DefD := ⟨("_law_take", none), "_law_take", "_law_take", defArgs (top 22), defBody (top 22), defScope (top 22), [], []⟩
def d__law_one : He.DefD := ⟨("_law_one", none), "_law_one", "_law_one", defArgs (top 23), defBody (top 23), defScope (top 23), [], []⟩
def d__law_same : He.DefD := ⟨("_law_same", none), "_law_same", "_law_same", defArgs (top 24), defBody (top 24), defScope (top 24), [], []⟩
def d__law_all_words : He.DefD := ⟨("_law_all_words", none), "_law_all_words", "_law_all_words", defArgs (top 25), defBody (top 25), defScope (top 25), [], []⟩
def d__law_some_words : He.DefD := ⟨("_law_some_words", none), "_law_some_words", "_law_some_words", defArgs (top 26), defBody (top 26), defScope (top 26), [], []⟩
def d__law_handed : He.DefD := ⟨("_law_handed", none), "_law_handed", "_law_handed", defArgs (top 27), defBody (top 27), defScope (top 27), [], []⟩
def d__law_parts : He.DefD := ⟨("_law_parts", none), "_law_parts", "_law_parts", defArgs (top 28), defBody (top 28), defScope (top 28), [], []⟩
def d__law_field : He.DefD := ⟨("_law_field", none), "_law_field", "_law_field", defArgs (top 29), defBody (top 29), defScope (top 29), [], []⟩
def d__law_rule : He.DefD := ⟨("_law_rule", none), "_law_rule", "_law_rule", defArgs (top 30), defBody (top 30), defScope (top 30), [], []⟩
def d__law_deep : He.DefD := ⟨("_law_deep", none), "_law_deep", "_law_deep", defArgs (top 31), defBody (top 31), defScope (top 31), [], []⟩
def d__law_four : He.DefD := ⟨("_law_four", none), "_law_four", "_law_four", defArgs (top 32), defBody (top 32), defScope (top 32), [], []⟩
def d__law_others : He.DefD := ⟨("_law_others", none), "_law_others", "_law_others", defArgs (top 33), defBody (top 33), defScope (top 33), [], []⟩
def d__law_blurred : He.DefD := ⟨("_law_blurred", none), "_law_blurred", "_law_blurred", defArgs (top 34), defBody (top 34), defScope (top 34), [], []⟩
def d_law : He.DefD := ⟨("law", none), "law", "law", defArgs (top 35), defBody (top 35), defScope (top 35), [], []⟩
def d_Rule___init__ : He.DefD := ⟨("Rule", some "__init__"), "__init__", "Rule.__init__", defArgs (inClass (top 18) 0), defBody (inClass (top 18) 0), defScope (inClass (top 18) 0), [], []⟩
def d_Rule___eq__ : He.DefD := ⟨("Rule", some "__eq__"), "__eq__", "Rule.__eq__", defArgs (inClass (top 18) 1), defBody (inClass (top 18) 1), defScope (inClass (top 18) 1), [], []⟩
def d_Rule_fields : He.DefD := ⟨("Rule", some "fields"), "fields", "Rule.fields", defArgs (inClass (top 18) 2), defBody (inClass (top 18) 2), defScope (inClass (top 18) 2), [], []⟩
def d_Rule_show : He.DefD := ⟨("Rule", some "show"), "show", "Rule.show", defArgs (inClass (top 18) 3), defBody (inClass (top 18) 3), defScope (inClass (top 18) 3), [], []⟩
def fn : List He.DefD := [d_is_word, d_is_row, d_is_one_of, d_field_reason, d_checked_fields, d_checked_show, d__law_fresh, d__law_fill, d__law_take, d__law_one, d__law_same, d__law_all_words, d__law_some_words, d__law_handed, d__law_parts, d__law_field, d__law_rule, d__law_deep, d__law_four, d__law_others, d__law_blurred, d_law, d_Rule___init__, d_Rule___eq__, d_Rule_fields, d_Rule_show]
def fa : List He.Fa := [.glo "is_word", .glo "is_row", .glo "is_one_of", .glo "field_reason", .glo "checked_fields", .glo "checked_show", .glo "_law_fresh", .glo "_law_fill", .glo "_law_take", .glo "_law_one", .glo "_law_same", .glo "_law_all_words", .glo "_law_some_words", .glo "_law_handed", .glo "_law_parts", .glo "_law_field", .glo "_law_rule", .glo "_law_deep", .glo "_law_four", .glo "_law_others", .glo "_law_blurred", .glo "law", .glo "Rule", .glo "PARTS", .glo "WAYS", .glo "WORDS", .cls "Rule", .mkr "Rule", .noat "Rule" "parts", .noat "Rule" "way", .meth "Rule" "__init__", .meth "Rule" "__eq__", .meth "Rule" "fields", .meth "Rule" "show", .free "len", .free "range", .free "enumerate", .free "zip", .free "isinstance", .free "int", .free "str", .free "bool", .free "list", .free "tuple", .free "all", .free "any", .free "max", .free "min", .free "sum", .str "LETTERS" "abcdefghijklmnopqrstuvwxyz", .int "LONGEST" 8, .int "MOST_FIELDS" 3]
def exs (K : PySem.W.Frag) : List Bool := [decide (PySem.W.specialIn K (.builtin "object.__class__") "__get__" = some (some (.builtin "getset_descriptor.__get__"))),
  decide (PySem.W.takesIn K (.builtin "object.__class__") = some true),
  decide (PySem.W.findIn K (.ref (He.ga K "Rule")) "__class__" = some (some (.builtin "object.__class__"))),
  decide (PySem.W.mroIn K (He.ga K "Rule") (.type "object") = some true),
  txB K (He.ga K "PARTS") ["read", "jump", "anew", "give", "take", "kept"],
  txB K (He.ga K "WAYS") ["stay", "field", "greater"],
  rowsB K (He.ga K "WORDS") [("read", ["no", "last", "raise", "row"]), ("jump", ["no", "last", "raise", "lower"]), ("anew", ["no", "least"]), ("give", ["no", "last", "raise", "later"]), ("take", ["no", "last", "raise", "later"]), ("kept", ["exact", "floored"])],
  strB K (He.ga K "Rule"),
  stmB K "Rule" "furthest",
  okA K (stmA K "Rule" "furthest") "Rule.furthest",
  stmB K "Rule" "latest",
  okA K (stmA K "Rule" "latest") "Rule.latest",
  stmB K "Rule" "newest",
  okA K (stmA K "Rule" "newest") "Rule.newest",
  stmB K "Rule" "inrow",
  okA K (stmA K "Rule" "inrow") "Rule.inrow"]
def exY (K : PySem.W.Frag) : Bool := (exs K).all id
def gtY (K : PySem.W.Frag) : List He.FnW := [fnA K (stmA K "Rule" "furthest"), fnA K (stmA K "Rule" "latest"), fnA K (stmA K "Rule" "newest"), fnA K (stmA K "Rule" "inrow")]
def vlY : List He.FnW := [some ("furthest", "Rule.furthest", defArgs (inClass (top 18) 6), .stmts (defBody (inClass (top 18) 6)), defScope (inClass (top 18) 6), mainGlobals, [], builtinsNs), some ("latest", "Rule.latest", defArgs (inClass (top 18) 7), .stmts (defBody (inClass (top 18) 7)), defScope (inClass (top 18) 7), mainGlobals, [], builtinsNs), some ("newest", "Rule.newest", defArgs (inClass (top 18) 8), .stmts (defBody (inClass (top 18) 8)), defScope (inClass (top 18) 8), mainGlobals, [], builtinsNs), some ("inrow", "Rule.inrow", defArgs (inClass (top 18) 9), .stmts (defBody (inClass (top 18) 9)), defScope (inClass (top 18) 9), mainGlobals, [], builtinsNs)]
abbrev AlY : Type := He.AlD × (Bool × (List He.FnW × KyT))
def tsY (K : PySem.W.Frag) : List (Addr × List Str) := [(He.ga K "WORDS", ["read", "jump", "anew", "give", "take", "kept"])]
def kyY (w : World) : KyT := (tsY []).map fun t => some (He.keysIn w.params t.2)
def obsK (K : PySem.W.Frag) : AlY := (He.obsD fa fn K, (exY K, (gtY K, (tsY K).map fun t => He.dicW K t.1)))
def obsY (n : Nat) (g : Addr → Option Obj) : AlY := obsK (He.frG g (asC g ["furthest", "latest", "newest", "inrow"] n ++ [cStatics]))
def hookY (n : Nat) : PySem.W.Hook where
  α := AlY
  obs := fun s => obsY n s.heap.get?
  val := fun w => (He.valD fn, (true, (vlY, kyY w)))
  says := fun w h => ∃ K : PySem.W.Frag, K.In h ∧ He.SaysD fa fn K ∧ exY K = true ∧ gtY K = vlY ∧ ((tsY K).map fun t => He.dicW K t.1) = kyY w
  of := fun _ _ e => ⟨_, He.frG_in, congrArg (fun z : AlY => z.1) e, congrArg (fun z : AlY => z.2.1) e, congrArg (fun z : AlY => z.2.2.1) e, congrArg (fun z : AlY => z.2.2.2) e⟩
  keeps := fun _ _ _ ⟨K, hK, c⟩ k => ⟨K, PySem.W.Frag.In.keeps hK k, c⟩
theorem obsY_eq {n : Nat} {g : Addr → Option Obj} {s : Shared} (h : ∀ a, g a = s.heap.get? a) : obsY n g = (hookY n).obs s := by
  have e : g = s.heap.get? := funext h
  rw [e] <;> rfl
abbrev RR : PySem.W.OpenRow := PySem.W.OpenLaw.row PySem.Challenge.rw_leafmarks_k21_rules_told
def ob (s : PySem.W.SharedT) : AlY := obsY 4 (HandSHeadRun.getT s)
theorem ob_eq (s : PySem.W.SharedT) : ob s = (hookY 4).obs s.abs := obsY_eq (HandSHeadRun.getT_eq s)
theorem runY_false (w : World) : HandSHeadRun.RunEq RR (PySem.W.view RR.prog [35]) (hookY 4) ob 8000 ((["_wall", "__name__", "LeafError", "BadRule", "LETTERS", "LONGEST", "is_word", "is_row", "PARTS", "WORDS", "WAYS", "MOST_FIELDS", "is_one_of", "field_reason", "checked_fields", "checked_show", "Rule", "_law_fresh", "_law_fill", "_law_take", "_law_one", "_law_same", "_law_all_words", "_law_some_words", "_law_handed", "_law_parts", "_law_field", "_law_rule", "_law_deep", "_law_four"] : List PySem.Str) ++ (["_law_others", "_law_blurred"] : List PySem.Str)) (w.withFollow "special-get-raises" false) := by
  intro os
  kernel_rfl
theorem runY_true (w : World) : HandSHeadRun.RunEq RR (PySem.W.view RR.prog [35]) (hookY 4) ob 8000 ((["_wall", "__name__", "LeafError", "BadRule", "LETTERS", "LONGEST", "is_word", "is_row", "PARTS", "WORDS", "WAYS", "MOST_FIELDS", "is_one_of", "field_reason", "checked_fields", "checked_show", "Rule", "_law_fresh", "_law_fill", "_law_take", "_law_one", "_law_same", "_law_all_words", "_law_some_words", "_law_handed", "_law_parts", "_law_field", "_law_rule", "_law_deep", "_law_four"] : List PySem.Str) ++ (["_law_others", "_law_blurred"] : List PySem.Str)) (w.withFollow "special-get-raises" true) := by
  intro os
  kernel_rfl
theorem runY (w : World) : HandSHeadRun.RunEq RR (PySem.W.view RR.prog [35]) (hookY 4) ob 8000 ((["_wall", "__name__", "LeafError", "BadRule", "LETTERS", "LONGEST", "is_word", "is_row", "PARTS", "WORDS", "WAYS", "MOST_FIELDS", "is_one_of", "field_reason", "checked_fields", "checked_show", "Rule", "_law_fresh", "_law_fill", "_law_take", "_law_one", "_law_same", "_law_all_words", "_law_some_words", "_law_handed", "_law_parts", "_law_field", "_law_rule", "_law_deep", "_law_four"] : List PySem.Str) ++ (["_law_others", "_law_blurred"] : List PySem.Str)) w := PySem.W.byRow2 "special-get-raises" (P := fun w => HandSHeadRun.RunEq RR (PySem.W.view RR.prog [35]) (hookY 4) ob 8000 ((["_wall", "__name__", "LeafError", "BadRule", "LETTERS", "LONGEST", "is_word", "is_row", "PARTS", "WORDS", "WAYS", "MOST_FIELDS", "is_one_of", "field_reason", "checked_fields", "checked_show", "Rule", "_law_fresh", "_law_fill", "_law_take", "_law_one", "_law_same", "_law_all_words", "_law_some_words", "_law_handed", "_law_parts", "_law_field", "_law_rule", "_law_deep", "_law_four"] : List PySem.Str) ++ (["_law_others", "_law_blurred"] : List PySem.Str)) w) runY_false runY_true w
open PySem.W in
theorem head0 (call : WalkO (view RR.prog [35]) ((["_wall", "__name__", "LeafError", "BadRule", "LETTERS", "LONGEST", "is_word", "is_row", "PARTS", "WORDS", "WAYS", "MOST_FIELDS", "is_one_of", "field_reason", "checked_fields", "checked_show", "Rule", "_law_fresh", "_law_fill", "_law_take", "_law_one", "_law_same", "_law_all_words", "_law_some_words", "_law_handed", "_law_parts", "_law_field", "_law_rule", "_law_deep", "_law_four"] : List PySem.Str) ++ (["_law_others", "_law_blurred"] : List PySem.Str)) (XL (view RR.prog [35]) []) (hookY 4).says RR.toRowW (HandSHeadRun.topDef RR.prog 35) [] fun f vs => PySem.call f vs) : PySem.Challenge.rw_leafmarks_k21_rules_told.Holds :=
  ends0 fun said => HandSHeadRun.head_any (r := RR) (q := view RR.prog [35]) (H := hookY 4) (ob := ob) (M := 8000) (loose := ((["_wall", "__name__", "LeafError", "BadRule", "LETTERS", "LONGEST", "is_word", "is_row", "PARTS", "WORDS", "WAYS", "MOST_FIELDS", "is_one_of", "field_reason", "checked_fields", "checked_show", "Rule", "_law_fresh", "_law_fill", "_law_take", "_law_one", "_law_same", "_law_all_words", "_law_some_words", "_law_handed", "_law_parts", "_law_field", "_law_rule", "_law_deep", "_law_four"] : List PySem.Str) ++ (["_law_others", "_law_blurred"] : List PySem.Str))) (d := HandSHeadRun.topDef RR.prog 35) (kwd := []) ob_eq
    (by kernel_rfl) (fun s => by kernel_rfl) runY (by kernel_rfl) (by kernel_rfl) (by kernel_rfl) (by rfl) said (by decide +kernel) ⟨rfl, rfl, rfl, rfl, rfl, by decide +kernel⟩ witness0 call
end
/-! Data without a heap: what a value tells, read through frozen cells; envs of data; evaluation at the level of data. -/
section
set_option maxRecDepth 100000
set_option maxHeartbeats 2000000

inductive D where
  | non | bl (b : Bool) | int (i : Int) | str (s : Str) | raw (v : V) | drw | any
  | tup (ds : List D) | lst (ds : List D) | ins (C : Addr) (ns : List Str) (ds : List D) | dk (ks : List Key) (ds : List D)
  | ol (ds : List D) | oi (C : Addr) (ns : List Str) (ds : List D) | od (ks : List Key) (ds : List D)
  /-- d, at the address a -/
  | pin (a : Addr) (d : D)

/-- what stands around: the state of draws, the tables of code objects, what is kept for an error -/
structure Sx where
  ds : Option Ds
  tb : List (Addr × Str)
  W : Hp → Hp → Prop
section
variable (K : PySem.W.Frag) (S : Sx) (F : Hp)
mutual
def Dat : D → V → Prop
  | .non, v => v = .non
  | .bl b, v => v = .bl b
  | .int i, v => v = .int i
  | .str s, v => v = .str s
  | .raw u, v => v = u
  | .any, _ => True
  | .drw, v => ∃ s, S.ds = some s ∧ v = .ref s.st
  | .tup ds, v => ∃ a vs, v = .ref a ∧ SqT K F a vs ∧ Dats ds vs
  | .lst ds, v => ∃ a vs, v = .ref a ∧ F a = some (.lst vs) ∧ Dats ds vs
  | .ins C ns ds, v => ∃ a dx gs, v = .ref a ∧ F a = some (.ins C dx gs) ∧ gs.map Prod.fst = ns ∧ Dats ds (gs.map Prod.snd)
  | .dk ks ds, v => ∃ a kvs, v = .ref a ∧ F a = some (.dK kvs) ∧ kvs.map Prod.fst = ks ∧ Dats ds (kvs.map Prod.snd)
  | .ol _, _ => False
  | .oi _ _ _, _ => False
  | .od _ _, _ => False
  | .pin a d, v => v = .ref a ∧ Dat d v
def Dats : List D → List V → Prop
  | [], vs => vs = []
  | d :: ds, vs => ∃ v us, vs = v :: us ∧ Dat d v ∧ Dats ds us
end
end
section
variable {K : PySem.W.Frag} {S : Sx} {F F' : Hp}
mutual
theorem Dat.mono (s : Same F F') : ∀ (d : D) {v : V}, Dat K S F d v → Dat K S F' d v
  | .non, _, h => h
  | .bl _, _, h => h
  | .int _, _, h => h
  | .str _, _, h => h
  | .raw _, _, h => h
  | .any, _, h => h
  | .drw, _, h => h
  | .tup ds, _, ⟨a, vs, e, h1, h2⟩ => ⟨a, vs, e, st_sm s h1, Dats.mono s ds h2⟩
  | .lst ds, _, ⟨a, vs, e, h1, h2⟩ => ⟨a, vs, e, s _ _ h1, Dats.mono s ds h2⟩
  | .ins _ _ ds, _, ⟨a, dx, gs, e, h1, h2, h3⟩ => ⟨a, dx, gs, e, s _ _ h1, h2, Dats.mono s ds h3⟩
  | .dk _ ds, _, ⟨a, kvs, e, h1, h2, h3⟩ => ⟨a, kvs, e, s _ _ h1, h2, Dats.mono s ds h3⟩
  | .pin _ d, _, ⟨e, h⟩ => ⟨e, Dat.mono s d h⟩
theorem Dats.mono (s : Same F F') : ∀ (ds : List D) {vs : List V}, Dats K S F ds vs → Dats K S F' ds vs
  | [], _, h => h
  | d :: ds, _, ⟨v, us, e, h1, h2⟩ => ⟨v, us, e, Dat.mono s d h1, Dats.mono s ds h2⟩
end
theorem Dats.length : ∀ {ds : List D} {vs : List V}, Dats K S F ds vs → vs.length = ds.length
  | [], _, h => by rw [show _ = [] from h]; rfl
  | d :: ds, _, ⟨v, us, e, _, h⟩ => by rw [e, List.length_cons, List.length_cons, Dats.length h]
theorem Dats.get : ∀ {ds : List D} {vs : List V} {i : Nat} {d : D}, Dats K S F ds vs → ds[i]? = some d → ∃ v, vs[i]? = some v ∧ Dat K S F d v
  | [], _, _, _, _, e => by simp at e
  | d :: ds, _, 0, _, ⟨v, us, e, h, _⟩, q => by
    subst e
    rw [List.getElem?_cons_zero] at q
    cases q
    exact ⟨v, rfl, h⟩
  | d :: ds, _, i + 1, x, ⟨v, us, e, _, h⟩, q => by
    subst e
    rw [List.getElem?_cons_succ] at q
    obtain ⟨u, h1, h2⟩ := Dats.get h q
    exact ⟨u, by rw [List.getElem?_cons_succ]; exact h1, h2⟩
theorem Dats.get' {ds : List D} {vs : List V} {i : Nat} {v : V} (h : Dats K S F ds vs) (e : vs[i]? = some v) : ∃ d, ds[i]? = some d ∧ Dat K S F d v := by
  have hl := h.length
  have hi : i < ds.length := by have := (List.getElem?_eq_some_iff.mp e).1; omega
  obtain ⟨u, h1, h2⟩ := h.get (List.getElem?_eq_getElem hi)
  rw [e] at h1
  cases h1
  exact ⟨_, List.getElem?_eq_getElem hi, h2⟩
theorem Dats.app : ∀ {ds es : List D} {vs us : List V}, Dats K S F ds vs → Dats K S F es us → Dats K S F (ds ++ es) (vs ++ us)
  | [], _, _, _, h, q => by rw [show _ = [] from h]; exact q
  | d :: ds, _, _, _, ⟨v, ws, e, h1, h2⟩, q => by subst e; exact ⟨v, _, rfl, h1, Dats.app h2 q⟩
theorem Dats.one {d : D} {v : V} (h : Dat K S F d v) : Dats K S F [d] [v] := ⟨v, [], rfl, h, rfl⟩
theorem Dats.set : ∀ {ds : List D} {vs : List V} {d : D} {v : V} (i : Nat), Dats K S F ds vs → Dat K S F d v → Dats K S F (ds.set i d) (vs.set i v)
  | [], _, _, _, _, h, _ => by rw [show _ = [] from h]; rfl
  | x :: ds, _, d, v, 0, ⟨u, us, e, h1, h2⟩, q => by subst e; exact ⟨v, us, rfl, q, h2⟩
  | x :: ds, _, d, v, i + 1, ⟨u, us, e, h1, h2⟩, q => by subst e; exact ⟨u, _, rfl, h1, Dats.set i h2 q⟩
theorem Dats.take : ∀ {ds : List D} {vs : List V} (i : Nat), Dats K S F ds vs → Dats K S F (ds.take i) (vs.take i)
  | _, _, 0, _ => rfl
  | [], _, i + 1, h => by rw [show _ = [] from h]; rfl
  | x :: ds, _, i + 1, ⟨u, us, e, h1, h2⟩ => by subst e; exact ⟨u, _, rfl, h1, Dats.take i h2⟩
theorem Dats.drop : ∀ {ds : List D} {vs : List V} (i : Nat), Dats K S F ds vs → Dats K S F (ds.drop i) (vs.drop i)
  | _, _, 0, h => h
  | [], _, i + 1, h => by rw [show _ = [] from h]; rfl
  | x :: ds, _, i + 1, ⟨u, us, e, h1, h2⟩ => by subst e; exact Dats.drop i h2
theorem Dats.rep {ds : List D} {vs : List V} (h : Dats K S F ds vs) : ∀ n, Dats K S F (List.replicate n ds).flatten (List.replicate n vs).flatten
  | 0 => rfl
  | n + 1 => by
    rw [List.replicate_succ, List.replicate_succ, List.flatten_cons, List.flatten_cons]
    exact h.app (Dats.rep h n)
theorem Dats.rev : ∀ {ds : List D} {vs : List V}, Dats K S F ds vs → Dats K S F ds.reverse vs.reverse
  | [], _, h => by rw [show _ = [] from h]; rfl
  | x :: ds, _, ⟨u, us, e, h1, h2⟩ => by
    subst e
    rw [List.reverse_cons, List.reverse_cons]
    exact (Dats.rev h2).app (Dats.one h1)
/-- data that stand by themselves -/
def D.flat : D → Bool
  | .non => true | .bl _ => true | .int _ => true | .str _ => true | .raw _ => true | .drw => true
  | _ => false
theorem Dat.flat {d : D} {v : V} (hf : d.flat = true) (h : Dat K S F d v) : Dat K S F' d v := by
  cases d <;> first | exact h | cases hf
theorem Dats.flat : ∀ {ds : List D} {vs : List V}, ds.all D.flat = true → Dats K S F ds vs → Dats K S F' ds vs
  | [], _, _, h => h
  | d :: ds, _, hf, ⟨v, us, e, h1, h2⟩ => by
    rw [List.all_cons, Bool.and_eq_true] at hf
    exact ⟨v, us, e, h1.flat hf.1, Dats.flat hf.2 h2⟩
theorem dats_map {α : Type} {f : α → D} {g : α → V} (hfg : ∀ x v, Dat K S F (f x) v ↔ v = g x) : ∀ {l : List α} {vs : List V}, Dats K S F (l.map f) vs ↔ vs = l.map g
  | [], _ => Iff.rfl
  | x :: l, vs => by
    constructor
    · rintro ⟨v, us, e, h1, h2⟩
      rw [e, (hfg x v).mp h1, (dats_map hfg).mp h2]; rfl
    · intro e
      exact ⟨g x, l.map g, e, (hfg x _).mpr rfl, (dats_map hfg).mpr rfl⟩
theorem dats_int {l : List Int} {vs : List V} : Dats K S F (l.map D.int) vs ↔ vs = l.map V.int := dats_map fun _ _ => Iff.rfl
theorem dats_str {l : List Str} {vs : List V} : Dats K S F (l.map D.str) vs ↔ vs = l.map V.str := dats_map fun _ _ => Iff.rfl
theorem dats_bl {l : List Bool} {vs : List V} : Dats K S F (l.map D.bl) vs ↔ vs = l.map V.bl := dats_map fun _ _ => Iff.rfl

/-! ### heaps: what an evaluation leaves -/
/-- no table of code objects -/
def NoT (o : HO) : Prop := ∀ ps, o ≠ .tbl ps
theorem noT_l {vs : List V} : NoT (.lst vs) := fun _ z => by cases z
theorem noT_i {C dx : Addr} {gs : List (Str × V)} : NoT (.ins C dx gs) := fun _ z => by cases z
/-- free, or a table -/
def Nt (H : Hp) (a : Addr) : Prop := ∀ o, H a = some o → ¬ NoT o
theorem Nt.of {H : Hp} {a : Addr} (h : H a = none) : Nt H a := fun o e => by rw [h] at e; cases e
theorem Nt.ne {H : Hp} {a b : Addr} {o : HO} (h : Nt H a) (e : H b = some o) (n : NoT o) : b ≠ a := fun z => by subst z; exact h o e n
/-- a thing that may be changed -/
def Chg : Option HO → Prop
  | some (.lst _) => True
  | some (.dK _) => True
  | some (.ins _ _ _) => True
  | _ => False
theorem tabS_mut {H : Hp} {P a : Addr} {q : Str} {o : HO} (t : LamX.TabS H P q) (c : Chg (H a)) : LamX.TabS (upd H a o) P q := by
  obtain ⟨ps, h1, h2, h3⟩ := t
  have n1 : P ≠ a := fun z => by subst z; rw [h1] at c; exact c
  refine ⟨ps, by rw [upd_ne n1]; exact h1, h2, fun pos cv hc => ?_⟩
  obtain ⟨c', e1, e2⟩ := h3 pos cv hc
  have n2 : c' ≠ a := fun z => by subst z; rw [e2] at c; exact c
  exact ⟨c', e1, by rw [upd_ne n2]; exact e2⟩
def DrS (S : Sx) (F H : Hp) : Prop := (∀ s, S.ds = some s → Dr H s ∧ F s.st = none) ∧ LamX.Tabs S.tb H ∧ ∀ b o, F b = some o → NoT o
structure Ag0 (S : Sx) (F H F' H' : Hp) : Prop where
  fs : Same F F'
  ok : Same F' H'
  ch : ∀ b o, (∀ s, S.ds = some s → b ≠ s.st) → H b = some o → NoT o → H' b = some o
  nw : ∀ b, F' b ≠ none → F b ≠ none ∨ Nt H b
  st : DrS S F' H'
def DrI (S : Sx) (F H : Hp) : Prop := DrS S F H ∧ ∀ F' H', Ag0 S F H F' H' → S.W F' H'
structure Ag (S : Sx) (F H F' H' : Hp) : Prop extends Ag0 S F H F' H' where
  dr : DrI S F' H'
section
variable {H H' H'' F'' : Hp}
theorem DrS.dr {s : Ds} (d : DrS S F H) (e : S.ds = some s) : Dr H s ∧ F s.st = none := d.1 s e
theorem DrS.ne {a : Addr} (d : DrS S F H) (n : Nt H a) : ∀ s, S.ds = some s → a ≠ s.st ∧ a ≠ s.c := fun s e => by
  obtain ⟨⟨n1, r, b, cells, h1, h2, _⟩, _⟩ := d.1 s e
  exact ⟨(n.ne h1 noT_l).symm, (n.ne h2 noT_l).symm⟩
theorem DrI.ne {a : Addr} (d : DrI S F H) (n : H a = none) : ∀ s, S.ds = some s → a ≠ s.st ∧ a ≠ s.c := d.1.ne (.of n)
theorem Ag0.back (g : Ag0 S F H F' H') {a : Addr} (n : Nt H' a) : Nt H a := fun o e no => by
  by_cases hs : ∀ s, S.ds = some s → a ≠ s.st
  · exact n o (g.ch a o hs e no) no
  · have : ∃ s, S.ds = some s ∧ a = s.st := Classical.byContradiction fun z => hs fun s e1 e2 => z ⟨s, e1, e2⟩
    obtain ⟨s, e1, e2⟩ := this
    exact (g.st.ne n s e1).1 e2
theorem Ag0.refl (h : Same F H) (d : DrS S F H) : Ag0 S F H F H := ⟨Same.refl F, h, fun _ _ _ e _ => e, fun _ e => .inl e, d⟩
theorem Ag0.trans (a : Ag0 S F H F' H') (b : Ag0 S F' H' F'' H'') : Ag0 S F H F'' H'' := by
  refine ⟨a.fs.trans b.fs, b.ok, fun c o n e t => b.ch c o n (a.ch c o n e t) t, fun c e => ?_, b.st⟩
  rcases b.nw c e with h | h
  · exact a.nw c h
  · exact .inr (a.back h)
theorem DrI.step (d : DrI S F H) (a : Ag0 S F H F' H') : DrI S F' H' := ⟨a.st, fun F2 H2 b => d.2 F2 H2 (a.trans b)⟩
theorem Ag0.up (a : Ag0 S F H F' H') (d : DrI S F H) : Ag S F H F' H' := ⟨a, d.step a⟩
theorem Ag.refl (h : Same F H) (d : DrI S F H) : Ag S F H F H := ⟨.refl h d.1, d⟩
theorem Ag.trans (a : Ag S F H F' H') (b : Ag S F' H' F'' H'') (d0 : DrI S F H) : Ag S F H F'' H'' := ⟨a.toAg0.trans b.toAg0, b.dr⟩
theorem DrS.new {a : Addr} {o : HO} (d : DrS S F H) (n : H a = none) : DrS S F (upd H a o) :=
  ⟨fun s e => ⟨(d.1 s e).1.new n, (d.1 s e).2⟩, d.2.1.ext fun b u e => upd_new e n, d.2.2⟩
theorem DrS.mut {a : Addr} {o : HO} (d : DrS S F H) (c : Chg (H a)) (n : ∀ s, S.ds = some s → a ≠ s.st ∧ a ≠ s.c) : DrS S F (upd H a o) := by
  refine ⟨fun s e => ?_, fun p hp => tabS_mut (d.2.1 p hp) c, d.2.2⟩
  obtain ⟨⟨n1, r, b, cells, h1, h2, h3⟩, h4⟩ := d.1 s e
  exact ⟨⟨n1, r, b, cells, upd_old h1 (n s e).1.symm, upd_old h2 (n s e).2.symm, h3⟩, h4⟩
theorem DrS.frz {a : Addr} {o : HO} (d : DrS S F H) (n : ∀ s, S.ds = some s → a ≠ s.st) (no : NoT o) : DrS S (upd F a o) H := by
  refine ⟨fun s e => ⟨(d.1 s e).1, by rw [upd_ne (n s e).symm]; exact (d.1 s e).2⟩, d.2.1, fun b u e => ?_⟩
  by_cases q : b = a
  · subst q; rw [upd_same] at e; cases e; exact no
  · rw [upd_ne q] at e; exact d.2.2 b u e
/-- a new cell that stays as it is -/
theorem Ag.newF {a : Addr} {o : HO} (g : Ag S F H F' H') (d0 : DrI S F H) (n : H' a = none) (no : NoT o := by intro ps z; cases z) : Ag S F H (upd F' a o) (upd H' a o) := by
  have nF : F' a = none := g.ok.free n
  have s : Ag0 S F' H' (upd F' a o) (upd H' a o) := by
    refine ⟨fun b u e => upd_new e nF, fun b u e => ?_, fun b u _ e _ => upd_new e n, fun b e => ?_, ?_⟩
    · by_cases q : b = a
      · subst q; rw [upd_same] at e ⊢; exact e
      · rw [upd_ne q] at e ⊢; exact g.ok _ _ e
    · by_cases q : b = a
      · subst q; exact .inr (.of n)
      · rw [upd_ne q] at e; exact .inl e
    · exact (g.st.frz (fun s e => (g.dr.ne n s e).1) no).new n
  exact (g.toAg0.trans s).up d0
/-- a new cell of one's own -/
theorem Ag.newH {a : Addr} {o : HO} (g : Ag S F H F' H') (d0 : DrI S F H) (n : H' a = none) : Ag S F H F' (upd H' a o) :=
  Ag0.up ⟨g.fs, fun b u e => upd_new (g.ok _ _ e) n, fun b u q e t => upd_new (g.ch b u q e t) n, g.nw, g.st.new n⟩ d0
/-- one's own cell changes -/
theorem Ag.mut {a : Addr} {o : HO} (g : Ag S F H F' H') (d0 : DrI S F H) (c : Chg (H' a)) (n : Nt H a) (nF : F' a = none) (ns : ∀ s, S.ds = some s → a ≠ s.st ∧ a ≠ s.c) : Ag S F H F' (upd H' a o) :=
  Ag0.up ⟨g.fs, fun b u e => upd_old (g.ok _ _ e) (ne_of_none e nF), fun b u q e t => upd_old (g.ch b u q e t) (n.ne e t), g.nw, g.st.mut c ns⟩ d0
/-- one's own cell becomes frozen -/
theorem Ag.frz {a : Addr} {o : HO} (g : Ag S F H F' H') (d0 : DrI S F H) (n : Nt H a) (nF : F' a = none) (h : H' a = some o) (ns : ∀ s, S.ds = some s → a ≠ s.st) (no : NoT o := by intro ps z; cases z) : Ag S F H (upd F' a o) H' := by
  refine Ag0.up ⟨fun b u e => upd_new (g.fs _ _ e) nF, fun b u e => ?_, g.ch, fun b e => ?_, g.st.frz ns no⟩ d0
  · by_cases q : b = a
    · subst q; rw [upd_same] at e; rw [h]; exact e
    · rw [upd_ne q] at e; exact g.ok _ _ e
  · by_cases q : b = a
    · subst q; exact .inr n
    · rw [upd_ne q] at e; exact g.nw b e
/-- a cell of another one stays -/
theorem Ag.keep {a : Addr} {o : HO} (g : Ag S F H F' H') (ns : ∀ s, S.ds = some s → a ≠ s.st) (h : H a = some o) (no : NoT o := by intro ps z; cases z) : H' a = some o := g.ch a o ns h no
theorem Ag.keepF {a : Addr} {o : HO} (g : Ag S F H F' H') (h : H a = some o) (nF : F a = none) (no : NoT o := by intro ps z; cases z) : F' a = none := by
  cases q : F' a with
  | none => rfl
  | some u =>
    rcases g.nw a (by rw [q]; exact fun z => nomatch z) with z | z
    · exact absurd nF z
    · exact absurd no (z o h)
theorem Ag.back {a : Addr} (g : Ag S F H F' H') (n : H' a = none) : Nt H a := g.toAg0.back (.of n)
theorem Ag.backN {a : Addr} (g : Ag S F H F' H') (n : Nt H' a) : Nt H a := g.toAg0.back n
end

/-! ### envs of data -/
/-- a cell of one's own: a list, an instance, a dict -/
inductive Cl where
  | l (ds : List D) | i (C : Addr) (ns : List Str) (ds : List D) | k (ks : List Key) (ds : List D)
/-- cells of one's own, by their addresses -/
abbrev Gh := List (Addr × Cl)
inductive Sl where
  | un | val (d : D) | own (ds : List D) | slf (p dx C : Addr) (ns : List Str) (ds : List D) | bor (ds : List D) | obj (m : Bool) (d : D) (γ : Gh)
def Sl.mine : Sl → Bool
  | .own _ => true
  | .slf _ _ _ _ _ => true
  | .obj m _ _ => m
  | _ => false
/-- the slot's cell is no frozen one: one's own, or lent by the caller -/
def Sl.held : Sl → Bool
  | .own _ => true
  | .slf _ _ _ _ _ => true
  | .bor _ => true
  | .obj _ _ _ => true
  | _ => false
/-- the cells of a slot that is held -/
def Sl.loc (x : Option V) : Sl → Addr → Prop
  | .own _, a => x = some (.ref a)
  | .slf _ _ _ _ _, a => x = some (.ref a)
  | .bor _, a => x = some (.ref a)
  | .obj _ _ γ, a => a ∈ γ.map Prod.fst
  | _, _ => False
theorem Sl.mh {s : Sl} (h : s.mine = true) : s.held = true := by cases s <;> first | rfl | cases h
theorem Sl.lh {s : Sl} {x : Option V} {a : Addr} (h : s.loc x a) : s.held = true := by cases s <;> first | rfl | exact h.elim
def Prv (S : Sx) (F : Hp) (a : Addr) : Prop := F a = none ∧ ∀ s, S.ds = some s → a ≠ s.st ∧ a ≠ s.c
def ClOk (K : PySem.W.Frag) (S : Sx) (F : Hp) : Cl → HO → Prop
  | .l ds, o => ∃ vs, o = .lst vs ∧ Dats K S F ds vs
  | .i C ns ds, o => ∃ dx gs, o = .ins C dx gs ∧ gs.map Prod.fst = ns ∧ Dats K S F ds (gs.map Prod.snd)
  | .k ks ds, o => ∃ kvs, o = .dK kvs ∧ kvs.map Prod.fst = ks ∧ Dats K S F ds (kvs.map Prod.snd)
theorem ClOk.no {F : Hp} {c : Cl} {o : HO} (h : ClOk K S F c o) : NoT o := by
  cases c with
  | l ds => obtain ⟨vs, rfl, _⟩ := h; exact noT_l
  | i C ns ds => obtain ⟨dx, gs, rfl, _⟩ := h; exact noT_i
  | k ks ds => obtain ⟨kvs, rfl, _⟩ := h; exact fun _ z => by cases z
theorem ClOk.chg {F : Hp} {c : Cl} {o : HO} (h : ClOk K S F c o) : Chg (some o) := by
  cases c with
  | l ds => obtain ⟨vs, rfl, _⟩ := h; trivial
  | i C ns ds => obtain ⟨dx, gs, rfl, _⟩ := h; trivial
  | k ks ds => obtain ⟨kvs, rfl, _⟩ := h; trivial
theorem ClOk.mono {c : Cl} {o : HO} (s : Same F F') (h : ClOk K S F c o) : ClOk K S F' c o := by
  cases c with
  | l ds => obtain ⟨vs, e, h⟩ := h; exact ⟨vs, e, Dats.mono s ds h⟩
  | i C ns ds => obtain ⟨dx, gs, e, h1, h⟩ := h; exact ⟨dx, gs, e, h1, Dats.mono s ds h⟩
  | k ks ds => obtain ⟨kvs, e, h1, h⟩ := h; exact ⟨kvs, e, h1, Dats.mono s ds h⟩
structure GhOk (K : PySem.W.Frag) (S : Sx) (F H : Hp) (γ : Gh) : Prop where
  nd : (γ.map Prod.fst).Nodup
  ok : ∀ a c, (a, c) ∈ γ → Prv S F a ∧ ∃ o, H a = some o ∧ ClOk K S F c o
def SlOk (K : PySem.W.Frag) (S : Sx) (F H : Hp) (x : Option V) : Sl → Prop
  | .un => True
  | .val d => ∃ v, x = some v ∧ Dat K S F d v
  | .own ds => ∃ a vs, x = some (.ref a) ∧ Prv S F a ∧ H a = some (.lst vs) ∧ Dats K S F ds vs
  | .slf p dx C ns ds => ∃ gs, x = some (.ref p) ∧ Prv S F p ∧ H p = some (.ins C dx gs) ∧ gs.map Prod.fst = ns ∧ Dats K S F ds (gs.map Prod.snd)
  | .bor ds => ∃ a vs, x = some (.ref a) ∧ Prv S F a ∧ H a = some (.lst vs) ∧ Dats K S F ds vs
  | .obj _ d γ => ∃ v, x = some v ∧ Dat K S F d v ∧ GhOk K S F H γ
structure EnvOk (K : PySem.W.Frag) (S : Sx) (F H : Hp) (σ : L2.St) (ρ : List Sl) : Prop where
  len : σ.length = ρ.length
  ok : ∀ (i : Nat) (x : Option V) (s : Sl), σ[i]? = some x → ρ[i]? = some s → SlOk K S F H x s
  sep : ∀ (i j : Nat) (s s' : Sl) (x x' : Option V) (a : Addr), i ≠ j → ρ[i]? = some s → ρ[j]? = some s' → s.mine = true → σ[i]? = some x → σ[j]? = some x' → s.loc x a → s'.loc x' a → False
def OwnNew (H0 : Hp) (σ : L2.St) (ρ : List Sl) : Prop := ∀ (i : Nat) (s : Sl) (x : Option V) (a : Addr), ρ[i]? = some s → s.mine = true → σ[i]? = some x → s.loc x a → Nt H0 a
section
variable {H H' F0 H0 : Hp} {σ : L2.St} {ρ : List Sl}
theorem GhOk.ag {γ : Gh} (h : GhOk K S F H γ) (g : Ag S F H F' H') : GhOk K S F' H' γ := ⟨h.nd, fun a c hm => by
  obtain ⟨⟨p1, p2⟩, o, e, q⟩ := h.ok a c hm
  exact ⟨⟨g.keepF e p1 q.no, p2⟩, o, g.keep (fun s e => (p2 s e).1) e q.no, q.mono g.fs⟩⟩
theorem GhOk.mut {γ : Gh} {a : Addr} {o : HO} (h : GhOk K S F H γ) (n : a ∉ γ.map Prod.fst) : GhOk K S F (upd H a o) γ := ⟨h.nd, fun b c hm => by
  obtain ⟨p, u, e, q⟩ := h.ok b c hm
  exact ⟨p, u, upd_old e (fun z => n (z ▸ List.mem_map.mpr ⟨_, hm, rfl⟩)), q⟩⟩
theorem SlOk.ag {x : Option V} {s : Sl} (h : SlOk K S F H x s) (g : Ag S F H F' H') : SlOk K S F' H' x s := by
  cases s with
  | un => exact trivial
  | val d =>
    obtain ⟨v, e, h⟩ := h
    exact ⟨v, e, Dat.mono g.fs d h⟩
  | own ds =>
    obtain ⟨a, vs, e, ⟨p1, p2⟩, h1, h2⟩ := h
    exact ⟨a, vs, e, ⟨g.keepF h1 p1, p2⟩, g.keep (fun s e => (p2 s e).1) h1, Dats.mono g.fs ds h2⟩
  | slf a dx C ns ds =>
    obtain ⟨gs, e, ⟨p1, p2⟩, h1, h2, h3⟩ := h
    exact ⟨gs, e, ⟨g.keepF h1 p1, p2⟩, g.keep (fun s e => (p2 s e).1) h1, h2, Dats.mono g.fs ds h3⟩
  | bor ds =>
    obtain ⟨a, vs, e, ⟨p1, p2⟩, h1, h2⟩ := h
    exact ⟨a, vs, e, ⟨g.keepF h1 p1, p2⟩, g.keep (fun s e => (p2 s e).1) h1, Dats.mono g.fs ds h2⟩
  | obj m d γ =>
    obtain ⟨v, e, h1, h2⟩ := h
    exact ⟨v, e, Dat.mono g.fs d h1, h2.ag g⟩
theorem EnvOk.ag (e : EnvOk K S F H σ ρ) (g : Ag S F H F' H') : EnvOk K S F' H' σ ρ := ⟨e.len, fun i x s h1 h2 => (e.ok i x s h1 h2).ag g, e.sep⟩
theorem EnvOk.at {i : Nat} {s : Sl} (e : EnvOk K S F H σ ρ) (h : ρ[i]? = some s) : ∃ x, σ[i]? = some x ∧ SlOk K S F H x s := by
  have hi : i < σ.length := by have := (List.getElem?_eq_some_iff.mp h).1; rw [e.len]; exact this
  exact ⟨σ[i], List.getElem?_eq_getElem hi, e.ok i σ[i] _ (List.getElem?_eq_getElem hi) h⟩
theorem EnvOk.val {i : Nat} {d : D} (e : EnvOk K S F H σ ρ) (h : ρ[i]? = some (.val d)) : ∃ v, σ[i]? = some (some v) ∧ Dat K S F d v := by
  obtain ⟨x, h1, v, rfl, h2⟩ := e.at h
  exact ⟨v, h1, h2⟩
theorem EnvOk.own {i : Nat} {ds : List D} (e : EnvOk K S F H σ ρ) (h : ρ[i]? = some (.own ds)) : ∃ a vs, σ[i]? = some (some (.ref a)) ∧ Prv S F a ∧ H a = some (.lst vs) ∧ Dats K S F ds vs := by
  obtain ⟨x, h1, a, vs, rfl, h2⟩ := e.at h
  exact ⟨a, vs, h1, h2⟩
theorem EnvOk.bor {i : Nat} {ds : List D} (e : EnvOk K S F H σ ρ) (h : ρ[i]? = some (.bor ds)) : ∃ a vs, σ[i]? = some (some (.ref a)) ∧ Prv S F a ∧ H a = some (.lst vs) ∧ Dats K S F ds vs := by
  obtain ⟨x, h1, a, vs, rfl, h2⟩ := e.at h
  exact ⟨a, vs, h1, h2⟩
theorem EnvOk.slf {i : Nat} {p dx C : Addr} {ns : List Str} {ds : List D} (e : EnvOk K S F H σ ρ) (h : ρ[i]? = some (.slf p dx C ns ds)) : ∃ gs, σ[i]? = some (some (.ref p)) ∧ Prv S F p ∧ H p = some (.ins C dx gs) ∧ gs.map Prod.fst = ns ∧ Dats K S F ds (gs.map Prod.snd) := by
  obtain ⟨x, h1, gs, rfl, h2⟩ := e.at h
  exact ⟨gs, h1, h2⟩
theorem EnvOk.obj {i : Nat} {m : Bool} {d : D} {γ : Gh} (e : EnvOk K S F H σ ρ) (h : ρ[i]? = some (.obj m d γ)) : ∃ v, σ[i]? = some (some v) ∧ Dat K S F d v ∧ GhOk K S F H γ := by
  obtain ⟨x, h1, v, rfl, h2⟩ := e.at h
  exact ⟨v, h1, h2⟩
/-- the slot i becomes another one -/
theorem EnvOk.put {i : Nat} {s₀ : Sl} {x₀ : Option V} {σ' : L2.St} (len : σ'.length = ρ.length) (hσ : ∀ j : Nat, j ≠ i → ∀ (x : Option V) (s : Sl), σ'[j]? = some x → ρ[j]? = some s → SlOk K S F H x s) (hi : i < ρ.length → σ'[i]? = some x₀) (ok : SlOk K S F H x₀ s₀)
    (sep : ∀ (j : Nat) (s : Sl) (x : Option V) (a : Addr), j ≠ i → ρ[j]? = some s → σ'[j]? = some x → s.loc x a → s₀.loc x₀ a → False)
    (sep0 : ∀ (j k : Nat) (s s' : Sl) (x x' : Option V) (b : Addr), j ≠ i → k ≠ i → j ≠ k → ρ[j]? = some s → ρ[k]? = some s' → s.mine = true → σ'[j]? = some x → σ'[k]? = some x' → s.loc x b → s'.loc x' b → False) :
    EnvOk K S F H σ' (ρ.set i s₀) := by
  have at_i : ∀ {s : Sl}, (ρ.set i s₀)[i]? = some s → i < ρ.length ∧ s = s₀ := fun {s} h => by
    have hl : i < ρ.length := by have := (List.getElem?_eq_some_iff.mp h).1; rw [List.length_set] at this; exact this
    rw [List.getElem?_set_self hl] at h
    exact ⟨hl, (Option.some.inj h).symm⟩
  refine ⟨by rw [List.length_set, len], fun j x s h1 h2 => ?_, fun j k s s' x x' b n h1 h2 m1 h3 h4 l1 l2 => ?_⟩
  · by_cases q : j = i
    · subst q
      obtain ⟨hl, rfl⟩ := at_i h2
      rw [hi hl] at h1
      cases h1
      exact ok
    · rw [List.getElem?_set_ne (Ne.symm q)] at h2
      exact hσ j q x s h1 h2
  · by_cases q : j = i
    · subst q
      obtain ⟨hl, rfl⟩ := at_i h1
      rw [List.getElem?_set_ne n] at h2
      rw [hi hl] at h3
      cases h3
      exact sep k s' x' b (Ne.symm n) h2 h4 l2 l1
    · rw [List.getElem?_set_ne (Ne.symm q)] at h1
      by_cases q2 : k = i
      · subst q2
        obtain ⟨hl, rfl⟩ := at_i h2
        rw [hi hl] at h4
        cases h4
        exact sep j s x b q h1 h3 l1 l2
      · rw [List.getElem?_set_ne (Ne.symm q2)] at h2
        exact sep0 j k s s' x x' b q q2 n h1 h2 m1 h3 h4 l1 l2
/-- the slot i is set to a value, and holds what was held by nobody -/
theorem EnvOk.newG {i : Nat} {s₀ : Sl} {v : V} (e : EnvOk K S F H σ ρ) (hn : ∀ (j : Nat) (s : Sl) (x : Option V) (a : Addr), j ≠ i → ρ[j]? = some s → σ[j]? = some x → s.loc x a → s₀.loc (some v) a → False) (ok : SlOk K S F H (some v) s₀) : EnvOk K S F H (σ.set i (some v)) (ρ.set i s₀) := by
  refine EnvOk.put (x₀ := some v) (by rw [List.length_set, e.len]) (fun j n x t h1 h2 => ?_) (fun hl => List.getElem?_set_self (by rw [e.len]; exact hl)) ok (fun j t x a n h1 h2 l1 l2 => ?_) (fun j k t t' x x' b n1 n2 n3 h1 h2 m1 h3 h4 => ?_)
  · rw [List.getElem?_set_ne (Ne.symm n)] at h1
    exact e.ok j x t h1 h2
  · rw [List.getElem?_set_ne (Ne.symm n)] at h2
    exact hn j t x a n h1 h2 l1 l2
  · rw [List.getElem?_set_ne (Ne.symm n1)] at h3
    rw [List.getElem?_set_ne (Ne.symm n2)] at h4
    exact e.sep j k t t' x x' b n3 h1 h2 m1 h3 h4
/-- a slot is set to a value -/
theorem EnvOk.set {i : Nat} {d : D} {v : V} (e : EnvOk K S F H σ ρ) (h : Dat K S F d v) : EnvOk K S F H (σ.set i (some v)) (ρ.set i (.val d)) :=
  e.newG (fun _ _ _ _ _ _ _ _ z => z.elim) ⟨v, rfl, h⟩
theorem OwnNew.newG {i : Nat} {s₀ : Sl} {v : V} (o : OwnNew H0 σ ρ) (ha : s₀.mine = true → ∀ a, s₀.loc (some v) a → Nt H0 a) : OwnNew H0 (σ.set i (some v)) (ρ.set i s₀) := by
  intro j t x b h1 m h2 l
  by_cases q : i = j
  · subst q
    have hl : i < σ.length := by have := (List.getElem?_eq_some_iff.mp h2).1; rw [List.length_set] at this; exact this
    have hr : i < ρ.length := by have := (List.getElem?_eq_some_iff.mp h1).1; rw [List.length_set] at this; exact this
    rw [List.getElem?_set_self hl] at h2
    rw [List.getElem?_set_self hr] at h1
    cases h1; cases h2
    exact ha m b l
  · rw [List.getElem?_set_ne q] at h1 h2
    exact o j t x b h1 m h2 l
theorem OwnNew.set {i : Nat} {d : D} {v : V} (o : OwnNew H0 σ ρ) : OwnNew H0 (σ.set i (some v)) (ρ.set i (.val d)) := o.newG fun m => by cases m
/-- the cells of other slots stay when the cell a changes -/
theorem SlOk.mut {x : Option V} {s : Sl} {a : Addr} {o : HO} (h : SlOk K S F H x s) (n : ¬ s.loc x a) : SlOk K S F (upd H a o) x s := by
  cases s with
  | un => exact trivial
  | val d => exact h
  | own ds =>
    obtain ⟨b, vs, e, p, h1, h2⟩ := h
    exact ⟨b, vs, e, p, upd_old h1 (fun z => n (by rw [e, z]; rfl)), h2⟩
  | slf b dx C ns ds =>
    obtain ⟨gs, e, p, h1, h2, h3⟩ := h
    exact ⟨gs, e, p, upd_old h1 (fun z => n (by rw [e, z]; rfl)), h2, h3⟩
  | bor ds =>
    obtain ⟨b, vs, e, p, h1, h2⟩ := h
    exact ⟨b, vs, e, p, upd_old h1 (fun z => n (by rw [e, z]; rfl)), h2⟩
  | obj m d γ =>
    obtain ⟨v, e, h1, h2⟩ := h
    exact ⟨v, e, h1, h2.mut n⟩
/-- a cell of one's own changes, in its place -/
theorem EnvOk.mut {i : Nat} {s s₀ : Sl} {a : Addr} {o : HO} {x : Option V} (e : EnvOk K S F H σ ρ) (hi : σ[i]? = some x) (hs : ρ[i]? = some s) (hm : s.mine = true) (ok : SlOk K S F (upd H a o) x s₀) (ha : s.loc x a := by exact rfl) (hl : ∀ b, s₀.loc x b → s.loc x b := by exact fun _ z => z) : EnvOk K S F (upd H a o) σ (ρ.set i s₀) := by
  refine EnvOk.put (x₀ := x) e.len (fun j n y t h1 h2 => (e.ok j y t h1 h2).mut fun l => ?_) (fun _ => hi) ok (fun j t y b n h1 h2 l1 l2 => ?_) (fun j k t t' y y' b n1 n2 n3 h1 h2 m1 h3 h4 => e.sep j k t t' y y' b n3 h1 h2 m1 h3 h4)
  · exact e.sep i j s t x y a (Ne.symm n) hs h2 hm hi h1 ha l
  · exact e.sep i j s t x y b (Ne.symm n) hs h1 hm hi h2 (hl b l2) l1
theorem OwnNew.mut {i : Nat} {s s₀ : Sl} (o : OwnNew H0 σ ρ) (hs : ρ[i]? = some s) (hm : s.mine = true) (hl : ∀ x b, s₀.loc x b → s.loc x b := by exact fun _ _ z => z) : OwnNew H0 σ (ρ.set i s₀) := by
  intro j t x a h1 m h2 l
  by_cases q : i = j
  · subst q
    have hr : i < ρ.length := by have := (List.getElem?_eq_some_iff.mp h1).1; rw [List.length_set] at this; exact this
    rw [List.getElem?_set_self hr] at h1
    cases h1
    exact o i s x a hs hm h2 (hl x a l)
  · rw [List.getElem?_set_ne q] at h1
    exact o j t x a h1 m h2 l
/-- a new cell, owned by the slot i -/
theorem EnvOk.new {i : Nat} {s₀ : Sl} {a : Addr} (e : EnvOk K S F H σ ρ) (hi : i < σ.length) (hn : ∀ (j : Nat) (s : Sl), ρ[j]? = some s → ∀ x, σ[j]? = some x → ¬ s.loc x a) (ok : SlOk K S F H (some (.ref a)) s₀) (hl : ∀ b, s₀.loc (some (.ref a)) b → b = a := by intro b z; cases z; rfl) : EnvOk K S F H (σ.set i (some (.ref a))) (ρ.set i s₀) :=
  e.newG (fun j s x b _ h1 h2 l1 l2 => by rw [hl b l2] at l1; exact hn j s h1 x h2 l1) ok
theorem OwnNew.new {i : Nat} {s₀ : Sl} {a : Addr} (o : OwnNew H0 σ ρ) (ha : Nt H0 a) (hl : ∀ b, s₀.loc (some (.ref a)) b → b = a := by intro b z; cases z; rfl) : OwnNew H0 (σ.set i (some (.ref a))) (ρ.set i s₀) := o.newG fun _ b l => by rw [hl b l]; exact ha
theorem SlOk.fresh {a : Addr} {x : Option V} {s : Sl} (ok : SlOk K S F H x s) (n : Nt H a) : ¬ s.loc x a := by
  intro z
  cases s with
  | un => exact z
  | val d => exact z
  | own ds =>
    obtain ⟨b, vs, e1, _, h2, _⟩ := ok
    subst e1
    cases z
    exact n _ h2 noT_l
  | slf b dx C ns ds =>
    obtain ⟨gs, e1, _, h2, _⟩ := ok
    subst e1
    cases z
    exact n _ h2 noT_i
  | bor ds =>
    obtain ⟨b, vs, e1, _, h2, _⟩ := ok
    subst e1
    cases z
    exact n _ h2 noT_l
  | obj m d γ =>
    obtain ⟨v, e1, _, h2⟩ := ok
    obtain ⟨⟨b, c⟩, hm, rfl⟩ := List.mem_map.mp z
    obtain ⟨_, o, e, q⟩ := h2.ok b c hm
    exact n _ e q.no
theorem EnvOk.fresh {a : Addr} (e : EnvOk K S F H σ ρ) (n : Nt H a) : ∀ (j : Nat) (s : Sl), ρ[j]? = some s → ∀ x, σ[j]? = some x → ¬ s.loc x a := fun j s h x z => (e.ok j x s z h).fresh n
theorem GhOk.frz {γ : Gh} {a : Addr} {o : HO} (h : GhOk K S F H γ) (nF : F a = none) (n : a ∉ γ.map Prod.fst) : GhOk K S (upd F a o) H γ := ⟨h.nd, fun b c hm => by
  obtain ⟨⟨p1, p2⟩, u, e, q⟩ := h.ok b c hm
  have nb : b ≠ a := fun z => n (z ▸ List.mem_map.mpr ⟨_, hm, rfl⟩)
  exact ⟨⟨by rw [upd_ne nb]; exact p1, p2⟩, u, e, q.mono fun b u q => upd_new q nF⟩⟩
theorem SlOk.frz {x : Option V} {s : Sl} {a : Addr} {o : HO} (h : SlOk K S F H x s) (nF : F a = none) (n : ¬ s.loc x a) : SlOk K S (upd F a o) H x s := by
  have sm : Same F (upd F a o) := fun b u q => upd_new q nF
  cases s with
  | un => exact trivial
  | val d' =>
    obtain ⟨v, e1, e2⟩ := h
    exact ⟨v, e1, Dat.mono sm d' e2⟩
  | own ds =>
    obtain ⟨b, vs, e1, ⟨p1, p2⟩, h3, h4⟩ := h
    have nb : b ≠ a := fun z => n (by rw [e1, z]; rfl)
    exact ⟨b, vs, e1, ⟨by rw [upd_ne nb]; exact p1, p2⟩, h3, Dats.mono sm ds h4⟩
  | slf b dx C ns ds =>
    obtain ⟨gs, e1, ⟨p1, p2⟩, h3, h4, h5⟩ := h
    have nb : b ≠ a := fun z => n (by rw [e1, z]; rfl)
    exact ⟨gs, e1, ⟨by rw [upd_ne nb]; exact p1, p2⟩, h3, h4, Dats.mono sm ds h5⟩
  | bor ds =>
    obtain ⟨b, vs, e1, ⟨p1, p2⟩, h3, h4⟩ := h
    have nb : b ≠ a := fun z => n (by rw [e1, z]; rfl)
    exact ⟨b, vs, e1, ⟨by rw [upd_ne nb]; exact p1, p2⟩, h3, Dats.mono sm ds h4⟩
  | obj m d γ =>
    obtain ⟨v, e1, h3, h4⟩ := h
    exact ⟨v, e1, Dat.mono sm d h3, h4.frz nF n⟩
/-- a slot is frozen -/
theorem EnvOk.frz {i : Nat} {s : Sl} {d : D} {a : Addr} {o : HO} {x : Option V} (e : EnvOk K S F H σ ρ) (hi : σ[i]? = some x) (hs : ρ[i]? = some s) (hm : s.mine = true) (nF : F a = none) (hd : ∃ v, x = some v ∧ Dat K S (upd F a o) d v) (ha : s.loc x a := by exact rfl) : EnvOk K S (upd F a o) H σ (ρ.set i (.val d)) :=
  EnvOk.put (x₀ := x) e.len (fun j n y t h1 h2 => (e.ok j y t h1 h2).frz nF fun l => e.sep i j s t x y a (Ne.symm n) hs h2 hm hi h1 ha l) (fun _ => hi) hd (fun _ _ _ _ _ _ _ _ z => z.elim) (fun j k t t' y y' b n1 n2 n3 h1 h2 m1 h3 h4 => e.sep j k t t' y y' b n3 h1 h2 m1 h3 h4)
end
end
end
/-! Readings at the level of data: judgements and rules. -/
section
set_option maxRecDepth 100000
set_option maxHeartbeats 2000000
section
variable (K : PySem.W.Frag) (S : Sx)
def EvD (te : TE) (ρ : List Sl) (Φ : D → Prop) : Prop := ∀ (σ : L2.St) (F H : Hp), EnvOk K S F H σ ρ → Same F H → DrI S F H → ∀ Q : VK, (∀ v d F' H', Φ d → Dat K S F' d v → Ag S F H F' H' → Q v H') → te σ H Q
def EvA (ta : TA) (ρ : List Sl) (Φ : List D → Prop) : Prop := ∀ (σ : L2.St) (F H : Hp), EnvOk K S F H σ ρ → Same F H → DrI S F H → ∀ Q : List V → Hp → Prop, (∀ vs ds F' H', Φ ds → Dats K S F' ds vs → Ag S F H F' H' → Q vs H') → ta σ H Q
def EvT (tt : TT) (ρ : List Sl) (Φ : Bool → Prop) : Prop := ∀ (σ : L2.St) (F H : Hp), EnvOk K S F H σ ρ → Same F H → DrI S F H → ∀ Q : Bool → Hp → Prop, (∀ b F' H', Φ b → Ag S F H F' H' → Q b H') → tt σ H Q
/-- a new list -/
def EvN (te : TE) (ρ : List Sl) (Φ : List D → Prop) : Prop := ∀ (σ : L2.St) (F H : Hp), EnvOk K S F H σ ρ → Same F H → DrI S F H → ∀ Q : VK, (∀ a vs ds F' H', Φ ds → Nt H a → F' a = none → H' a = some (.lst vs) → Dats K S F' ds vs → Ag S F H F' H' → Q (.ref a) H') → te σ H Q
def OpD (r : R2) (x y : D) (Φ : D → Prop) : Prop := ∀ (u w : V) (F H : Hp), Same F H → DrI S F H → Dat K S F x u → Dat K S F y w → ∀ Q : VK, (∀ v d F' H', Φ d → Dat K S F' d v → Ag S F H F' H' → Q v H') → r u w H Q
def OpN (r : R2) (x y : D) (Φ : List D → Prop) : Prop := ∀ (u w : V) (F H : Hp), Same F H → DrI S F H → Dat K S F x u → Dat K S F y w → ∀ Q : VK, (∀ a vs ds F' H', Φ ds → Nt H a → F' a = none → H' a = some (.lst vs) → Dats K S F' ds vs → Ag S F H F' H' → Q (.ref a) H') → r u w H Q
def UnD (r : V → Hp → VK → Prop) (x : D) (Φ : D → Prop) : Prop := ∀ (u : V) (F H : Hp), Same F H → DrI S F H → Dat K S F x u → ∀ Q : VK, (∀ v d F' H', Φ d → Dat K S F' d v → Ag S F H F' H' → Q v H') → r u H Q
def CbD (r : List V → Hp → VK → Prop) (xs : List D) (Φ : D → Prop) : Prop := ∀ (us : List V) (F H : Hp), Same F H → DrI S F H → Dats K S F xs us → ∀ Q : VK, (∀ v d F' H', Φ d → Dat K S F' d v → Ag S F H F' H' → Q v H') → r us H Q
def CbN (r : List V → Hp → VK → Prop) (xs : List D) (Φ : List D → Prop) : Prop := ∀ (us : List V) (F H : Hp), Same F H → DrI S F H → Dats K S F xs us → ∀ Q : VK, (∀ a vs ds F' H', Φ ds → Nt H a → F' a = none → H' a = some (.lst vs) → Dats K S F' ds vs → Ag S F H F' H' → Q (.ref a) H') → r us H Q
/-- what a walk gives -/
def ItOk (F1 : Hp) (J : It) (its : List D) : Prop := ∃ Y, Walk J its.length (fun H2 => Same F1 H2) Y ∧ ∀ i H2 x H3 F2, i < its.length → Same F1 F2 → Same F2 H2 → DrI S F2 H2 → Y i H2 x H3 → ∃ d F3, its[i]? = some d ∧ Dat K S F3 d x ∧ Ag S F2 H2 F3 H3
def EvI (wi : TI) (ρ : List Sl) (Φ : List D → Prop) : Prop := ∀ (σ : L2.St) (F H : Hp), EnvOk K S F H σ ρ → Same F H → DrI S F H → ∀ R : It → Hp → Prop, (∀ J its F' H', Φ its → Ag S F H F' H' → ItOk K S F' J its → R J H') → wi σ H R
def TgD (g : TG) (L : Nat → Prop) (d : D) (ρ : List Sl) (Ψ : List Sl → Prop) : Prop := ∀ (v : V) (σ : L2.St) (F H : Hp), EnvOk K S F H σ ρ → Dat K S F d v → Same F H → ∀ N : L2.St → Hp → Prop,
  (∀ σ' ρ', Ψ ρ' → EnvOk K S F H σ' ρ' → (∀ H0, OwnNew H0 σ ρ → OwnNew H0 σ' ρ') → (σ'.length = σ.length ∧ (∀ k : Nat, ¬ L k → σ'[k]? = σ[k]?) ∧ ∀ (k : Nat) (s : Sl), ρ'[k]? = some s → s.held = true → ρ[k]? = some s) → N σ' H) → g v σ H N
def TgsD (g : TGs) (L : Nat → Prop) (ds : List D) (ρ : List Sl) (Ψ : List Sl → Prop) : Prop := ∀ (vs : List V) (σ : L2.St) (F H : Hp), EnvOk K S F H σ ρ → Dats K S F ds vs → Same F H → ∀ N : L2.St → Hp → Prop,
  (∀ σ' ρ', Ψ ρ' → EnvOk K S F H σ' ρ' → (∀ H0, OwnNew H0 σ ρ → OwnNew H0 σ' ρ') → (σ'.length = σ.length ∧ (∀ k : Nat, ¬ L k → σ'[k]? = σ[k]?) ∧ ∀ (k : Nat) (s : Sl), ρ'[k]? = some s → s.held = true → ρ[k]? = some s) → N σ' H) → g vs σ H N
structure Oc where
  nx : List Sl → Prop
  rt : D → Prop
  bk : List Sl → Prop := fun _ => False
  ct : List Sl → Prop := fun _ => False
  ro : List D → Prop := fun _ => False
  rx : D → Gh → Prop := fun _ _ => False
structure Fin (F0 H0 : Hp) (O : Oc) (E : Ends) : Prop where
  nx : ∀ σ ρ F H, O.nx ρ → EnvOk K S F H σ ρ → OwnNew H0 σ ρ → Ag S F0 H0 F H → E.nx σ H
  rt : ∀ v d F H, O.rt d → Dat K S F d v → Ag S F0 H0 F H → E.rt v H
  bk : ∀ σ ρ F H, O.bk ρ → EnvOk K S F H σ ρ → OwnNew H0 σ ρ → Ag S F0 H0 F H → E.bk σ H
  ct : ∀ σ ρ F H, O.ct ρ → EnvOk K S F H σ ρ → OwnNew H0 σ ρ → Ag S F0 H0 F H → E.ct σ H
  ro : ∀ a vs ds F H, O.ro ds → Nt H0 a → F a = none → H a = some (.lst vs) → Dats K S F ds vs → Ag S F0 H0 F H → E.rt (.ref a) H
  rx : ∀ v d γ F H, O.rx d γ → Dat K S F d v → GhOk K S F H γ → (∀ a, a ∈ γ.map Prod.fst → Nt H0 a) → Ag S F0 H0 F H → E.rt v H
def ExD (ts : TS) (ρ : List Sl) (O : Oc) : Prop := ∀ (F0 H0 : Hp) (σ : L2.St) (F H : Hp), EnvOk K S F H σ ρ → OwnNew H0 σ ρ → Ag S F0 H0 F H → DrI S F0 H0 → ∀ E : Ends, Fin K S F0 H0 O E → ts E σ H
end
section
variable {K : PySem.W.Frag} {S : Sx} {ρ : List Sl} {Φ : D → Prop} {Ψ : List D → Prop} {Χ : Bool → Prop} {O : Oc} {ta tb tc te : TE} {tr : TA} {tt tu : TT} {t u : TS} {g : TG} {gs : TGs} {wi : TI} {r : R2} {L : Nat → Prop} {Θ : List Sl → Prop} {i j : Nat} {d x y : D} {ds xs : List D}

/-! ### weakening -/
theorem EvD.imp {Φ' : D → Prop} (h : EvD K S te ρ Φ') (k : ∀ d, Φ' d → Φ d) : EvD K S te ρ Φ := fun σ F H e s dr Q q => h σ F H e s dr Q fun v d F' H' hd => q v d F' H' (k d hd)
theorem EvT.imp {Χ' : Bool → Prop} (h : EvT K S tt ρ Χ') (k : ∀ b, Χ' b → Χ b) : EvT K S tt ρ Χ := fun σ F H e s dr Q q => h σ F H e s dr Q fun v F' H' hd => q v F' H' (k v hd)
theorem EvN.imp {Ψ' : List D → Prop} (h : EvN K S te ρ Ψ') (k : ∀ d, Ψ' d → Ψ d) : EvN K S te ρ Ψ := fun σ F H e s dr Q q => h σ F H e s dr Q fun a vs ds F' H' hd => q a vs ds F' H' (k ds hd)
theorem ev_new (h : EvN K S te ρ fun ds => Φ (.lst ds)) : EvD K S te ρ Φ := fun σ F H e s dr Q q => h σ F H e s dr Q fun a vs ds F' H' hd n nF hl hds g => by
  have g2 := g.frz dr n nF hl (fun s e => (dr.1.ne n s e).1)
  exact q (.ref a) (.lst ds) _ H' hd ⟨a, vs, rfl, upd_same, Dats.mono (fun b u q => upd_new q nF) ds hds⟩ g2

/-! ### expressions -/
theorem ev_var (h : ρ[i]? = some (.val d)) (k : Φ d) : EvD K S (tVar i) ρ Φ := fun σ F H e s dr Q q => by
  obtain ⟨v, h1, h2⟩ := e.val h
  exact ⟨v, h1, q v d F H k h2 (Ag.refl s dr)⟩
def cD : V → D
  | .non => .non | .bl b => .bl b | .int i => .int i | .str s => .str s
  | v => .raw v
theorem cD_ok (F : Hp) (v : V) : Dat K S F (cD v) v := by cases v <;> exact rfl
theorem ev_c {v : V} (k : Φ (cD v)) : EvD K S (tC v) ρ Φ := fun σ F H e s dr Q q => q v _ F H k (cD_ok F v) (Ag.refl s dr)
theorem ev_ci {n : Int} (k : Φ (.int n)) : EvD K S (tC (.int n)) ρ Φ := ev_c k
theorem ev_cs {n : Str} (k : Φ (.str n)) : EvD K S (tC (.str n)) ρ Φ := ev_c k
theorem ev_cb {n : Bool} (k : Φ (.bl n)) : EvD K S (tC (.bl n)) ρ Φ := ev_c k
theorem ev_cn (k : Φ .non) : EvD K S (tC .non) ρ Φ := ev_c k
theorem ev_cr {a : Addr} (k : Φ (.raw (.ref a))) : EvD K S (tC (.ref a)) ρ Φ := ev_c k
theorem ev_ct {a : String} (k : Φ (.raw (.ty a))) : EvD K S (tC (.ty a)) ρ Φ := ev_c k
/-- a thing of the module -/
theorem ev_cK {v : V} (h : ∀ S F, Dat K S F d v) (k : Φ d) : EvD K S (tC v) ρ Φ := fun σ F H e s dr Q q => q v _ F H k (h S F) (Ag.refl s dr)
theorem ev_op (h : EvD K S ta ρ fun x => EvD K S tb ρ fun y => OpD K S r x y Φ) : EvD K S (tOp r ta tb) ρ Φ := fun σ F H e s dr Q q =>
  h σ F H e s dr _ fun u x F1 H1 hx dx g1 => hx σ F1 H1 (e.ag g1) g1.ok g1.dr _ fun w y F2 H2 hy dy g2 => hy u w F2 H2 g2.ok g2.dr (Dat.mono g2.fs x dx) dy Q fun v d F3 H3 hd dd g3 => q v d F3 H3 hd dd ((g1.trans g2 dr).trans g3 dr)
theorem evN_op (h : EvD K S ta ρ fun x => EvD K S tb ρ fun y => OpN K S r x y Ψ) : EvN K S (tOp r ta tb) ρ Ψ := fun σ F H e s dr Q q =>
  h σ F H e s dr _ fun u x F1 H1 hx dx g1 => hx σ F1 H1 (e.ag g1) g1.ok g1.dr _ fun w y F2 H2 hy dy g2 => hy u w F2 H2 g2.ok g2.dr (Dat.mono g2.fs x dx) dy Q fun a vs ds F3 H3 hd n nF hl dd g3 => by
    have g := g1.trans g2 dr
    exact q a vs ds F3 H3 hd (g.backN n) nF hl dd (g.trans g3 dr)
theorem ev_un {f : V → Hp → VK → Prop} (h : EvD K S ta ρ fun x => UnD K S f x Φ) : EvD K S (tUn f ta) ρ Φ := fun σ F H e s dr Q q =>
  h σ F H e s dr _ fun u x F1 H1 hx dx g1 => hx u F1 H1 g1.ok g1.dr dx Q fun v d F2 H2 hd dd g2 => q v d F2 H2 hd dd (g1.trans g2 dr)
theorem ev_nil (k : Ψ []) : EvA K S tNil ρ Ψ := fun σ F H e s dr Q q => q [] [] F H k rfl (Ag.refl s dr)
theorem ev_cons (h : EvD K S te ρ fun x => EvA K S tr ρ fun xs => Ψ (x :: xs)) : EvA K S (tCons te tr) ρ Ψ := fun σ F H e s dr Q q =>
  h σ F H e s dr _ fun u x F1 H1 hx dx g1 => hx σ F1 H1 (e.ag g1) g1.ok g1.dr _ fun ws ys F2 H2 hy dy g2 => q (u :: ws) (x :: ys) F2 H2 hy ⟨u, ws, rfl, Dat.mono g2.fs x dx, dy⟩ (g1.trans g2 dr)
theorem ev_cb1 {f : List V → Hp → VK → Prop} (h : EvA K S tr ρ fun xs => CbD K S f xs Φ) : EvD K S (tCB f tr) ρ Φ := fun σ F H e s dr Q q =>
  h σ F H e s dr _ fun u x F1 H1 hx dx g1 => hx u F1 H1 g1.ok g1.dr dx Q fun v d F2 H2 hd dd g2 => q v d F2 H2 hd dd (g1.trans g2 dr)
theorem evN_cb1 {f : List V → Hp → VK → Prop} (h : EvA K S tr ρ fun xs => CbN K S f xs Ψ) : EvN K S (tCB f tr) ρ Ψ := fun σ F H e s dr Q q =>
  h σ F H e s dr _ fun u x F1 H1 hx dx g1 => hx u F1 H1 g1.ok g1.dr dx Q fun a vs ds F2 H2 hd n nF hl dd g2 => q a vs ds F2 H2 hd (g1.backN n) nF hl dd (g1.trans g2 dr)
def fewD (xs : List D) (A : Prop) : Prop := xs.length < 10000 ∧ A
theorem few_mk {A : Prop} (h : xs.length < 10000) (k : A) : fewD xs A := ⟨h, k⟩
theorem ev_tup (h : EvA K S tr ρ fun xs => fewD xs (Φ (.tup xs))) : EvD K S (tTup tr) ρ Φ := fun σ F H e s dr Q q =>
  h σ F H e s dr _ fun u x F1 H1 hx dx g1 => ⟨by rw [dx.length]; exact Nat.le_trans (Nat.le_of_lt hx.1) (by decide), fun p np => by
    have nF : F1 p = none := g1.ok.free np
    exact q (.ref p) (.tup x) _ _ hx.2 ⟨p, u, rfl, st_of upd_same, Dats.mono (fun b w z => upd_new z nF) x dx⟩ (g1.newF dr np)⟩
theorem evN_lst (h : EvA K S tr ρ fun xs => fewD xs (Ψ xs)) : EvN K S (tLst tr) ρ Ψ := fun σ F H e s dr Q q =>
  h σ F H e s dr _ fun u x F1 H1 hx dx g1 => ⟨by rw [dx.length]; exact Nat.le_trans (Nat.le_of_lt hx.1) (by decide), fun p np =>
    q p u x F1 _ hx.2 (g1.back np) (g1.ok.free np) upd_same dx (g1.newH dr np)⟩
theorem ev_lst (h : EvA K S tr ρ fun xs => fewD xs (Φ (.lst xs))) : EvD K S (tLst tr) ρ Φ := ev_new (evN_lst h)
theorem ev_if (h : EvT K S tt ρ fun b => if b = true then EvD K S ta ρ Φ else EvD K S tb ρ Φ) : EvD K S (tIf tt ta tb) ρ Φ := fun σ F H e s dr Q q =>
  h σ F H e s dr _ fun b F1 H1 hb g1 => by
    cases b with
    | true => exact hb σ F1 H1 (e.ag g1) g1.ok g1.dr Q fun v d F2 H2 hd dd g2 => q v d F2 H2 hd dd (g1.trans g2 dr)
    | false => exact hb σ F1 H1 (e.ag g1) g1.ok g1.dr Q fun v d F2 H2 hd dd g2 => q v d F2 H2 hd dd (g1.trans g2 dr)
def isB (x : D) (Χ : Bool → Prop) : Prop := ∃ b, x = .bl b ∧ Χ b
theorem isB_mk {b : Bool} (h : Χ b) : isB (.bl b) Χ := ⟨b, rfl, h⟩
theorem ev_and (h : EvD K S ta ρ fun x => isB x fun b => if b = true then EvD K S tb ρ Φ else Φ (.bl false)) : EvD K S (tAndV ta tb) ρ Φ := fun σ F H e s dr Q q =>
  h σ F H e s dr _ fun v d F1 H1 ⟨b, eb, hb⟩ dd g1 => by
    subst eb
    refine ⟨b, dd, ?_⟩
    cases b with
    | true => exact hb σ F1 H1 (e.ag g1) g1.ok g1.dr Q fun v d F2 H2 hd dd g2 => q v d F2 H2 hd dd (g1.trans g2 dr)
    | false => exact q _ _ F1 H1 hb rfl g1
theorem ev_or (h : EvD K S ta ρ fun x => isB x fun b => if b = true then Φ (.bl true) else EvD K S tb ρ Φ) : EvD K S (tOrV ta tb) ρ Φ := fun σ F H e s dr Q q =>
  h σ F H e s dr _ fun v d F1 H1 ⟨b, eb, hb⟩ dd g1 => by
    subst eb
    refine ⟨b, dd, ?_⟩
    cases b with
    | false => exact hb σ F1 H1 (e.ag g1) g1.ok g1.dr Q fun v d F2 H2 hd dd g2 => q v d F2 H2 hd dd (g1.trans g2 dr)
    | true => exact q _ _ F1 H1 hb rfl g1
theorem ev_not (h : EvD K S ta ρ fun x => isB x fun b => Φ (.bl (!b))) : EvD K S (tNotV ta) ρ Φ := fun σ F H e s dr Q q =>
  h σ F H e s dr _ fun v d F1 H1 ⟨b, eb, hb⟩ dd g1 => by
    subst eb
    exact ⟨b, dd, q _ _ F1 H1 hb rfl g1⟩
theorem ev_chain {r' : R2} (h : EvD K S ta ρ fun x => EvD K S tb ρ fun y => OpD K S r x y fun z => isB z fun k => if k = true then EvD K S tc ρ fun w => OpD K S r' y w Φ else Φ (.bl false)) : EvD K S (tChain r r' ta tb tc) ρ Φ := fun σ F H e s dr Q q =>
  h σ F H e s dr _ fun u x F1 H1 hx dx g1 => hx σ F1 H1 (e.ag g1) g1.ok g1.dr _ fun w y F2 H2 hy dy g2 => hy u w F2 H2 g2.ok g2.dr (Dat.mono g2.fs x dx) dy _ fun v d F3 H3 ⟨b, eb, hb⟩ dd g3 => by
    subst eb
    have g13 := (g1.trans g2 dr).trans g3 dr
    refine ⟨b, dd, ?_⟩
    cases b with
    | true => exact hb σ F3 H3 (e.ag g13) g3.ok g3.dr _ fun v' z F4 H4 hz dz g4 => hz w v' F4 H4 g4.ok g4.dr (Dat.mono (g3.fs.trans g4.fs) y dy) dz Q fun v5 d5 F5 H5 hd5 dd5 g5 => q v5 d5 F5 H5 hd5 dd5 ((g13.trans g4 dr).trans g5 dr)
    | false => exact q _ _ F3 H3 hb rfl g13

/-! ### tests -/
theorem et_test (h : EvD K S te ρ fun x => isB x Χ) : EvT K S (tTest te) ρ Χ := fun σ F H e s dr Q q =>
  h σ F H e s dr _ fun v d F1 H1 ⟨b, eb, hb⟩ dd g1 => by
    subst eb
    exact ⟨b, dd, q b F1 H1 hb g1⟩
theorem et_B (h : EvD K S te ρ fun x => isB x Χ) : EvT K S (tB te) ρ Χ := et_test h
theorem et_and (h : EvT K S tt ρ fun b => if b = true then EvT K S tu ρ Χ else Χ false) : EvT K S (tAnd tt tu) ρ Χ := fun σ F H e s dr Q q =>
  h σ F H e s dr _ fun b F1 H1 hb g1 => by
    cases b with
    | true => exact hb σ F1 H1 (e.ag g1) g1.ok g1.dr Q fun v F2 H2 hd g2 => q v F2 H2 hd (g1.trans g2 dr)
    | false => exact q _ F1 H1 hb g1
theorem et_or (h : EvT K S tt ρ fun b => if b = true then Χ true else EvT K S tu ρ Χ) : EvT K S (tOr tt tu) ρ Χ := fun σ F H e s dr Q q =>
  h σ F H e s dr _ fun b F1 H1 hb g1 => by
    cases b with
    | false => exact hb σ F1 H1 (e.ag g1) g1.ok g1.dr Q fun v F2 H2 hd g2 => q v F2 H2 hd (g1.trans g2 dr)
    | true => exact q _ F1 H1 hb g1
theorem et_not (h : EvT K S tt ρ fun b => Χ (!b)) : EvT K S (tNot tt) ρ Χ := fun σ F H e s dr Q q =>
  h σ F H e s dr _ fun b F1 H1 hb g1 => q _ F1 H1 hb g1
theorem et_yes (k : Χ true) : EvT K S tYes ρ Χ := fun σ F H e s dr Q q => q true F H k (Ag.refl s dr)

/-! ### borrowing -/
def Sl.fz : Sl → Sl
  | .own ds => .val (.lst ds)
  | .slf _ _ C ns ds => .val (.ins C ns ds)
  | .bor ds => .val (.lst ds)
  | .obj _ d _ => .val d
  | s => s
def frzE (ρ : List Sl) : List Sl := ρ.map Sl.fz
theorem fz_mine {s : Sl} (h : s.fz.mine = true) : False := by cases s <;> cases h
/-- no error is waited for -/
def Sx.nw (S : Sx) : Sx := { S with W := fun _ _ => True }
mutual
theorem Dat.cast {S' : Sx} {F : Hp} (h : S.ds = S'.ds) : ∀ (d : D) {v : V}, Dat K S F d v → Dat K S' F d v
  | .non, _, q => q
  | .bl _, _, q => q
  | .int _, _, q => q
  | .str _, _, q => q
  | .raw _, _, q => q
  | .any, _, q => q
  | .drw, _, ⟨s, e, q⟩ => ⟨s, h ▸ e, q⟩
  | .tup ds, _, ⟨a, vs, e, h1, h2⟩ => ⟨a, vs, e, h1, Dats.cast h ds h2⟩
  | .lst ds, _, ⟨a, vs, e, h1, h2⟩ => ⟨a, vs, e, h1, Dats.cast h ds h2⟩
  | .ins _ _ ds, _, ⟨a, dx, gs, e, h1, h2, h3⟩ => ⟨a, dx, gs, e, h1, h2, Dats.cast h ds h3⟩
  | .dk _ ds, _, ⟨a, kvs, e, h1, h2, h3⟩ => ⟨a, kvs, e, h1, h2, Dats.cast h ds h3⟩
  | .pin _ d, _, ⟨e, q⟩ => ⟨e, Dat.cast h d q⟩
theorem Dats.cast {S' : Sx} {F : Hp} (h : S.ds = S'.ds) : ∀ (ds : List D) {vs : List V}, Dats K S F ds vs → Dats K S' F ds vs
  | [], _, q => q
  | d :: ds, _, ⟨v, us, e, h1, h2⟩ => ⟨v, us, e, Dat.cast h d h1, Dats.cast h ds h2⟩
end
theorem Prv.cast {S' : Sx} {F : Hp} {a : Addr} (h : S.ds = S'.ds) (p : Prv S F a) : Prv S' F a := ⟨p.1, fun s e => p.2 s (h ▸ e)⟩
theorem ClOk.cast {S' : Sx} {F : Hp} {c : Cl} {o : HO} (h : S.ds = S'.ds) (q : ClOk K S F c o) : ClOk K S' F c o := by
  cases c with
  | l ds => obtain ⟨vs, e, q⟩ := q; exact ⟨vs, e, Dats.cast h ds q⟩
  | i C ns ds => obtain ⟨dx, gs, e, h1, q⟩ := q; exact ⟨dx, gs, e, h1, Dats.cast h ds q⟩
  | k ks ds => obtain ⟨kvs, e, h1, q⟩ := q; exact ⟨kvs, e, h1, Dats.cast h ds q⟩
theorem GhOk.cast {S' : Sx} {F H : Hp} {γ : Gh} (h : S.ds = S'.ds) (q : GhOk K S F H γ) : GhOk K S' F H γ := ⟨q.nd, fun a c hm => by
  obtain ⟨p, o, e, r⟩ := q.ok a c hm
  exact ⟨p.cast h, o, e, r.cast h⟩⟩
theorem SlOk.cast {S' : Sx} {F H : Hp} {x : Option V} {s : Sl} (h : S.ds = S'.ds) (q : SlOk K S F H x s) : SlOk K S' F H x s := by
  cases s with
  | un => exact trivial
  | val d => obtain ⟨v, e, q⟩ := q; exact ⟨v, e, Dat.cast h d q⟩
  | own ds => obtain ⟨a, vs, e, p, h1, h2⟩ := q; exact ⟨a, vs, e, p.cast h, h1, Dats.cast h ds h2⟩
  | slf a dx C ns ds => obtain ⟨gs, e, p, h1, h2, h3⟩ := q; exact ⟨gs, e, p.cast h, h1, h2, Dats.cast h ds h3⟩
  | bor ds => obtain ⟨a, vs, e, p, h1, h2⟩ := q; exact ⟨a, vs, e, p.cast h, h1, Dats.cast h ds h2⟩
  | obj m d γ => obtain ⟨v, e, h1, h2⟩ := q; exact ⟨v, e, Dat.cast h d h1, h2.cast h⟩
theorem EnvOk.cast {S' : Sx} {F H : Hp} {σ : L2.St} (h : S.ds = S'.ds) (e : EnvOk K S F H σ ρ) : EnvOk K S' F H σ ρ := ⟨e.len, fun i x s h1 h2 => (e.ok i x s h1 h2).cast h, e.sep⟩
open Classical in
theorem borrow {F H : Hp} {σ : L2.St} (e : EnvOk K S F H σ ρ) (s : Same F H) (dr : DrI S F H) : ∃ F1, Same F F1 ∧ Same F1 H ∧ DrI S.nw F1 H ∧ EnvOk K S.nw F1 H σ (frzE ρ) ∧ ∀ b, (∃ (i : Nat) (t : Sl) (x : Option V), ρ[i]? = some t ∧ σ[i]? = some x ∧ t.loc x b) → F1 b = H b := by
  let W : Addr → Prop := fun b => ∃ (i : Nat) (t : Sl) (x : Option V), ρ[i]? = some t ∧ σ[i]? = some x ∧ t.loc x b
  have hW : ∀ b, W b → F b = none ∧ (∀ z, S.ds = some z → b ≠ z.st ∧ b ≠ z.c) ∧ ∀ o, H b = some o → NoT o := by
    rintro b ⟨i, t, x, h1, h2, l⟩
    have ok := e.ok i _ t h2 h1
    cases t with
    | un => exact l.elim
    | val d => exact l.elim
    | own ds => obtain ⟨a, vs, e1, p, h3, _⟩ := ok; subst e1; cases l; exact ⟨p.1, p.2, fun o q => by rw [h3] at q; cases q; exact noT_l⟩
    | slf a dx C ns ds => obtain ⟨gs, e1, p, h3, _⟩ := ok; subst e1; cases l; exact ⟨p.1, p.2, fun o q => by rw [h3] at q; cases q; exact noT_i⟩
    | bor ds => obtain ⟨a, vs, e1, p, h3, _⟩ := ok; subst e1; cases l; exact ⟨p.1, p.2, fun o q => by rw [h3] at q; cases q; exact noT_l⟩
    | obj m d γ =>
      obtain ⟨v, e1, _, h3⟩ := ok
      obtain ⟨⟨c, k⟩, hm, rfl⟩ := List.mem_map.mp l
      obtain ⟨p, o, h4, h5⟩ := h3.ok c k hm
      exact ⟨p.1, p.2, fun u q => by rw [h4] at q; cases q; exact h5.no⟩
  let F1 : Hp := fun b => if W b then H b else F b
  have s1 : Same F F1 := fun b o q => by
    show (if W b then H b else F b) = some o
    by_cases w : W b
    · rw [(hW b w).1] at q; cases q
    · rw [if_neg w]; exact q
  have s2 : Same F1 H := fun b o q => by
    have q' : (if W b then H b else F b) = some o := q
    by_cases w : W b
    · rw [if_pos w] at q'; exact q'
    · rw [if_neg w] at q'; exact s _ _ q'
  refine ⟨F1, s1, s2, ⟨⟨fun z ez => ⟨(dr.1.1 z ez).1, ?_⟩, dr.1.2.1, fun b o q => ?_⟩, fun _ _ _ => trivial⟩, EnvOk.cast (S := S) rfl ⟨by rw [frzE, List.length_map]; exact e.len, fun i x t h1 h2 => ?_, fun i j t t' _ _ a n h1 h2 m1 => ?_⟩, fun b w => if_pos w⟩
  · show (if W z.st then H z.st else F z.st) = none
    by_cases w : W z.st
    · exact absurd rfl ((hW _ w).2.1 z ez).1
    · rw [if_neg w]; exact (dr.1.1 z ez).2
  · have q' : (if W b then H b else F b) = some o := q
    by_cases w : W b
    · exact (hW b w).2.2 o (s2 _ _ q)
    · rw [if_neg w] at q'; exact dr.1.2.2 b o q'
  · rw [frzE, List.getElem?_map] at h2
    cases q : ρ[i]? with
    | none => rw [q] at h2; cases h2
    | some t0 =>
      rw [q] at h2
      cases h2
      have ok := e.ok i x t0 h1 q
      cases t0 with
      | un => exact trivial
      | val d =>
        obtain ⟨v, e1, e2⟩ := ok
        exact ⟨v, e1, Dat.mono s1 d e2⟩
      | own ds =>
        obtain ⟨a, vs, e1, _, h3, h4⟩ := ok
        subst e1
        exact ⟨_, rfl, a, vs, rfl, (if_pos ⟨i, _, _, q, h1, rfl⟩ : F1 a = H a).trans h3, Dats.mono s1 ds h4⟩
      | slf a dx C ns ds =>
        obtain ⟨gs, e1, _, h3, h4, h5⟩ := ok
        subst e1
        exact ⟨_, rfl, a, dx, gs, rfl, (if_pos ⟨i, _, _, q, h1, rfl⟩ : F1 a = H a).trans h3, h4, Dats.mono s1 ds h5⟩
      | bor ds =>
        obtain ⟨a, vs, e1, _, h3, h4⟩ := ok
        subst e1
        exact ⟨_, rfl, a, vs, rfl, (if_pos ⟨i, _, _, q, h1, rfl⟩ : F1 a = H a).trans h3, Dats.mono s1 ds h4⟩
      | obj m d γ =>
        obtain ⟨v, e1, h3, _⟩ := ok
        exact ⟨v, e1, Dat.mono s1 d h3⟩
  · rw [frzE, List.getElem?_map] at h1
    cases q : ρ[i]? with
    | none => rw [q] at h1; cases h1
    | some t0 => rw [q] at h1; cases h1; exact (fz_mine m1).elim
theorem Ag.unborrow {F F1 H F' H' : Hp} (s1 : Same F F1) (s : Same F H) (dr : DrI S F H) (g : Ag S.nw F1 H F' H') : Ag S F H F H' :=
  Ag0.up ⟨Same.refl F, (s1.trans g.fs).trans g.ok, g.ch, fun _ e => .inl e, ⟨fun z ez => ⟨(g.st.1 z ez).1, (dr.1.1 z ez).2⟩, g.st.2.1, dr.1.2.2⟩⟩ dr
theorem ev_bor (h : EvD K S.nw te (frzE ρ) fun d => d.flat = true ∧ Φ d) : EvD K S te ρ Φ := fun σ F H e s dr Q q => by
  obtain ⟨F1, s1, s2, d1, e1, _⟩ := borrow e s dr
  exact h σ F1 H e1 s2 d1 Q fun v d F' H' hd dd g => q v d F H' hd.2 ((Dat.cast (S := S.nw) (S' := S) rfl d dd).flat hd.1) (g.unborrow s1 s dr)
theorem et_bor (h : EvT K S.nw tt (frzE ρ) Χ) : EvT K S tt ρ Χ := fun σ F H e s dr Q q => by
  obtain ⟨F1, s1, s2, d1, e1, _⟩ := borrow e s dr
  exact h σ F1 H e1 s2 d1 Q fun b F' H' hb g => q b F H' hb (g.unborrow s1 s dr)
/-! ### targets -/
theorem tg_name (hi : L i) (k : Θ (ρ.set i (.val d))) : TgD K S (gName i) L d ρ Θ := fun v σ F H e dd s N q =>
  q _ _ k (e.set dd) (fun H0 o => o.set) ⟨List.length_set, fun j n => List.getElem?_set_ne (fun z : i = j => n (z ▸ hi)), fun k s h1 h2 => by
    by_cases q : i = k
    · subst q
      have hl : i < ρ.length := by have := (List.getElem?_eq_some_iff.mp h1).1; rw [List.length_set] at this; exact this
      rw [List.getElem?_set_self hl] at h1
      cases h1; cases h2
    · rw [List.getElem?_set_ne q] at h1; exact h1⟩
theorem tg_tup {n : Nat} (hl : ds.length = n) (h : TgsD K S gs L ds ρ Θ) : TgD K S (gTup K n gs) L (.tup ds) ρ Θ := fun v σ F H e dd s N q => by
  obtain ⟨a, vs, rfl, h1, h2⟩ := dd
  exact ⟨a, vs, rfl, st_sm s h1, h2.length.trans hl, h vs σ F H e h2 s N q⟩
theorem tg_unl {n : Nat} (hl : ds.length = n) (h : TgsD K S gs L ds ρ Θ) : TgD K S (gUnl K n gs) L (.lst ds) ρ Θ := fun v σ F H e dd s N q => by
  obtain ⟨a, vs, rfl, h1, h2⟩ := dd
  exact ⟨a, vs, rfl, sl_of (s _ _ h1), h2.length.trans hl, h vs σ F H e h2 s N q⟩
theorem tg_nil (k : Θ ρ) : TgsD K S gNil L [] ρ Θ := fun v σ F H e dd s N q => ⟨dd, q _ _ k e (fun _ o => o) ⟨rfl, fun _ _ => rfl, fun _ _ h _ => h⟩⟩
theorem tg_cons (h : TgD K S g L d ρ fun ρ' => TgsD K S gs L ds ρ' Θ) : TgsD K S (gCons g gs) L (d :: ds) ρ Θ := fun vs σ F H e dd s N q => by
  obtain ⟨v, us, rfl, h1, h2⟩ := dd
  refine ⟨v, us, rfl, h v σ F H e h1 s _ fun σ' ρ' hρ e' o' k' => hρ us σ' F H e' h2 s N fun σ2 ρ2 hρ2 e2 o2 k2 => q σ2 ρ2 hρ2 e2 (fun H0 o => o2 H0 (o' H0 o)) ⟨k2.1.trans k'.1, fun k n => (k2.2.1 k n).trans (k'.2.1 k n), fun k s h1 h2 => k'.2.2 k s (k2.2.2 k s h1 h2) h2⟩⟩

/-! ### statements -/
theorem ex_seq (h : ExD K S t ρ { O with nx := fun ρ' => ExD K S u ρ' O }) : ExD K S (tSeq t u) ρ O := fun F0 H0 σ F H e o a d0 E f =>
  h F0 H0 σ F H e o a d0 _ ⟨fun σ' ρ' F' H' hu e' o' a' => hu F0 H0 σ' F' H' e' o' a' d0 E f, f.rt, f.bk, f.ct, f.ro, f.rx⟩
theorem ex_mid (h : ∃ M : List Sl → Prop, ExD K S t ρ { O with nx := M } ∧ ∀ ρ', M ρ' → ExD K S u ρ' O) : ExD K S (tMid t u) ρ O := fun F0 H0 σ F H e o a d0 E f => by
  obtain ⟨M, h1, h2⟩ := h
  exact ⟨fun σ' H' => ∃ ρ' F', M ρ' ∧ EnvOk K S F' H' σ' ρ' ∧ OwnNew H0 σ' ρ' ∧ Ag S F0 H0 F' H', h1 F0 H0 σ F H e o a d0 _ ⟨fun σ' ρ' F' H' hm e' o' a' => ⟨ρ', F', hm, e', o', a'⟩, f.rt, f.bk, f.ct, f.ro, f.rx⟩, fun σ' H' ⟨ρ', F', hm, e', o', a'⟩ => h2 ρ' hm F0 H0 σ' F' H' e' o' a' d0 E f⟩
theorem ex_asg (h : EvD K S te ρ fun d => TgD K S g (fun _ => True) d ρ O.nx) : ExD K S (tAsg te g) ρ O := fun F0 H0 σ F H e o a d0 E f =>
  h σ F H e a.ok a.dr _ fun v d F1 H1 hd dd g1 => hd v σ F1 H1 (e.ag g1) dd g1.ok _ fun σ' ρ' hρ e' o' _ => f.nx σ' ρ' F1 H1 hρ e' (o' H0 o) (a.trans g1 d0)
theorem ex_set (h : EvD K S te ρ fun d => O.nx (ρ.set i (.val d))) : ExD K S (tAsg te (gName i)) ρ O := ex_asg (h.imp fun d k => tg_name trivial k)
theorem ex_new (hi : i < ρ.length) (h : EvN K S te ρ fun ds => O.nx (ρ.set i (.own ds))) : ExD K S (tAsg te (gName i)) ρ O := fun F0 H0 σ F H e o a d0 E f =>
  h σ F H e a.ok a.dr _ fun p vs ds F1 H1 hd n nF hl dd g1 => by
    refine f.nx _ _ F1 H1 hd (EnvOk.new (e.ag g1) (by rw [e.len]; exact hi) (fun j s q m => e.fresh n j s q m) ⟨p, vs, rfl, ⟨nF, a.dr.1.ne n⟩, hl, dd⟩) (o.new (a.backN n)) (a.trans g1 d0)
/-- x = a new list, which is changed later on -/
def tAsgO (te : TE) (g : TG) : TS := tAsg te g
theorem ps_own {X : Cx} {st : Stmt} {te : TE} {g : TG} (h : PS X st (tAsg te g)) : PS X st (tAsgO te g) := h
theorem ex_newO (hi : i < ρ.length) (h : EvN K S te ρ fun ds => O.nx (ρ.set i (.own ds))) : ExD K S (tAsgO te (gName i)) ρ O := ex_new hi h
theorem ex_drop (h : EvD K S te ρ fun _ => O.nx ρ) : ExD K S (tDrop te) ρ O := fun F0 H0 σ F H e o a d0 E f =>
  h σ F H e a.ok a.dr _ fun v d F1 H1 hd dd g1 => f.nx σ ρ F1 H1 hd (e.ag g1) o (a.trans g1 d0)
theorem ex_ret (h : EvD K S te ρ O.rt) : ExD K S (tRet te) ρ O := fun F0 H0 σ F H e o a d0 E f =>
  h σ F H e a.ok a.dr _ fun v d F1 H1 hd dd g1 => f.rt v d F1 H1 hd dd (a.trans g1 d0)
theorem ex_retN (h : O.rt .non) : ExD K S tRetN ρ O := fun F0 H0 σ F H e o a d0 E f => f.rt .non .non F H h rfl a
theorem ex_retO (h : ρ[i]? = some (.own ds)) (k : O.rt (.lst ds)) : ExD K S (tRet (tVar i)) ρ O := fun F0 H0 σ F H e o a d0 E f => by
  obtain ⟨p, vs, h1, ⟨nF, ns⟩, h2, h3⟩ := e.own h
  exact ⟨.ref p, h1, f.rt (.ref p) (.lst ds) _ H k ⟨p, vs, rfl, upd_same, Dats.mono (fun b u q => upd_new q nF) ds h3⟩ (a.frz d0 (o i _ _ p h rfl h1 rfl) nF h2 fun s e => (ns s e).1)⟩
/-- return x, x one's own list that stays one's own -/
theorem ex_retOwn (h : ρ[i]? = some (.own ds)) (k : O.ro ds) : ExD K S (tRet (tVar i)) ρ O := fun F0 H0 σ F H e o a d0 E f => by
  obtain ⟨p, vs, h1, ⟨nF, ns⟩, h2, h3⟩ := e.own h
  exact ⟨.ref p, h1, f.ro p vs ds F H k (o i _ _ p h rfl h1 rfl) nF h2 h3 a⟩
/-- return a new list -/
theorem ex_retNew (h : EvN K S te ρ O.ro) : ExD K S (tRet te) ρ O := fun F0 H0 σ F H e o a d0 E f =>
  h σ F H e a.ok a.dr _ fun p vs ds F1 H1 hd n nF hl dd g1 => f.ro p vs ds F1 H1 hd (a.backN n) nF hl dd (a.trans g1 d0)
theorem ex_frz (i : Nat) (h : ρ[i]? = some (.own ds)) (k : ExD K S t (ρ.set i (.val (.lst ds))) O) : ExD K S t ρ O := fun F0 H0 σ F H e o a d0 E f => by
  obtain ⟨p, vs, h1, ⟨nF, ns⟩, h2, h3⟩ := e.own h
  refine k F0 H0 σ _ H (e.frz h1 h rfl nF (d := .lst ds) ⟨_, rfl, p, vs, rfl, upd_same, Dats.mono (fun b u q => upd_new q nF) ds h3⟩) (o.mut h rfl fun _ _ z => z.elim) (a.frz d0 (o i _ _ p h rfl h1 rfl) nF h2 fun s e => (ns s e).1) d0 E f
theorem ex_next (h : O.nx ρ) : ExD K S tNext ρ O := fun F0 H0 σ F H e o a d0 E f => f.nx σ ρ F H h e o a
theorem ex_break (h : O.bk ρ) : ExD K S tBreak ρ O := fun F0 H0 σ F H e o a d0 E f => f.bk σ ρ F H h e o a
theorem ex_cont (h : O.ct ρ) : ExD K S tCont ρ O := fun F0 H0 σ F H e o a d0 E f => f.ct σ ρ F H h e o a
theorem ex_if (h : EvT K S tt ρ fun b => if b = true then ExD K S t ρ O else ExD K S u ρ O) : ExD K S (tIfS tt t u) ρ O := fun F0 H0 σ F H e o a d0 E f =>
  h σ F H e a.ok a.dr _ fun b F1 H1 hb g1 => by
    cases b with
    | true => exact hb F0 H0 σ F1 H1 (e.ag g1) o (a.trans g1 d0) d0 E f
    | false => exact hb F0 H0 σ F1 H1 (e.ag g1) o (a.trans g1 d0) d0 E f
theorem ex_par (hij : i ≠ j) (h : EvA K S tr ρ fun xs => ∃ x y, xs = [x, y] ∧ O.nx ((ρ.set i (.val x)).set j (.val y))) : ExD K S (tPar i j tr) ρ O := fun F0 H0 σ F H e o a d0 E f =>
  h σ F H e a.ok a.dr _ fun vs xs F1 H1 ⟨x, y, ex, hx⟩ dx g1 => by
    subst ex
    obtain ⟨v, us, rfl, h1, h2⟩ := dx
    obtain ⟨w, us', rfl, h3, h4⟩ := h2
    cases h4
    exact ⟨v, w, rfl, f.nx _ _ F1 H1 hx (((e.ag g1).set h1).set h3) (o.set.set) (a.trans g1 d0)⟩
theorem ex_aug {tip : TIp} (h0 : ρ[i]? = some (.val x)) (h : EvD K S te ρ fun y => OpD K S tip x y fun z => O.nx (ρ.set i (.val z))) : ExD K S (tAug i te tip) ρ O := fun F0 H0 σ F H e o a d0 E f => by
  obtain ⟨v, h1, h2⟩ := e.val h0
  refine ⟨v, h1, h σ F H e a.ok a.dr _ fun w y F1 H1 hy dy g1 => hy v w F1 H1 g1.ok g1.dr (Dat.mono g1.fs x h2) dy _ fun u z F2 H2 hz dz g2 => ?_⟩
  have g := g1.trans g2 a.dr
  exact f.nx _ _ F2 H2 hz ((e.ag g).set dz) o.set (a.trans g d0)
/-- x.append(e), x one's own list -/
theorem ex_app (h0 : ρ[i]? = some (.own ds)) (hl : ds.length < 100000) (h : EvD K S te ρ fun d => O.nx (ρ.set i (.own (ds ++ [d])))) : ExD K S (tDrop (tBM K "list" rAppend (tVar i) (tCons te tNil))) ρ O := fun F0 H0 σ F H e o a d0 E f => by
  obtain ⟨p, vs, h1, ⟨nF, ns⟩, h2, h3⟩ := e.own h0
  refine ⟨.ref p, h1, .inl ⟨rfl, vs, sl_of h2⟩, h σ F H e a.ok a.dr _ fun w y F1 H1 hy dy g1 => ?_⟩
  obtain ⟨p', vs', h1', ⟨nF', ns'⟩, h2', h3'⟩ := (e.ag g1).own h0
  rw [h1] at h1'
  cases h1'
  have hl' : vs'.length < sizeLine := by rw [h3'.length]; exact Nat.lt_of_lt_of_le hl (by decide)
  refine ⟨p, vs', w, rfl, rfl, h2', hl', ?_⟩
  exact f.nx σ _ F1 _ hy ((e.ag g1).mut h1 h0 rfl ⟨p, _, rfl, ⟨nF', ns'⟩, upd_same, h3'.app (Dats.one dy)⟩) (o.mut h0 rfl) ((a.trans g1 d0).mut d0 (by rw [h2']; trivial) (o i _ _ p h0 rfl h1 rfl) nF' ns')
/-- self.f = e -/
def putD (f : Str) (d : D) : List Str → List D → List Str × List D
  | n :: ns, x :: xs => if n = f then (n :: ns, d :: xs) else let q := putD f d ns xs; (n :: q.1, x :: q.2)
  | _, _ => ([f], [d])
theorem putD_ok {F : Hp} {f : Str} {d : D} {v : V} (hd : Dat K S F d v) : ∀ (gs : List (Str × V)) (ns : List Str) (ds : List D), gs.map Prod.fst = ns → Dats K S F ds (gs.map Prod.snd) → (putF f v gs).map Prod.fst = (putD f d ns ds).1 ∧ Dats K S F (putD f d ns ds).2 ((putF f v gs).map Prod.snd)
  | [], ns, ds, h1, h2 => by
    subst h1
    have e := h2.length
    cases ds with
    | nil => exact ⟨rfl, Dats.one hd⟩
    | cons _ _ => cases e
  | (n, w) :: gs, ns, ds, h1, h2 => by
    subst h1
    cases ds with
    | nil => have := h2.length; cases this
    | cons x xs =>
      obtain ⟨v', us, e, h3, h4⟩ := h2
      cases e
      show (if n = f then (n, v) :: gs else (n, w) :: putF f v gs).map Prod.fst = (if n = f then (n :: gs.map Prod.fst, d :: xs) else _).1 ∧ Dats K S F (if n = f then (n :: gs.map Prod.fst, d :: xs) else _).2 ((if n = f then (n, v) :: gs else (n, w) :: putF f v gs).map Prod.snd)
      by_cases q : n = f
      · rw [if_pos q, if_pos q]
        exact ⟨rfl, v, _, rfl, hd, h4⟩
      · rw [if_neg q, if_neg q]
        obtain ⟨k1, k2⟩ := putD_ok hd gs _ xs rfl h4
        refine ⟨by rw [List.map_cons, k1], w, _, rfl, h3, k2⟩
theorem ex_fld {f : Str} {p dx C : Addr} {ns : List Str} (h0 : ρ[i]? = some (.slf p dx C ns ds)) (hc : Cls K C) (hn : NoAttr K C f) (hl : ns.length < 1000) (h : EvD K S te ρ fun d => O.nx (ρ.set i (.slf p dx C (putD f d ns ds).1 (putD f d ns ds).2))) : ExD K S (sFld K (tVar i) te f) ρ O := fun F0 H0 σ F H e o a d0 E fi => by
  refine h σ F H e a.ok a.dr _ fun w y F1 H1 hy dy g1 => ?_
  obtain ⟨gs, h1, ⟨nF, ns'⟩, h2, h3, h4⟩ := (e.ag g1).slf h0
  refine ⟨.ref p, h1, p, C, dx, gs, rfl, h2, hc, hn, by rw [← h3, List.length_map] at hl; exact hl, ?_⟩
  obtain ⟨k1, k2⟩ := putD_ok (f := f) dy gs ns ds h3 h4
  exact fi.nx σ _ F1 _ hy ((e.ag g1).mut h1 h0 rfl ⟨_, rfl, ⟨nF, ns'⟩, upd_same, k1, k2⟩) (o.mut h0 rfl) ((a.trans g1 d0).mut d0 (by rw [h2]; trivial) (o i _ _ p h0 rfl h1 rfl) nF ns')
/-! ### loops -/
theorem Ag0.unbase {F0 H0 F1 F2 H2 : Hp} (s01 : Same F0 F1) (nw : ∀ b, F1 b ≠ none → F0 b ≠ none ∨ Nt H0 b) (a : Ag0 S F1 H0 F2 H2) : Ag0 S F0 H0 F2 H2 := by
  refine ⟨s01.trans a.fs, a.ok, a.ch, fun b hb => ?_, a.st⟩
  rcases a.nw b hb with q | q
  · exact nw b q
  · exact .inr q
theorem Ag.rebase {F0 H0 F1 F2 H2 : Hp} (a : Ag S F0 H0 F2 H2) (s0 : Same F0 F1) (s : Same F1 F2) : Ag S F1 H0 F2 H2 := by
  refine ⟨⟨s, a.ok, a.ch, fun b h => ?_, a.st⟩, a.dr⟩
  rcases a.nw b h with q | q
  · refine .inl fun z => q (s0.free z)
  · exact .inr q
theorem ex_for (h : EvI K S wi ρ fun its => ∃ I : Nat → List Sl → Prop, I 0 ρ ∧ (∀ i d ρ', its[i]? = some d → I i ρ' → TgD K S g (fun _ => True) d ρ' fun ρ2 => ExD K S t ρ2 { nx := I (i + 1), ct := I (i + 1), bk := O.nx, rt := O.rt, ro := O.ro, rx := O.rx }) ∧ ∀ ρ', I its.length ρ' → O.nx ρ') : ExD K S (tFor wi g t) ρ O := fun F0 H0 σ F H e o a d0 E f => by
  refine h σ F H e a.ok a.dr _ fun J its F1 H1 ⟨I, i0, is, ie⟩ g1 ⟨Y, w, hY⟩ => ?_
  have s01 : Same F0 F1 := a.fs.trans g1.fs
  have d1 : DrI S F1 H0 := ⟨⟨fun s e => ⟨(d0.1.1 s e).1, (g1.st.1 s e).2⟩, d0.1.2.1, g1.st.2.2⟩, fun F' H' a' => d0.2 F' H' (a'.unbase s01 (a.trans g1 d0).nw)⟩
  have back : ∀ F' H', Ag S F1 H0 F' H' → Ag S F0 H0 F' H' := fun F' H' a' => ⟨a'.toAg0.unbase s01 (a.trans g1 d0).nw, a'.dr⟩
  refine for_it w (fun i σ' H' => ∃ ρ' F', I i ρ' ∧ EnvOk K S F' H' σ' ρ' ∧ OwnNew H0 σ' ρ' ∧ Ag S F1 H0 F' H') ⟨ρ, F1, i0, e.ag g1, o, (a.trans g1 d0).rebase s01 (Same.refl _)⟩ ?_ ?_ ?_
  · rintro i σ' H' _ ⟨ρ', F', _, _, _, a'⟩
    exact a'.fs.trans a'.ok
  · rintro i x σ' H2 H3 hi ⟨ρ', F2, hI, e2, o2, a2⟩ y
    obtain ⟨d, F3, hd, dd, g3⟩ := hY i H2 x H3 F2 hi a2.fs a2.ok a2.dr y
    refine is i d ρ' hd hI x σ' F3 H3 (e2.ag g3) dd g3.ok _ fun σ4 ρ4 hx e4 o4 _ => ?_
    exact hx F1 H0 σ4 F3 H3 e4 (o4 H0 o2) (a2.trans g3 d1) d1 _ ⟨fun σ5 ρ5 F5 H5 h5 e5 o5 a5 => ⟨ρ5, F5, h5, e5, o5, a5⟩, fun v d F5 H5 h5 dd5 a5 => f.rt v d F5 H5 h5 dd5 (back _ _ a5), fun σ5 ρ5 F5 H5 h5 e5 o5 a5 => f.nx σ5 ρ5 F5 H5 h5 e5 o5 (back _ _ a5), fun σ5 ρ5 F5 H5 h5 e5 o5 a5 => ⟨ρ5, F5, h5, e5, o5, a5⟩, fun a5 vs5 ds5 F5 H5 h5 n5 nF5 l5 d5 g5 => f.ro a5 vs5 ds5 F5 H5 h5 n5 nF5 l5 d5 (back _ _ g5), fun v5 d5 γ5 F5 H5 h5 dd5 gh5 n5 g5 => f.rx v5 d5 γ5 F5 H5 h5 dd5 gh5 n5 (back _ _ g5)⟩
  · rintro σ' H' ⟨ρ', F', hI, e', o', a'⟩
    exact f.nx σ' ρ' F' H' (ie ρ' hI) e' o' (back _ _ a')
/-! ### comprehensions -/
def wipeS (ρ : List Sl) : List Nat → List Sl
  | [] => ρ
  | v :: vs => (wipeS ρ vs).set v .un
theorem EnvOk.setUn {F H : Hp} {σ : L2.St} (e : EnvOk K S F H σ ρ) : EnvOk K S F H (σ.set i none) (ρ.set i .un) := by
  refine EnvOk.put (x₀ := none) (by rw [List.length_set, e.len]) (fun j n x t h1 h2 => ?_) (fun hl => List.getElem?_set_self (by rw [e.len]; exact hl)) trivial (fun _ _ _ _ _ _ _ _ z => z.elim) (fun j k t t' x x' b n1 n2 n3 h1 h2 m1 h3 h4 => ?_)
  · rw [List.getElem?_set_ne (Ne.symm n)] at h1
    exact e.ok j x t h1 h2
  · rw [List.getElem?_set_ne (Ne.symm n1)] at h3
    rw [List.getElem?_set_ne (Ne.symm n2)] at h4
    exact e.sep j k t t' x x' b n3 h1 h2 m1 h3 h4
theorem EnvOk.wipe {F H : Hp} {σ : L2.St} (e : EnvOk K S F H σ ρ) : ∀ vs : List Nat, EnvOk K S F H (wipe σ vs) (wipeS ρ vs)
  | [] => e
  | v :: vs => (EnvOk.wipe e vs).setUn
theorem wipe_in {σ : L2.St} {k : Nat} : ∀ {vs : List Nat}, k ∈ vs → (wipe σ vs)[k]? = if k < σ.length then some none else none
  | v :: vs, h => by
    show ((wipe σ vs).set v none)[k]? = _
    rw [List.getElem?_set]
    by_cases q : v = k
    · subst q
      rw [if_pos rfl, wipe_length]
    · rw [if_neg q]
      rcases List.mem_cons.mp h with z | z
      · exact absurd z.symm q
      · exact wipe_in z
theorem wipe_out {σ : L2.St} {k : Nat} : ∀ {vs : List Nat}, k ∉ vs → (wipe σ vs)[k]? = σ[k]?
  | [], _ => rfl
  | v :: vs, h => by
    show ((wipe σ vs).set v none)[k]? = _
    rw [List.getElem?_set_ne (fun z => h (by rw [z]; exact List.mem_cons_self))]
    exact wipe_out fun z => h (List.mem_cons_of_mem _ z)
theorem wipe_same {σ σ' : L2.St} {vs : List Nat} (hl : σ'.length = σ.length) (h : ∀ k : Nat, ¬ k ∈ vs → σ'[k]? = (wipe σ vs)[k]?) : wipe σ' vs = wipe σ vs := by
  apply List.ext_getElem?
  intro k
  by_cases q : k ∈ vs
  · rw [wipe_in q, wipe_in q, hl]
  · rw [wipe_out q, h k q]
theorem evN_lc {vs : List Nat} (h : EvI K S wi ρ fun its => ∃ I : Nat → List D → Prop, I 0 [] ∧ (∀ i d acc, its[i]? = some d → I i acc → acc.length < 100000 ∧ TgD K S g (· ∈ vs) d (wipeS ρ vs) fun ρ2 => EvT K S tt ρ2 fun b => if b = true then EvD K S te ρ2 fun y => I (i + 1) (acc ++ [y]) else I (i + 1) acc) ∧ ∀ acc, I its.length acc → Ψ acc) : EvN K S (tLc wi g tt te vs) ρ Ψ := fun σ F H e s dr Q q => by
  refine h σ F H e s dr _ fun J its F1 H1 ⟨I, i0, is, ie⟩ g1 ⟨Y, w, hY⟩ => ?_
  intro D nD
  have e1 := e.ag g1
  have nF1 : F1 D = none := g1.ok.free nD
  have nS := g1.dr.ne nD
  refine lc_it w (fun i H' => ∃ acc us F', I i acc ∧ H' D = some (.lst us) ∧ F' D = none ∧ Dats K S F' acc us ∧ Ag S F1 H1 F' H') ⟨[], [], F1, i0, upd_same, nF1, rfl, (Ag.refl g1.ok g1.dr).newH g1.dr nD⟩ ?_ ?_ ?_
  · rintro i H' _ ⟨_, _, _, _, _, _, _, a⟩
    exact a.fs.trans a.ok
  · rintro i x H2 H3 hi ⟨acc, us, F2, hI, hD, nF2, hds, a2⟩ y
    obtain ⟨d, F3, hd, dd, g3⟩ := hY i H2 x H3 F2 hi a2.fs a2.ok a2.dr y
    obtain ⟨hl, hT⟩ := is i d acc hd hI
    have a3 := a2.trans g3 g1.dr
    have e3 : EnvOk K S F3 H3 (wipe σ vs) (wipeS ρ vs) := (e1.ag a3).wipe vs
    have hD3 := g3.keep (fun s e => (nS s e).1) hD
    have nF3 := g3.keepF hD nF2
    refine hT x _ F3 H3 e3 dd g3.ok _ fun σ4 ρ4 hx e4 o4 k4 => ⟨wipe_same (k4.1.trans (wipe_length σ vs)) k4.2.1, ?_⟩
    · refine hx σ4 F3 H3 e4 g3.ok g3.dr _ fun b F4 H4 hb g4 => ?_
      have hD4 := g4.keep (fun s e => (nS s e).1) hD3
      have nF4 := g4.keepF hD3 nF3
      have a4 := a3.trans g4 g1.dr
      cases b with
      | true =>
        show te σ4 H4 _
        refine hb σ4 F4 H4 (e4.ag g4) g4.ok g4.dr _ fun v5 d5 F5 H5 h5 dd5 g5 => ?_
        have hD5 := g5.keep (fun s e => (nS s e).1) hD4
        have nF5 := g5.keepF hD4 nF4
        have a5 := a4.trans g5 g1.dr
        have hds5 : Dats K S F5 acc us := Dats.mono ((g3.fs.trans g4.fs).trans g5.fs) acc hds
        exact ⟨us, hD5, by rw [hds.length]; exact Nat.lt_of_lt_of_le hl (by decide), acc ++ [d5], us ++ [v5], F5, h5, upd_same, nF5, hds5.app (Dats.one dd5), a5.mut g1.dr (by rw [hD5]; trivial) (.of nD) nF5 nS⟩
      | false => exact ⟨acc, us, F4, hb, hD4, nF4, Dats.mono (g3.fs.trans g4.fs) acc hds, a4⟩
  · rintro H2 ⟨acc, us, F2, hI, hD, nF2, hds, a2⟩
    exact q D us acc F2 H2 (ie acc hI) (g1.back nD) nF2 hD hds (g1.trans a2 dr)
end
end
/-! Operators by methods of own classes. -/
section
set_option maxRecDepth 100000
set_option maxHeartbeats 2000000
open PySem PySem.Spec PyProof.Rows L2
section
variable {X : Cx} {k j : Nat} {ps : List Str} {sp : Sp} {C : Addr}
/-- x op y, both of the class at C -/
def rOwn (C : Addr) (sp : Sp) : R2 := fun x y H Q => ∃ a b dx fs dy gs, x = .ref a ∧ y = .ref b ∧ H a = some (.ins C dx fs) ∧ H b = some (.ins C dy gs) ∧ sp [x, y] H Q E0
theorem k_own {a b : Addr} {H : Hp} {Q : VK} (ha : Is H a C) (hb : Is H b C) (h : sp [.ref a, .ref b] H Q E0) : rOwn C sp (.ref a) (.ref b) H Q := by
  obtain ⟨dx, fs, h1⟩ := ha
  obtain ⟨dy, gs, h2⟩ := hb
  exact ⟨a, b, dx, fs, dy, gs, rfl, rfl, h1, h2, h⟩
theorem cmpBack_of {pins : List (Addr × Obj)} {σ : L2.St} {Q : VK} {u : Value} {s' : Shared} (h : EP X pins σ Q u s') : PySem.W.CmpBack (EP X pins σ Q) u s' := by
  cases u with
  | notImplemented =>
    obtain ⟨v, H', I, r, q⟩ := h
    cases v with
    | int i => obtain ⟨t, e⟩ := r; cases e
    | str i => obtain ⟨t, e⟩ := r; cases e
    | byt i => obtain ⟨t, e⟩ := r; cases e
    | flt i => obtain ⟨t, e⟩ := r; cases e
    | _ => cases r
  | _ => exact h
/-- v in x, x of the class at C -/
def rOwnIn (C : Addr) (sp : Sp) : R2 := fun v x H Q => ∃ a dx fs, x = .ref a ∧ H a = some (.ins C dx fs) ∧ sp [x, v] H (fun z H' => ∃ b, z = .bl b ∧ Q (.bl b) H') E0
theorem k_ownin {a : Addr} {v : V} {H : Hp} {Q : VK} (ha : Is H a C) (h : sp [.ref a, v] H (fun z H' => ∃ b, z = .bl b ∧ Q (.bl b) H') E0) : rOwnIn C sp v (.ref a) H Q := by
  obtain ⟨dx, fs, h1⟩ := ha
  exact ⟨a, dx, fs, rfl, h1, h⟩
/-- len(x), x of the class at C -/
def rLenO (C : Addr) (sp : Sp) : List V → Hp → VK → Prop := fun xs H Q => ∃ a dx fs, xs = [.ref a] ∧ H a = some (.ins C dx fs) ∧ sp [.ref a] H (fun z H' => ∃ n : Nat, z = .int (n : Nat) ∧ n < 1000000 ∧ Q z H') E0
theorem k_lenO {a : Addr} {H : Hp} {Q : VK} (ha : Is H a C) (h : sp [.ref a] H (fun z H' => ∃ n : Nat, z = .int (n : Nat) ∧ n < 1000000 ∧ Q z H') E0) : rLenO C sp [.ref a] H Q := by
  obtain ⟨dx, fs, h1⟩ := ha
  exact ⟨a, dx, fs, rfl, h1, h⟩
end
end
/-! Operators of an own class and an integer. -/
section
set_option maxRecDepth 100000
set_option maxHeartbeats 2000000
open PySem PySem.Spec PyProof.Rows L2
section
variable {X : Cx} {k j : Nat} {ps : List Str} {sp : Sp} {C : Addr}
/-- x op i, x of the class at C -/
def rOwnI (C : Addr) (sp : Sp) : R2 := fun x y H Q => ∃ a dx fs i, x = .ref a ∧ y = .int i ∧ H a = some (.ins C dx fs) ∧ sp [x, y] H Q E0
theorem k_ownI {a : Addr} {i : Int} {H : Hp} {Q : VK} (ha : Is H a C) (h : sp [.ref a, .int i] H Q E0) : rOwnI C sp (.ref a) (.int i) H Q := by
  obtain ⟨dx, fs, h1⟩ := ha
  exact ⟨a, dx, fs, i, rfl, rfl, h1, h⟩
/-! ### an integer and an own class: the reflected method -/
/-- i op y, y of the class at C: the reflected method's promise -/
def rOwnR (C : Addr) (sp : Sp) : R2 := fun x y H Q => ∃ a dx fs i, y = .ref a ∧ x = .int i ∧ H a = some (.ins C dx fs) ∧ sp [y, x] H Q E0
theorem k_ownR {a : Addr} {i : Int} {H : Hp} {Q : VK} (ha : Is H a C) (h : sp [.ref a, .int i] H Q E0) : rOwnR C sp (.int i) (.ref a) H Q := by
  obtain ⟨dx, fs, h1⟩ := ha
  exact ⟨a, dx, fs, i, rfl, rfl, h1, h⟩
end
end
/-! == of flat lists and tuples. -/
section
set_option maxRecDepth 100000
set_option maxHeartbeats 2000000
def okS (ws : List Str) : Prop := ∀ x ∈ ws, PyData.strOk x = true
theorem eqv_strs : ∀ (xs ys : List Str), PyData.eqvAll (xs.map PyData.str) (ys.map PyData.str) = decide (xs = ys)
  | [], [] => rfl
  | [], _ :: _ => rfl
  | _ :: _, [] => rfl
  | x :: xs, y :: ys => by
    show ((x == y) && PyData.eqvAll (xs.map PyData.str) (ys.map PyData.str)) = _
    rw [eqv_strs xs ys, Bool.eq_iff_iff, Bool.and_eq_true, decide_eq_true_iff, decide_eq_true_iff, beq_iff_eq, List.cons.injEq]
theorem lay_strs : ∀ {ws : List Str}, okS ws → PyData.canLayAll0 (ws.map PyData.str) = true
  | [], _ => rfl
  | x :: ws, h => by
    show (PyData.strOk x && PyData.canLayAll0 (ws.map PyData.str)) = true
    rw [h x List.mem_cons_self, lay_strs fun y hy => h y (List.mem_cons_of_mem _ hy)]
    rfl
theorem dep_strs : ∀ (ws : List Str), PyData.depthAll (ws.map PyData.str) = 0
  | [] => rfl
  | x :: ws => by
    show max 0 (PyData.depthAll (ws.map PyData.str)) = 0
    rw [dep_strs ws]
    rfl
theorem shaped_l {ds : List PyData} (h1 : PyData.canLayAll0 ds = true) (h2 : PyData.depthAll ds ≤ 60) : SeqAt.shaped (.list ds) = true := by
  unfold SeqAt.shaped
  rw [Bool.and_eq_true]
  refine ⟨h1, decide_eq_true ?_⟩
  show PyData.depthAll ds + 1 ≤ 64
  omega
theorem shaped_t {ds : List PyData} (h1 : PyData.canLayAll0 ds = true) (h2 : PyData.depthAll ds ≤ 60) : SeqAt.shaped (.tuple ds) = true := by
  unfold SeqAt.shaped
  rw [Bool.and_eq_true]
  refine ⟨h1, decide_eq_true ?_⟩
  show PyData.depthAll ds + 1 ≤ 64
  omega
section
variable {K : PySem.W.Frag} {H : Hp} {Q : VK} {p q : Addr}
end
end
/-! Rules at the level of data: walks, operators, builtins, calls. -/
section
set_option maxRecDepth 100000
set_option maxHeartbeats 2000000
def dI (ns : List Int) : List D := ns.map D.int
def dN (ns : List Nat) : List D := ns.map fun n : Nat => D.int (n : Int)
def dS (ws : List Str) : List D := ws.map D.str
def dB (bs : List Bool) : List D := bs.map D.bl
theorem dS_len (ns : List Str) : (dS ns).length = ns.length := List.length_map _
theorem dN_dI (ns : List Nat) : dN ns = dI (ns.map fun n : Nat => (n : Int)) := by unfold dN dI; rw [List.map_map]; rfl
theorem dN_get {ns : List Nat} {i : Nat} {d : D} (h : (dN ns)[i]? = some d) : ∃ n, ns[i]? = some n ∧ d = .int (n : Nat) := by
  unfold dN at h
  rw [List.getElem?_map] at h
  cases e : ns[i]? with
  | none => rw [e] at h; cases h
  | some n => rw [e] at h; exact ⟨n, rfl, (Option.some.inj h).symm⟩
section
variable {K : PySem.W.Frag} {S : Sx} {ρ : List Sl} {Φ : D → Prop} {Ψ : List D → Prop} {Χ : Bool → Prop} {O : Oc} {ta tb tc te : TE} {tr : TA} {tt tu : TT} {t u : TS} {g : TG} {gs : TGs} {wi : TI} {r : R2} {L : Nat → Prop} {Θ : List Sl → Prop} {i j : Nat} {d x y : D} {ds xs ys : List D}
theorem dats_dI {F : Hp} {l : List Int} {vs : List V} : Dats K S F (dI l) vs ↔ vs = l.map V.int := dats_int
theorem dats_dS {F : Hp} {l : List Str} {vs : List V} : Dats K S F (dS l) vs ↔ vs = l.map V.str := dats_str
theorem dats_dB {F : Hp} {l : List Bool} {vs : List V} : Dats K S F (dB l) vs ↔ vs = l.map V.bl := dats_bl

/-! ### walks -/
theorem itOk_seq {F1 : Hp} {a : Addr} {vs : List V} {J : It} (w : ∀ G : Hp → Prop, (∀ H, G H → Same F1 H) → Walk J vs.length G (YAt vs)) (hd : Dats K S F1 xs vs) : ItOk K S F1 J xs := by
  refine ⟨YAt vs, by rw [← hd.length]; exact w _ fun _ h => h, fun i H2 v H3 F2 hi s1 s2 dr y => ?_⟩
  obtain ⟨rfl, e⟩ := y
  obtain ⟨d, h1, h2⟩ := hd.get' e
  exact ⟨d, F2, h1, Dat.mono s1 d h2, Ag.refl s2 dr⟩
def seqD (x : D) (Ψ : List D → Prop) : Prop := ∃ ds, (x = .lst ds ∨ x = .tup ds) ∧ Ψ ds
theorem seq_l (h : Ψ ds) : seqD (.lst ds) Ψ := ⟨ds, .inl rfl, h⟩
theorem seq_t (h : Ψ ds) : seqD (.tup ds) Ψ := ⟨ds, .inr rfl, h⟩
theorem ei_seq (h : EvD K S te ρ fun x => seqD x Ψ) : EvI K S (iE (rItA K) te) ρ Ψ := fun σ F H e s dr R q =>
  h σ F H e s dr _ fun v x F1 H1 ⟨ds, hx, hΨ⟩ dd g1 => by
    rcases hx with rfl | rfl
    · obtain ⟨a, vs, rfl, h1, h2⟩ := dd
      refine ⟨a, vs, rfl, .inl ⟨sl_of (g1.ok _ _ h1), q _ ds F1 H1 hΨ g1 (itOk_seq (a := a) (fun G hG => walk_list.mono (fun H hH => sl_of (hG H hH _ _ h1)) fun _ _ _ _ _ _ y => y) h2)⟩⟩
    · obtain ⟨a, vs, rfl, h1, h2⟩ := dd
      refine ⟨a, vs, rfl, .inr ⟨st_sm g1.ok h1, q _ ds F1 H1 hΨ g1 (itOk_seq (a := a) (fun G hG => walk_tup.mono (fun H hH => st_sm (hG H hH) h1) fun _ _ _ _ _ _ y => y) h2)⟩⟩
def signs (s : Str) : List D := s.cps.toList.map fun c => D.str ⟨#[c]⟩
theorem ei_str (h : EvD K S te ρ fun x => ∃ s, x = .str s ∧ Ψ (signs s)) : EvI K S (iE rItS te) ρ Ψ := fun σ F H e s dr R q =>
  h σ F H e s dr _ fun v x F1 H1 ⟨z, hx, hΨ⟩ dd g1 => by
    subst hx
    have dd' : v = .str z := dd
    subst dd'
    refine ⟨z, rfl, q _ _ F1 H1 hΨ g1 ⟨fun i H v H' => H' = H ∧ ∃ c, z.cps[i]? = some c ∧ v = .str ⟨#[c]⟩, ?_, ?_⟩⟩
    · have hl : (signs z).length = z.cps.size := by unfold signs; rw [List.length_map, Array.length_toList]
      rw [hl]
      exact walk_str.mono (fun _ _ => trivial) fun _ _ _ _ _ _ y => y
    · intro i H2 v H3 F2 hi s1 s2 dr y
      obtain ⟨rfl, c, hc, rfl⟩ := y
      refine ⟨.str ⟨#[c]⟩, F2, ?_, rfl, Ag.refl s2 dr⟩
      unfold signs
      rw [List.getElem?_map, Array.getElem?_toList, hc]; rfl
theorem itOk_range {F1 : Hp} {lo : Int} {n : Nat} : ItOk K S F1 (Itr lo n) ((List.range n).map fun k : Nat => D.int (lo + k)) := by
  refine ⟨_, by rw [List.length_map, List.length_range]; exact walk_range.mono (fun _ _ => trivial) fun _ _ _ _ _ _ y => y, fun i H2 v H3 F2 hi s1 s2 dr y => ?_⟩
  obtain ⟨rfl, rfl⟩ := y
  rw [List.length_map, List.length_range] at hi
  exact ⟨.int (lo + i), F2, by rw [List.getElem?_map, List.getElem?_range hi]; rfl, rfl, Ag.refl s2 dr⟩
def rgN (n : Nat) : List D := dN (List.range n)
theorem ei_rg1 (h : EvA K S tr ρ fun xs => ∃ n : Nat, xs = [.int (n : Int)] ∧ n < 1000000 ∧ Ψ (rgN n)) : EvI K S (iA rRg1 tr) ρ Ψ := fun σ F H e s dr R q =>
  h σ F H e s dr _ fun vs xs F1 H1 ⟨n, hx, hn, hΨ⟩ dd g1 => by
    subst hx
    obtain ⟨v, us, rfl, h1, h2⟩ := dd
    cases h1; cases h2
    refine ⟨n, rfl, by omega, by omega, q _ _ F1 H1 hΨ g1 ?_⟩
    have := itOk_range (K := K) (S := S) (F1 := F1) (lo := 0) (n := (n : Int).toNat)
    rw [Int.toNat_natCast] at this
    have e : ((List.range n).map fun k : Nat => D.int (0 + (k : Int))) = rgN n := by
      unfold rgN dN
      exact List.map_congr_left fun k _ => by rw [Int.zero_add]
    rw [e] at this
    rw [Int.toNat_natCast]
    exact this
theorem ei_rg2 (h : EvA K S tr ρ fun xs => ∃ a b : Int, xs = [.int a, .int b] ∧ (-1000000 < a ∧ a < 1000000) ∧ (-1000000 < b ∧ b < 1000000) ∧ Ψ ((List.range (b - a).toNat).map fun k : Nat => D.int (a + k))) : EvI K S (iA rRg2 tr) ρ Ψ := fun σ F H e s dr R q =>
  h σ F H e s dr _ fun vs xs F1 H1 ⟨a, b, hx, ha, hb, hΨ⟩ dd g1 => by
    subst hx
    obtain ⟨v, us, rfl, h1, v2, us2, rfl, h2, h3⟩ := dd
    cases h1; cases h2; cases h3
    exact ⟨a, b, rfl, ⟨by omega, by omega, by omega, by omega⟩, q _ _ F1 H1 hΨ g1 itOk_range⟩
def enumD (xs : List D) : List D := xs.zipIdx.map fun p => D.tup [.int (p.2 : Nat), p.1]
theorem enumD_len (xs : List D) : (enumD xs).length = xs.length := by unfold enumD; rw [List.length_map, List.length_zipIdx]
theorem enumD_get {xs : List D} {i : Nat} {d : D} (h : (enumD xs)[i]? = some d) : ∃ x, xs[i]? = some x ∧ d = .tup [.int (i : Nat), x] := by
  unfold enumD at h
  rw [List.getElem?_map, List.getElem?_zipIdx] at h
  cases e : xs[i]? with
  | none => rw [e] at h; cases h
  | some x => rw [e] at h; exact ⟨x, rfl, by rw [← Option.some.inj h]; simp⟩
theorem enumD_at {xs : List D} {i : Nat} {x : D} (h : xs[i]? = some x) : (enumD xs)[i]? = some (.tup [.int (i : Nat), x]) := by
  unfold enumD
  rw [List.getElem?_map, List.getElem?_zipIdx, h]
  simp
theorem itOk_pair {F1 : Hp} {J : It} {its : List D} {f1 f2 : Nat → Option V} (w : Walk J its.length (fun H2 => Same F1 H2) (YPair f1 f2)) (h : ∀ i v1 v2, i < its.length → f1 i = some v1 → f2 i = some v2 → ∃ d1 d2, its[i]? = some (.tup [d1, d2]) ∧ Dat K S F1 d1 v1 ∧ Dat K S F1 d2 v2) : ItOk K S F1 J its := by
  refine ⟨_, w, fun i H2 v H3 F2 hi s1 s2 dr y => ?_⟩
  obtain ⟨T, v1, v2, rfl, nT, rfl, e1, e2⟩ := y
  obtain ⟨d1, d2, h1, h2, h3⟩ := h i v1 v2 hi e1 e2
  have nF : F2 T = none := s2.free nT
  have sm : Same F1 (upd F2 T (.tup [v1, v2])) := fun b o q => upd_new (s1 _ _ q) nF
  exact ⟨_, upd F2 T (.tup [v1, v2]), h1, ⟨T, _, rfl, st_of upd_same, v1, _, rfl, Dat.mono sm d1 h2, v2, _, rfl, Dat.mono sm d2 h3, rfl⟩, (Ag.refl s2 dr).newF dr nT⟩
theorem ei_enum (h : EvA K S tr ρ fun xs => ∃ x, xs = [x] ∧ seqD x fun ds => Ψ (enumD ds)) : EvI K S (iA (rEnumA K) tr) ρ Ψ := fun σ F H e s dr R q =>
  h σ F H e s dr _ fun vs xs F1 H1 ⟨x, hx, ds, hds, hΨ⟩ dd g1 => by
    subst hx
    obtain ⟨v, us, rfl, h1, h2⟩ := dd
    cases h2
    rcases hds with rfl | rfl
    · obtain ⟨a, ws, rfl, h3, h4⟩ := h1
      refine ⟨a, ws, rfl, .inl ⟨sl_of (g1.ok _ _ h3), q _ _ F1 H1 hΨ g1 (itOk_pair (by rw [enumD_len, ← h4.length]; exact walk_enum.mono (fun H hH => sl_of (hH _ _ h3)) fun _ _ _ _ _ _ y => y) fun i v1 v2 hi e1 e2 => ?_)⟩⟩
      obtain ⟨d2, h5, h6⟩ := h4.get' e2
      cases e1
      exact ⟨.int (i : Nat), d2, enumD_at h5, rfl, h6⟩
    · obtain ⟨a, ws, rfl, h3, h4⟩ := h1
      refine ⟨a, ws, rfl, .inr ⟨st_sm g1.ok h3, q _ _ F1 H1 hΨ g1 (itOk_pair (by rw [enumD_len, ← h4.length]; exact walk_enumT.mono (fun H hH => st_sm hH h3) fun _ _ _ _ _ _ y => y) fun i v1 v2 hi e1 e2 => ?_)⟩⟩
      obtain ⟨d2, h5, h6⟩ := h4.get' e2
      cases e1
      exact ⟨.int (i : Nat), d2, enumD_at h5, rfl, h6⟩
def zipD (xs ys : List D) : List D := (xs.zip ys).map fun p => D.tup [p.1, p.2]
theorem zipD_len (xs ys : List D) : (zipD xs ys).length = min xs.length ys.length := by unfold zipD; rw [List.length_map, List.length_zip]
theorem zipD_at {xs ys : List D} {i : Nat} {x y : D} (h : xs[i]? = some x) (h' : ys[i]? = some y) : (zipD xs ys)[i]? = some (.tup [x, y]) := by
  unfold zipD
  rw [List.getElem?_map, (List.getElem?_zip_eq_some (z := (x, y))).mpr ⟨h, h'⟩]
  rfl
theorem zipD_get {xs ys : List D} {i : Nat} {d : D} (h : (zipD xs ys)[i]? = some d) : ∃ x y, xs[i]? = some x ∧ ys[i]? = some y ∧ d = .tup [x, y] := by
  unfold zipD at h
  rw [List.getElem?_map] at h
  cases e : (xs.zip ys)[i]? with
  | none => rw [e] at h; cases h
  | some p =>
    rw [e] at h
    obtain ⟨p1, p2⟩ := p
    obtain ⟨h1, h2⟩ := List.getElem?_zip_eq_some.mp e
    exact ⟨p1, p2, h1, h2, (Option.some.inj h).symm⟩
theorem ei_zip (h : EvA K S tr ρ fun zs => ∃ xs ys, zs = [.lst xs, .lst ys] ∧ Ψ (zipD xs ys)) : EvI K S (iA (rZipL K) tr) ρ Ψ := fun σ F H e s dr R q =>
  h σ F H e s dr _ fun vs zs F1 H1 ⟨xs, ys, hx, hΨ⟩ dd g1 => by
    subst hx
    obtain ⟨v, us, rfl, ⟨a, ws, rfl, h3, h4⟩, v', us', rfl, ⟨b, ws', rfl, h3', h4'⟩, h2⟩ := dd
    cases h2
    refine ⟨a, b, ws, ws', rfl, sl_of (g1.ok _ _ h3), sl_of (g1.ok _ _ h3'), q _ _ F1 H1 hΨ g1 (itOk_pair (f1 := fun i => ws[i]?) (f2 := fun i => ws'[i]?) ((walk_zip (by rw [zipD_len, h4.length, h4'.length])).mono (fun H hH => ⟨sl_of (hH _ _ h3), sl_of (hH _ _ h3')⟩) fun _ _ _ _ _ _ y => y) fun i v1 v2 hi e1 e2 => ?_)⟩
    obtain ⟨d1, h5, h6⟩ := h4.get' e1
    obtain ⟨d2, h7, h8⟩ := h4'.get' e2
    exact ⟨d1, d2, zipD_at h5 h7, h6, h8⟩

/-! ### operators -/
theorem od_int {f : Int → Int → Int} {a b : Int} (k : Φ (.int (f a b))) : OpD K S (rI0 fun i j => .int (f i j)) (.int a) (.int b) Φ := fun u w F H s dr h1 h2 Q q => by
  cases h1; cases h2
  exact ⟨a, b, rfl, rfl, q _ _ F H k rfl (Ag.refl s dr)⟩
theorem od_bl {f : Int → Int → Bool} {a b : Int} (k : Φ (.bl (f a b))) : OpD K S (rI0 fun i j => .bl (f i j)) (.int a) (.int b) Φ := fun u w F H s dr h1 h2 Q q => by
  cases h1; cases h2
  exact ⟨a, b, rfl, rfl, q _ _ F H k rfl (Ag.refl s dr)⟩
theorem od_I {C : Int → Int → Prop} {f : Int → Int → Int} {a b : Int} (c : C a b) (k : Φ (.int (f a b))) : OpD K S (rI C fun i j => .int (f i j)) (.int a) (.int b) Φ := fun u w F H s dr h1 h2 Q q => by
  cases h1; cases h2
  exact ⟨a, b, rfl, rfl, c, q _ _ F H k rfl (Ag.refl s dr)⟩
theorem od_ip {f : Int → Int → Int} {a b : Int} (k : Φ (.int (f a b))) : OpD K S (ipI f) (.int a) (.int b) Φ := fun u w F H s dr h1 h2 Q q => by
  cases h1; cases h2
  exact ⟨a, b, rfl, rfl, q _ _ F H k rfl (Ag.refl s dr)⟩
theorem ud_U {f : Int → Int} {a : Int} (k : Φ (.int (f a))) : UnD K S (rU fun i => .int (f i)) (.int a) Φ := fun u F H s dr h1 Q q => by
  cases h1
  exact ⟨a, rfl, q _ _ F H k rfl (Ag.refl s dr)⟩
theorem od_eqI {a b : Int} (k : Φ (.bl (decide (a = b)))) : OpD K S rEq (.int a) (.int b) Φ := fun u w F H s dr h1 h2 Q q => by
  cases h1; cases h2
  exact k_eqI (q _ _ F H k rfl (Ag.refl s dr))
theorem od_neI {a b : Int} (k : Φ (.bl (!decide (a = b)))) : OpD K S rNe (.int a) (.int b) Φ := fun u w F H s dr h1 h2 Q q => by
  cases h1; cases h2
  exact k_neI (q _ _ F H k rfl (Ag.refl s dr))
theorem od_eqS {a b : Str} (k : Φ (.bl (decide (a = b)))) : OpD K S rEq (.str a) (.str b) Φ := fun u w F H s dr h1 h2 Q q => by
  cases h1; cases h2
  exact k_eqS (q _ _ F H k rfl (Ag.refl s dr))
theorem od_neS {a b : Str} (k : Φ (.bl (!decide (a = b)))) : OpD K S rNe (.str a) (.str b) Φ := fun u w F H s dr h1 h2 Q q => by
  cases h1; cases h2
  exact k_neS (q _ _ F H k rfl (Ag.refl s dr))
theorem od_eqB {a b : Bool} (k : Φ (.bl (a == b))) : OpD K S rEq (.bl a) (.bl b) Φ := fun u w F H s dr h1 h2 Q q => by
  cases h1; cases h2
  exact k_eqB (q _ _ F H k rfl (Ag.refl s dr))
theorem od_neB {a b : Bool} (k : Φ (.bl (!(a == b)))) : OpD K S rNe (.bl a) (.bl b) Φ := fun u w F H s dr h1 h2 Q q => by
  cases h1; cases h2
  exact k_neB (q _ _ F H k rfl (Ag.refl s dr))
theorem Dats.at {F : Hp} {vs : List V} {k : Int} (h : Dats K S F ds vs) (e : atI ds k = some d) : ∃ v, atI vs k = some v ∧ Dat K S F d v := by
  unfold atI at e ⊢
  rw [h.length]
  cases q : ixN ds.length k with
  | none => rw [q] at e; cases e
  | some n =>
    rw [q] at e
    exact h.get e
theorem od_ixl {k : Int} (e : atI ds k = some d) (h : Φ d) : OpD K S (rIxL K) (.lst ds) (.int k) Φ := fun u w F H s dr h1 h2 Q q => by
  obtain ⟨a, vs, rfl, h3, h4⟩ := h1
  cases h2
  obtain ⟨v, h5, h6⟩ := h4.at e
  exact ⟨a, vs, k, v, rfl, rfl, sl_of (s _ _ h3), h5, q v d F H h h6 (Ag.refl s dr)⟩
theorem od_ixt {k : Int} (e : atI ds k = some d) (h : Φ d) : OpD K S (rIxT K) (.tup ds) (.int k) Φ := fun u w F H s dr h1 h2 Q q => by
  obtain ⟨a, vs, rfl, h3, h4⟩ := h1
  cases h2
  obtain ⟨v, h5, h6⟩ := h4.at e
  exact ⟨a, vs, k, v, rfl, rfl, st_sm s h3, h5, q v d F H h h6 (Ag.refl s dr)⟩
theorem od_ixL {k : Int} (e : atI ds k = some d) (h : Φ d) : OpD K S (rIx K) (.lst ds) (.int k) Φ := fun u w F H s dr h1 h2 Q q => .inl (od_ixl e h u w F H s dr h1 h2 Q q)
theorem od_ixT {k : Int} (e : atI ds k = some d) (h : Φ d) : OpD K S (rIx K) (.tup ds) (.int k) Φ := fun u w F H s dr h1 h2 Q q => .inr (.inl (od_ixt e h u w F H s dr h1 h2 Q q))
theorem od_inq {ng : Bool} {b : Bool} (hx : ∀ F v, Dat K S F x v → flatV v = true) (hs : ∀ F vs, Dats K S F ds vs → vs.all flatV = true) (hb : ∀ F v vs, Dat K S F x v → Dats K S F ds vs → inV v vs = b) (hy : y = .lst ds ∨ y = .tup ds) (k : Φ (.bl (if ng then !b else b))) : OpD K S (rIn K ng) x y Φ := fun u w F H s dr h1 h2 Q q => by
  rcases hy with rfl | rfl
  · obtain ⟨a, vs, rfl, h3, h4⟩ := h2
    exact ⟨a, vs, rfl, .inl (sl_of (s _ _ h3)), hx F u h1, hs F vs h4, by rw [hb F u vs h1 h4]; exact q _ _ F H k rfl (Ag.refl s dr)⟩
  · obtain ⟨a, vs, rfl, h3, h4⟩ := h2
    exact ⟨a, vs, rfl, .inr (st_sm s h3), hx F u h1, hs F vs h4, by rw [hb F u vs h1 h4]; exact q _ _ F H k rfl (Ag.refl s dr)⟩
theorem od_inI {ng : Bool} {n : Int} {ns : List Int} (hy : y = .lst (dI ns) ∨ y = .tup (dI ns)) (k : Φ (.bl (if ng then !decide (n ∈ ns) else decide (n ∈ ns)))) : OpD K S (rIn K ng) (.int n) y Φ :=
  od_inq (fun F v h => by cases h; rfl) (fun F vs h => by rw [dats_dI.mp h]; exact all_flat_int ns) (fun F v vs h1 h2 => by cases h1; rw [dats_dI.mp h2]; exact inV_int n ns) hy k
theorem od_inN {ng : Bool} {n : Nat} {ns : List Nat} (hy : y = .lst (dN ns) ∨ y = .tup (dN ns)) (k : Φ (.bl (if ng then !decide (n ∈ ns) else decide (n ∈ ns)))) : OpD K S (rIn K ng) (.int (n : Int)) y Φ := by
  have e : decide ((n : Int) ∈ ns.map fun n : Nat => (n : Int)) = decide (n ∈ ns) := by
    rw [decide_eq_decide, List.mem_map]
    exact ⟨fun ⟨m, h1, h2⟩ => by rw [← Int.ofNat.inj h2]; exact h1, fun h => ⟨n, h, rfl⟩⟩
  rw [dN_dI] at hy
  refine od_inI hy ?_
  rw [e]
  exact k
theorem od_inS {ng : Bool} {n : Str} {ns : List Str} (hy : y = .lst (dS ns) ∨ y = .tup (dS ns)) (k : Φ (.bl (if ng then !decide (n ∈ ns) else decide (n ∈ ns)))) : OpD K S (rIn K ng) (.str n) y Φ :=
  od_inq (fun F v h => by cases h; rfl) (fun F vs h => by rw [dats_dS.mp h]; exact all_flat_str ns) (fun F v vs h1 h2 => by cases h1; rw [dats_dS.mp h2]; exact inV_str n ns) hy k
theorem od_sign {c : Nat} {z : Str} (k : Φ (.bl (decide (c ∈ z.cps.toList)))) : OpD K S rInSign (.str ⟨#[c]⟩) (.str z) Φ := fun u w F H s dr h1 h2 Q q => by
  cases h1; cases h2
  exact ⟨c, z, rfl, rfl, q _ _ F H k rfl (Ag.refl s dr)⟩
theorem od_adds {a b : Str} (hl : a.length + b.length < 1000000) (k : Φ (.str (a ++ b))) : OpD K S rAddS2 (.str a) (.str b) Φ := fun u w F H s dr h1 h2 Q q => by
  cases h1; cases h2
  exact k_adds hl (q _ _ F H k rfl (Ag.refl s dr))
theorem on_cat (hl : xs.length + ys.length < 100000) (k : Ψ (xs ++ ys)) : OpN K S rCat (.lst xs) (.lst ys) Ψ := fun u w F H s dr h1 h2 Q q => by
  obtain ⟨a, vs, rfl, h3, h4⟩ := h1
  obtain ⟨b, ws, rfl, h5, h6⟩ := h2
  refine ⟨a, b, vs, ws, rfl, rfl, s _ _ h3, s _ _ h5, by rw [h4.length, h6.length]; exact Nat.le_of_lt (Nat.lt_of_lt_of_le hl (by decide)), fun p np => ?_⟩
  exact q p _ _ F _ k (.of np) (s.free np) upd_same (h4.app h6) ((Ag.refl s dr).newH dr np)
theorem on_rep {n : Nat} (hl : xs.length * n < 100000) (hn : n < 100000) (k : Ψ (List.replicate n xs).flatten) : OpN K S rRep (.lst xs) (.int (n : Int)) Ψ := fun u w F H s dr h1 h2 Q q => by
  obtain ⟨a, vs, rfl, h3, h4⟩ := h1
  cases h2
  refine k_rep (s _ _ h3) (by rw [h4.length]; exact hl) hn fun p np => ?_
  exact q p _ _ F _ k (.of np) (s.free np) upd_same (h4.rep n) ((Ag.refl s dr).newH dr np)
/-! ### builtins -/
theorem cd_len (h : seqD x fun ds => Φ (.int (ds.length : Nat))) : CbD K S (rLen K) [x] Φ := fun us F H s dr h1 Q q => by
  obtain ⟨v, _, rfl, h2, e⟩ := h1
  cases e
  obtain ⟨ds, hx, k⟩ := h
  rcases hx with rfl | rfl
  · obtain ⟨a, vs, rfl, h3, h4⟩ := h2
    exact k_lenl (sl_of (s _ _ h3)) (by rw [h4.length]; exact q _ _ F H k rfl (Ag.refl s dr))
  · obtain ⟨a, vs, rfl, h3, h4⟩ := h2
    exact k_lent (st_sm s h3) (by rw [h4.length]; exact q _ _ F H k rfl (Ag.refl s dr))
theorem cd_lens {z : Str} (hz : z.length < 100000) (k : Φ (.int (z.length : Nat))) : CbD K S (rLen K) [.str z] Φ := fun us F H s dr h1 Q q => by
  obtain ⟨v, _, rfl, h2, e⟩ := h1
  cases e
  cases h2
  exact k_lens (szl hz) (q _ _ F H k rfl (Ag.refl s dr))
theorem cd_all {bs : List Bool} (k : Φ (.bl (bs.all id))) : CbD K S (rAll K) [.lst (dB bs)] Φ := fun us F H s dr h1 Q q => by
  obtain ⟨v, _, rfl, ⟨a, vs, rfl, h3, h4⟩, e⟩ := h1
  cases e
  rw [dats_dB.mp h4] at h3
  exact k_all (s _ _ h3) (q _ _ F H k rfl (Ag.refl s dr))
theorem cd_any {bs : List Bool} (k : Φ (.bl (bs.any id))) : CbD K S (rAny K) [.lst (dB bs)] Φ := fun us F H s dr h1 Q q => by
  obtain ⟨v, _, rfl, ⟨a, vs, rfl, h3, h4⟩, e⟩ := h1
  cases e
  rw [dats_dB.mp h4] at h3
  exact k_any (s _ _ h3) (q _ _ F H k rfl (Ag.refl s dr))
theorem cd_int {n : Int} (k : Φ (.int n)) : CbD K S rInt1 [.int n] Φ := fun us F H s dr h1 Q q => by
  obtain ⟨v, _, rfl, h2, e⟩ := h1
  cases e
  cases h2
  exact k_inti (q _ _ F H k rfl (Ag.refl s dr))
theorem cd_intb {b : Bool} (k : Φ (.int (if b then 1 else 0))) : CbD K S rInt1 [.bl b] Φ := fun us F H s dr h1 Q q => by
  obtain ⟨v, _, rfl, h2, e⟩ := h1
  cases e
  cases h2
  exact k_intb (q _ _ F H k rfl (Ag.refl s dr))
theorem cn_list (h : seqD x Ψ) : CbN K S (rListOf K) [x] Ψ := fun us F H s dr h1 Q q => by
  obtain ⟨v, _, rfl, h2, e⟩ := h1
  cases e
  obtain ⟨ds, hx, k⟩ := h
  rcases hx with rfl | rfl
  · obtain ⟨a, vs, rfl, h3, h4⟩ := h2
    exact ⟨a, vs, rfl, .inl (sl_of (s _ _ h3)), fun p np => q p _ _ F _ k (.of np) (s.free np) upd_same h4 ((Ag.refl s dr).newH dr np)⟩
  · obtain ⟨a, vs, rfl, h3, h4⟩ := h2
    exact ⟨a, vs, rfl, .inr (st_sm s h3), fun p np => q p _ _ F _ k (.of np) (s.free np) upd_same h4 ((Ag.refl s dr).newH dr np)⟩
theorem cd_tuple (h : seqD x fun ds => Φ (.tup ds)) : CbD K S (rTupOf K) [x] Φ := fun us F H s dr h1 Q q => by
  obtain ⟨v, _, rfl, h2, e⟩ := h1
  cases e
  obtain ⟨ds, hx, k⟩ := h
  rcases hx with rfl | rfl
  · obtain ⟨a, vs, rfl, h3, h4⟩ := h2
    refine ⟨a, vs, rfl, .inl ⟨sl_of (s _ _ h3), fun p np => ?_⟩⟩
    exact q _ (.tup ds) _ _ k ⟨p, vs, rfl, st_of upd_same, Dats.mono (fun b w z => upd_new z (s.free np)) ds h4⟩ ((Ag.refl s dr).newF dr np)
  · obtain ⟨a, vs, rfl, h3, h4⟩ := h2
    exact ⟨a, vs, rfl, .inr ⟨st_sm s h3, q _ (.tup ds) F H k ⟨a, vs, rfl, h3, h4⟩ (Ag.refl s dr)⟩⟩
/-! ### fields, calls, methods -/
theorem lookup_get : ∀ {gs : List (Str × V)} {ns : List Str} {F : Hp} {f : Str} {n : Nat}, gs.map Prod.fst = ns → Dats K S F ds (gs.map Prod.snd) → ns.findIdx? (· == f) = some n → ds[n]? = some d → ∃ v, gs.lookup f = some v ∧ Dat K S F d v := by
  intro gs
  induction gs generalizing ds with
  | nil => intro ns F f n h1 h2 h3; subst h1; cases h3
  | cons g gs ih =>
    intro ns F f n h1 h2 h3 h4
    subst h1
    obtain ⟨g1, g2⟩ := g
    cases ds with
    | nil => cases h4
    | cons x xs =>
      obtain ⟨v, us, e, h5, h6⟩ := h2
      cases e
      rw [List.map_cons, List.findIdx?_cons] at h3
      by_cases q : g1 = f
      · rw [if_pos (beq_iff_eq.mpr q)] at h3
        cases h3
        cases h4
        exact ⟨g2, by rw [q]; simp [List.lookup], h5⟩
      · rw [if_neg (fun z => q (beq_iff_eq.mp z))] at h3
        cases e2 : (gs.map Prod.fst).findIdx? (· == f) with
        | none => rw [e2] at h3; cases h3
        | some m =>
          rw [e2] at h3
          cases h3
          obtain ⟨v', h7, h8⟩ := ih rfl h6 e2 (by simpa using h4)
          refine ⟨v', ?_, h8⟩
          rw [List.lookup_cons, beq_eq_false_iff_ne.mpr (Ne.symm q)]
          exact h7
theorem ud_fld {f : Str} {C : Addr} {ns : List Str} {n : Nat} (hc : Cls K C) (hn : NoAttr K C f) (h1 : ns.findIdx? (· == f) = some n) (h2 : ds[n]? = some d) (k : Φ d) : UnD K S (rFld K f) (.ins C ns ds) Φ := fun u F H s dr h Q q => by
  obtain ⟨a, dx, gs, rfl, h3, h4, h5⟩ := h
  obtain ⟨v, h6, h7⟩ := lookup_get h4 h5 h1 h2
  exact ⟨a, C, dx, gs, v, rfl, s _ _ h3, hc, hn, h6, q v d F H k h7 (Ag.refl s dr)⟩
theorem ev_fld {f : Str} (h : EvD K S te ρ fun x => UnD K S (rFld K f) x Φ) : EvD K S (tFld K te f) ρ Φ := ev_un (f := rFld K f) h
/-- a field of the object that is being made -/
theorem ev_fldS {f : Str} {p dx C : Addr} {ns : List Str} {n : Nat} (h0 : ρ[i]? = some (.slf p dx C ns ds)) (hc : Cls K C) (hn : NoAttr K C f) (h1 : ns.findIdx? (· == f) = some n) (h2 : ds[n]? = some d) (k : Φ d) : EvD K S (tFld K (tVar i) f) ρ Φ := fun σ F H e s dr Q q => by
  obtain ⟨gs, h3, _, h4, h5, h6⟩ := e.slf h0
  obtain ⟨v, h7, h8⟩ := lookup_get h5 h6 h1 h2
  exact ⟨.ref p, h3, p, C, dx, gs, v, rfl, h4, hc, hn, h7, q v d F H k h8 (Ag.refl s dr)⟩
abbrev FD := List D → (D → Prop) → Prop
/-- a promise at the level of data -/
def spD (K : PySem.W.Frag) (f : FD) : Sp := fun vs H Q _ => ∃ S F ds Φ, Same F H ∧ DrI S F H ∧ Dats K S F ds vs ∧ f ds Φ ∧ ∀ v d F' H', Φ d → Dat K S F' d v → Ag S F H F' H' → Q v H'
theorem ev_call {f : FD} (h : EvA K S tr ρ fun xs => f xs Φ) : EvD K S (tCall (spD K f) [] E0 tr) ρ Φ := fun σ F H e s dr Q q =>
  h σ F H e s dr _ fun vs xs F1 H1 hf dd g1 => by
    rw [List.append_nil]
    exact ⟨S, F1, xs, Φ, g1.ok, g1.dr, dd, hf, fun v d F' H' hd dd' g2 => q v d F' H' hd dd' (g1.trans g2 dr)⟩
/-- x is an instance of C without the field m -/
def insD (C : Addr) (m : Str) (x : D) : Prop := ∃ ns ds, x = .ins C ns ds ∧ ns.contains m = false
theorem insD_mk {C : Addr} {m : Str} {ns : List Str} (h : ns.contains m = false) : insD C m (.ins C ns ds) := ⟨ns, ds, rfl, h⟩
theorem lookup_no {gs : List (Str × V)} {m : Str} (h : (gs.map Prod.fst).contains m = false) : gs.lookup m = none := by
  induction gs with
  | nil => rfl
  | cons g gs ih =>
    obtain ⟨g1, g2⟩ := g
    rw [List.map_cons, List.contains_cons, Bool.or_eq_false_iff] at h
    rw [List.lookup_cons, h.1]
    exact ih h.2
theorem ev_meth {C : Addr} {m : Str} {f : FD} (h : EvD K S te ρ fun x => insD C m x ∧ EvA K S tr ρ fun xs => f (x :: xs) Φ) : EvD K S (tMeth C m (spD K f) [] E0 te tr) ρ Φ := fun σ F H e s dr Q q =>
  h σ F H e s dr _ fun v x F1 H1 ⟨⟨ns, ds, hx, hm⟩, hA⟩ dd g1 => by
    subst hx
    obtain ⟨a, dx, gs, rfl, h3, h4, h5⟩ := id dd
    refine ⟨a, dx, gs, rfl, g1.ok _ _ h3, lookup_no (by rw [h4]; exact hm), hA σ F1 H1 (e.ag g1) g1.ok g1.dr _ fun vs xs F2 H2 hf dd2 g2 => ?_⟩
    rw [List.append_nil]
    exact ⟨S, F2, .ins C ns ds :: xs, Φ, g2.ok, g2.dr, ⟨_, _, rfl, Dat.mono g2.fs _ dd, dd2⟩, hf, fun v d F' H' hd dd' g3 => q v d F' H' hd dd' ((g1.trans g2 dr).trans g3 dr)⟩
theorem ev_prop {C : Addr} {f : FD} (h : EvD K S te ρ fun x => (∃ ns ds, x = .ins C ns ds) ∧ f [x] Φ) : EvD K S (tProp C (spD K f) [] E0 te) ρ Φ := fun σ F H e s dr Q q =>
  h σ F H e s dr _ fun v x F1 H1 ⟨⟨ns, ds, hx⟩, hf⟩ dd g1 => by
    subst hx
    obtain ⟨a, dx, gs, rfl, h3, h4, h5⟩ := id dd
    exact ⟨a, dx, gs, rfl, g1.ok _ _ h3, S, F1, [.ins C ns ds], Φ, g1.ok, g1.dr, Dats.one dd, hf, fun v d F' H' hd dd' g3 => q v d F' H' hd dd' (g1.trans g3 dr)⟩
theorem od_own {C : Addr} {f : FD} {ns ns' : List Str} (h : f [.ins C ns xs, .ins C ns' ys] Φ) : OpD K S (rOwn C (spD K f)) (.ins C ns xs) (.ins C ns' ys) Φ := fun u w F H s dr h1 h2 Q q => by
  obtain ⟨a, dx, gs, rfl, h3, _⟩ := id h1
  obtain ⟨b, dy, hs, rfl, h4, _⟩ := id h2
  exact ⟨a, b, dx, gs, dy, hs, rfl, rfl, s _ _ h3, s _ _ h4, S, F, [_, _], Φ, s, dr, ⟨_, _, rfl, h1, _, _, rfl, h2, rfl⟩, h, q⟩
theorem od_ownI {C : Addr} {f : FD} {ns : List Str} {n : Int} (h : f [.ins C ns xs, .int n] Φ) : OpD K S (rOwnI C (spD K f)) (.ins C ns xs) (.int n) Φ := fun u w F H s dr h1 h2 Q q => by
  obtain ⟨a, dx, gs, rfl, h3, _⟩ := id h1
  cases h2
  exact ⟨a, dx, gs, n, rfl, rfl, s _ _ h3, S, F, [_, .int n], Φ, s, dr, ⟨_, _, rfl, h1, _, _, rfl, rfl, rfl⟩, h, q⟩
theorem od_ownR {C : Addr} {f : FD} {ns : List Str} {n : Int} (h : f [.ins C ns xs, .int n] Φ) : OpD K S (rOwnR C (spD K f)) (.int n) (.ins C ns xs) Φ := fun u w F H s dr h1 h2 Q q => by
  obtain ⟨a, dx, gs, rfl, h3, _⟩ := id h2
  cases h1
  exact ⟨a, dx, gs, n, rfl, rfl, s _ _ h3, S, F, [_, .int n], Φ, s, dr, ⟨_, _, rfl, h2, _, _, rfl, rfl, rfl⟩, h, q⟩
theorem od_ownin {C : Addr} {f : FD} {ns : List Str} (h : f [.ins C ns ys, x] fun z => isB z fun b => Φ (.bl b)) : OpD K S (rOwnIn C (spD K f)) x (.ins C ns ys) Φ := fun u w F H s dr h1 h2 Q q => by
  obtain ⟨a, dx, gs, rfl, h3, _⟩ := id h2
  exact ⟨a, dx, gs, rfl, s _ _ h3, S, F, [_, _], _, s, dr, ⟨_, _, rfl, h2, _, _, rfl, h1, rfl⟩, h, fun v d F' H' ⟨b, eb, hb⟩ dd g => by subst eb; cases dd; exact ⟨b, rfl, q _ _ F' H' hb rfl g⟩⟩
theorem cd_lenO {C : Addr} {f : FD} {ns : List Str} (h : f [.ins C ns ys] fun z => ∃ n : Nat, z = .int (n : Int) ∧ n < 1000000 ∧ Φ (.int (n : Int))) : CbD K S (rLenO C (spD K f)) [.ins C ns ys] Φ := fun us F H s dr h1 Q q => by
  obtain ⟨v, _, rfl, h2, e⟩ := h1
  cases e
  obtain ⟨a, dx, gs, rfl, h3, _⟩ := id h2
  exact ⟨a, dx, gs, rfl, s _ _ h3, S, F, _, _, s, dr, Dats.one h2, h, fun v d F' H' ⟨n, en, hn, hk⟩ dd g => by subst en; cases dd; exact ⟨n, rfl, hn, q _ _ F' H' hk rfl g⟩⟩
/-! ### new objects -/
abbrev FI := List D → (List Str → List D → Prop) → Prop
def less (H : Hp) (p : Addr) : Hp := fun b => if b = p then none else H b
/-- an __init__'s promise -/
def spI (K : PySem.W.Frag) (C : Addr) (f : FI) : Sp := fun vs H Q _ => ∃ S F p dx ws ds Φ, vs = .ref p :: ws ∧ H p = some (.ins C dx []) ∧ Prv S F p ∧ Same F H ∧ (DrI S F (less H p) ∧ DrS S F H) ∧ Dats K S F ds ws ∧ f ds Φ ∧
  ∀ ns es gs F' H', Φ ns es → H' p = some (.ins C dx gs) → gs.map Prod.fst = ns → Dats K S F' es (gs.map Prod.snd) → F' p = none → Ag S F (less H p) F' H' → Q .non H'
theorem ev_make {C : Addr} {f : FI} (h : EvA K S tr ρ fun xs => f xs fun ns es => Φ (.ins C ns es)) : EvD K S (tMake C (spI K C f) [] E0 tr) ρ Φ := fun σ F H e s dr Q q =>
  h σ F H e s dr _ fun vs xs F1 H1 hf dd g1 => by
    intro p dx np ndx nd
    have nS := g1.dr.ne np
    have nF : F1 p = none := g1.ok.free np
    rw [List.append_nil]
    have hL : less (upd (upd H1 dx (.own p)) p (.ins C dx [])) p = upd H1 dx (.own p) := by
      funext b
      show (if b = p then none else _) = _
      by_cases w : b = p
      · rw [if_pos w, w, upd_ne nd.symm, np]
      · rw [if_neg w, upd_ne w]
    have g0 : Ag S F1 H1 F1 (upd H1 dx (.own p)) := (Ag.refl g1.ok g1.dr).newH g1.dr ndx
    refine ⟨S, F1, p, dx, vs, xs, _, rfl, upd_same, ⟨nF, nS⟩, ?_, ⟨by rw [hL]; exact g0.dr, g0.st.new (by rw [upd_ne nd.symm]; exact np)⟩, dd, hf, fun ns es gs F' H' hΦ h1 h2 h3 h4 g2 => ⟨rfl, ?_⟩⟩
    · intro b o hb
      exact upd_old (upd_new (g1.ok _ _ hb) ndx) (ne_of_none hb nF)
    · rw [hL] at g2
      refine q (.ref p) (.ins C ns es) (upd F' p (.ins C dx gs)) H' hΦ ⟨p, dx, gs, rfl, upd_same, h2, Dats.mono (fun b o z => upd_new z h4) es h3⟩ (g1.trans ?_ dr)
      exact (g0.trans g2 g1.dr).frz g1.dr (.of np) h4 h1 fun s e => (nS s e).1
/-! ### bodies -/
def ini (N : List Str) (ds : List D) : List Sl := ds.map .val ++ List.replicate (N.length - ds.length) .un
theorem env_ini {F H : Hp} {N : List Str} {vs : List V} (hd : Dats K S F ds vs) : EnvOk K S F H (L2.start N vs) (ini N ds) := by
  have hl := hd.length
  have nm : ∀ (i : Nat) (s : Sl), (ini N ds)[i]? = some s → s.mine = true → False := by
    intro i s h m
    unfold ini at h
    rw [List.getElem?_append] at h
    split at h
    · rw [List.getElem?_map] at h
      cases e : ds[i]? with
      | none => rw [e] at h; cases h
      | some d => rw [e] at h; cases h; cases m
    · have := List.mem_of_getElem? h
      rw [(List.mem_replicate.mp this).2] at m
      cases m
  refine ⟨by unfold L2.start ini; rw [List.length_append, List.length_append, List.length_map, List.length_map, List.length_replicate, List.length_replicate, hl], fun i x s h1 h2 => ?_, fun i j s s' _ _ a n h1 _ m1 => (nm i s h1 m1).elim⟩
  unfold L2.start at h1
  unfold ini at h2
  by_cases q : i < ds.length
  · rw [List.getElem?_append_left (by rw [List.length_map]; omega), List.getElem?_map] at h1
    rw [List.getElem?_append_left (by rw [List.length_map]; omega), List.getElem?_map, List.getElem?_eq_getElem q] at h2
    cases h2
    obtain ⟨v, h3, h4⟩ := hd.get (List.getElem?_eq_getElem q)
    rw [h3] at h1
    cases h1
    exact ⟨v, rfl, h4⟩
  · rw [List.getElem?_append_right (by rw [List.length_map]; omega)] at h2
    rw [(List.mem_replicate.mp (List.mem_of_getElem? h2)).2]
    exact trivial
theorem own_ini {H0 : Hp} {N : List Str} {vs : List V} : OwnNew H0 (L2.start N vs) (ini N ds) := by
  intro i s _ a h m
  exfalso
  unfold ini at h
  rw [List.getElem?_append] at h
  split at h
  · rw [List.getElem?_map] at h
    cases e : ds[i]? with
    | none => rw [e] at h; cases h
    | some d => rw [e] at h; cases h; cases m
  · have := List.mem_of_getElem? h
    rw [(List.mem_replicate.mp this).2] at m
    cases m
/-- a def's body keeps its promise -/
theorem body_of {f : FD} {N : List Str} {vs : List V} {H : Hp} {Q : VK} {E : XK} (h : spD K f vs H Q E) (hb : ∀ S ds Φ, f ds Φ → ExD K S t (ini N ds) { nx := fun _ => Φ .non, rt := Φ }) : t { nx := fun _ H' => Q .non H', rt := Q } (L2.start N vs) H := by
  obtain ⟨S, F, ds, Φ, s, dr, hd, hf, q⟩ := h
  exact hb S ds Φ hf F H _ F H (env_ini hd) own_ini (Ag.refl s dr) dr _ ⟨fun σ ρ F' H' h1 _ _ a => q .non .non F' H' h1 rfl a, fun v d F' H' h1 h2 a => q v d F' H' h1 h2 a, fun _ _ _ _ h => h.elim, fun _ _ _ _ h => h.elim, fun _ _ _ _ _ h => h.elim, fun _ _ _ _ _ h => h.elim⟩
def iniS (N : List Str) (p dx C : Addr) (ds : List D) : List Sl := .slf p dx C [] [] :: (ds.map .val ++ List.replicate (N.length - (ds.length + 1)) .un)
theorem body_initS {C p dx : Addr} {N : List Str} {ws : List V} {F H : Hp} {Q : VK} {Φ : List Str → List D → Prop} (hp : H p = some (.ins C dx [])) (pv : Prv S F p) (s : Same F H) (dr : DrI S F (less H p) ∧ DrS S F H) (hd : Dats K S F ds ws)
    (q : ∀ ns es gs F' H', Φ ns es → H' p = some (.ins C dx gs) → gs.map Prod.fst = ns → Dats K S F' es (gs.map Prod.snd) → F' p = none → Ag S F (less H p) F' H' → Q .non H')
    (hb : ExD K S t (iniS N p dx C ds) { nx := fun ρ => ∃ ns es, ρ[0]? = some (.slf p dx C ns es) ∧ Φ ns es, rt := fun _ => False }) : t { nx := fun _ H' => Q .non H', rt := Q } (L2.start N (.ref p :: ws)) H := by
  obtain ⟨pF, pS⟩ := pv
  have hl := hd.length
  have e0 := env_ini (H := H) (N := N.drop 1) hd
  have hst : L2.start N (.ref p :: ws) = some (.ref p) :: L2.start (N.drop 1) ws := by
    unfold L2.start
    rw [List.map_cons, List.cons_append, List.length_cons, List.length_drop]
    congr 3
    omega
  have hin : iniS N p dx C ds = .slf p dx C [] [] :: ini (N.drop 1) ds := by
    unfold iniS ini
    rw [List.length_drop]
    congr 3
    omega
  have nm : ∀ (i : Nat) (s : Sl), (ini (N.drop 1) ds)[i]? = some s → s.held = true → False := by
    intro i s h m
    unfold ini at h
    rw [List.getElem?_append] at h
    split at h
    · rw [List.getElem?_map] at h
      cases e : ds[i]? with
      | none => rw [e] at h; cases h
      | some d => rw [e] at h; cases h; cases m
    · have := List.mem_of_getElem? h
      rw [(List.mem_replicate.mp this).2] at m
      cases m
  have hless : less H p p = none := if_pos rfl
  refine hb F (less H p) _ F H ?_ ?_ (Ag0.up ⟨Same.refl F, s, fun b o n z t => ?_, fun b z => .inl z, dr.2⟩ dr.1) dr.1 _ ⟨?_, fun _ _ _ _ h => h.elim, fun _ _ _ _ h => h.elim, fun _ _ _ _ h => h.elim, fun _ _ _ _ _ h => h.elim, fun _ _ _ _ _ h => h.elim⟩
  · rw [hst, hin]
    refine ⟨by rw [List.length_cons, List.length_cons, e0.len], fun i x s h1 h2 => ?_, fun i j s s' x x' a n h1 h2 m1 h3 h4 l1 l2 => ?_⟩
    · cases i with
      | zero =>
        cases h1; cases h2
        exact ⟨[], rfl, ⟨pF, pS⟩, hp, rfl, rfl⟩
      | succ i => exact e0.ok i x s (by simpa using h1) (by simpa using h2)
    · cases i with
      | zero =>
        cases j with
        | zero => exact n rfl
        | succ j => exact nm j s' (by simpa using h2) (Sl.lh l2)
      | succ i => exact nm i s (by simpa using h1) (Sl.mh m1)
  · rw [hst, hin]
    intro i s x a h m h2 l
    cases i with
    | zero => cases h; cases h2; cases l; exact .of hless
    | succ i => exact (nm i s (by simpa using h) (Sl.mh m)).elim
  · have z' : (if b = p then none else H b) = some o := z
    by_cases w : b = p
    · rw [if_pos w] at z'; cases z'
    · rw [if_neg w] at z'; exact z'
  · rintro σ ρ F' H' ⟨ns, es, hρ, hΦ⟩ e' o' a'
    obtain ⟨gs, h1, ⟨nF, _⟩, h2, h3, h4⟩ := e'.slf hρ
    exact q ns es gs F' H' hΦ h2 h3 h4 nF a'
theorem body_init {C : Addr} {f : FI} {N : List Str} {vs : List V} {H : Hp} {Q : VK} {E : XK} (h : spI K C f vs H Q E) (hb : ∀ S p dx ds Φ, f ds Φ → ExD K S t (iniS N p dx C ds) { nx := fun ρ => ∃ ns es, ρ[0]? = some (.slf p dx C ns es) ∧ Φ ns es, rt := fun _ => False }) : t { nx := fun _ H' => Q .non H', rt := Q } (L2.start N vs) H := by
  obtain ⟨S, F, p, dx, ws, ds, Φ, rfl, hp, pv, s, dr, hd, hf, q⟩ := h
  exact body_initS hp pv s dr hd q (hb S p dx ds Φ hf)
/-! ### new lists as answers -/
abbrev FN := List D → (List D → Prop) → Prop
/-- the answer is a new list of one's own -/
def spN (K : PySem.W.Frag) (f : FN) : Sp := fun vs H Q _ => ∃ S F ds Φ, Same F H ∧ DrI S F H ∧ Dats K S F ds vs ∧ f ds Φ ∧ ∀ a us es F' H', Φ es → Nt H a → F' a = none → H' a = some (.lst us) → Dats K S F' es us → Ag S F H F' H' → Q (.ref a) H'
theorem body_ofN {f : FN} {N : List Str} {vs : List V} {H : Hp} {Q : VK} {E : XK} (h : spN K f vs H Q E) (hb : ∀ S ds Φ, f ds Φ → ExD K S t (ini N ds) { nx := fun _ => False, rt := fun _ => False, ro := Φ }) : t { nx := fun _ H' => Q .non H', rt := Q } (L2.start N vs) H := by
  obtain ⟨S, F, ds, Φ, s, dr, hd, hf, q⟩ := h
  exact hb S ds Φ hf F H _ F H (env_ini hd) own_ini (Ag.refl s dr) dr _ ⟨fun _ _ _ _ h => h.elim, fun _ _ _ _ h => h.elim, fun _ _ _ _ h => h.elim, fun _ _ _ _ h => h.elim, fun a us es F' H' h1 h2 h3 h4 h5 g => q a us es F' H' h1 h2 h3 h4 h5 g, fun _ _ _ _ _ h => h.elim⟩
theorem evN_meth {C : Addr} {m : Str} {f : FN} (h : EvD K S te ρ fun x => insD C m x ∧ EvA K S tr ρ fun xs => f (x :: xs) Ψ) : EvN K S (tMeth C m (spN K f) [] E0 te tr) ρ Ψ := fun σ F H e s dr Q q =>
  h σ F H e s dr _ fun v x F1 H1 ⟨⟨ns, ds, hx, hm⟩, hA⟩ dd g1 => by
    subst hx
    obtain ⟨a, dx, gs, rfl, h3, h4, h5⟩ := id dd
    refine ⟨a, dx, gs, rfl, g1.ok _ _ h3, lookup_no (by rw [h4]; exact hm), hA σ F1 H1 (e.ag g1) g1.ok g1.dr _ fun vs xs F2 H2 hf dd2 g2 => ?_⟩
    rw [List.append_nil]
    exact ⟨S, F2, .ins C ns ds :: xs, Ψ, g2.ok, g2.dr, ⟨_, _, rfl, Dat.mono g2.fs _ dd, dd2⟩, hf, fun a us es F' H' h1 h2 h3 h4 h5 g3 => q a us es F' H' h1 ((g1.trans g2 dr).backN h2) h3 h4 h5 ((g1.trans g2 dr).trans g3 dr)⟩
end
end
/-! More rules at the level of data: isinstance, slices, max and min, equality; the draws. -/
section
set_option maxRecDepth 100000
set_option maxHeartbeats 2000000
/-- what isinstance asks of an own class -/
structure ClT (K : PySem.W.Frag) (C : Addr) : Prop where
  cl : Cls K C
  ca : PySem.W.findIn K (.ref C) "__class__" = some (some (.builtin "object.__class__"))
  cn : PySem.W.specialIn K (.builtin "object.__class__") "__get__" = some (some (.builtin "getset_descriptor.__get__"))
  ct : PySem.W.takesIn K (.builtin "object.__class__") = some true
  cm : PySem.W.mroIn K C (.type "object") = some true
inductive TyD (K : PySem.W.Frag) : D → Value → Prop
  | non : TyD K .non (.type "NoneType")
  | bl {b : Bool} : TyD K (.bl b) (.type "bool")
  | int {n : Int} : TyD K (.int n) (.type "int")
  | str {s : Str} : TyD K (.str s) (.type "str")
  | lst {ds : List D} : TyD K (.lst ds) (.type "list")
  | tup {ds : List D} : TyD K (.tup ds) (.type "tuple")
  | dk {ks : List Key} {ds : List D} : TyD K (.dk ks ds) (.type "dict")
  | ins {C : Addr} {ns : List Str} {ds : List D} (h : ClT K C) : TyD K (.ins C ns ds) (.ref C)
  | pin {a : Addr} {d : D} {t : Value} (h : TyD K d t) : TyD K (.pin a d) t
theorem kit_same {K : PySem.W.Frag} {t : Value} : PySem.W.kitOne K t t = some true := by
  unfold PySem.W.kitOne
  rw [if_pos (beq_self_eq_true t)]
section
variable {K : PySem.W.Frag} {S : Sx} {ρ : List Sl} {Φ : D → Prop} {Ψ : List D → Prop} {Χ : Bool → Prop} {O : Oc} {ta tb tc te : TE} {tr : TA} {tt tu : TT} {t u : TS} {g : TG} {gs : TGs} {wi : TI} {r : R2} {L : Nat → Prop} {Θ : List Sl → Prop} {i j : Nat} {d x y : D} {ds xs ys : List D}
theorem ex_ifB (h : EvT K S.nw tt (frzE ρ) fun b => if b = true then ExD K S t ρ O else ExD K S u ρ O) : ExD K S (tIfS tt t u) ρ O := ex_if (et_bor h)
theorem TyD.ty {F H : Hp} {v : V} {t : Value} (h : TyD K d t) (hd : Dat K S F d v) (s : Same F H) : TyX K H v t := by
  induction h with
  | non => cases hd; exact .base .non
  | bl => cases hd; exact .base (.bl _)
  | int => cases hd; exact .base (.int _)
  | str => cases hd; exact .base (.str _)
  | lst => obtain ⟨a, vs, rfl, h1, _⟩ := hd; exact .base (.lst (s _ _ h1))
  | tup =>
    obtain ⟨a, vs, rfl, h1, _⟩ := hd
    rcases st_sm s h1 with (h | ⟨o, h⟩) | ⟨o, its, n, h, c, _⟩
    · exact .base (.tup h)
    · exact .fTuple h
    · exact .kTuple h c
  | dk => obtain ⟨a, kvs, rfl, h1, _⟩ := hd; exact .base (.dK (s _ _ h1))
  | pin _ ih => exact ih hd.2
  | ins c => obtain ⟨a, dx, gs, rfl, h1, _⟩ := hd; exact .base (.ins (s _ _ h1) c.cl c.ca c.cn c.ct c.cm)
theorem cd_isi {n : String} {t : Value} {b : Bool} (ht : TyD K x t) (hk : PySem.W.kitOne K t (.type n) = some b) (k : Φ (.bl b)) : CbD K S (rIsi K) [x, .raw (.ty n)] Φ := fun us F H s dr h1 Q q => by
  obtain ⟨v, _, rfl, h2, w, _, rfl, h3, e⟩ := h1
  cases e; cases h3
  exact k_isi (ht.ty h2 s) hk (q _ _ F H k rfl (Ag.refl s dr))
theorem cd_isiO {C : Addr} {t : Value} {b : Bool} (ht : TyD K x t) (hk : PySem.W.kitOne K t (.ref C) = some b) (k : Φ (.bl b)) : CbD K S (rIsi K) [x, .raw (.ref C)] Φ := fun us F H s dr h1 Q q => by
  obtain ⟨v, _, rfl, h2, w, _, rfl, h3, e⟩ := h1
  cases e; cases h3
  exact k_isiO (ht.ty h2 s) hk (q _ _ F H k rfl (Ag.refl s dr))
def is2 (K : PySem.W.Frag) (n m : String) (x : D) (Χ : Bool → Prop) : Prop := ∃ t b1 b2, TyD K x t ∧ PySem.W.kitOne K t (.type n) = some b1 ∧ PySem.W.kitOne K t (.type m) = some b2 ∧ Χ (b1 || b2)
theorem ev_isi2 {n m : String} (h : EvD K S te ρ fun x => is2 K n m x fun b => Φ (.bl b)) : EvD K S (tCB (rIsiT K) (tCons te (tCons (tTup (tCons (tC (.ty n)) (tCons (tC (.ty m)) tNil))) tNil))) ρ Φ := fun σ F H e s dr Q q =>
  h σ F H e s dr _ fun v x F1 H1 ⟨t, b1, b2, h1, h2, h3, h4⟩ dd g1 => by
    refine ⟨Nat.le_of_ble_eq_true rfl, fun p np => ?_⟩
    exact k_isi2 rfl upd_same (ty_new (h1.ty dd g1.ok) np) h2 h3 (q _ _ F1 _ h4 rfl (g1.newH dr np))
theorem cd_mx {a b : Int} (k : Φ (.int (max a b))) : CbD K S rMx [.int a, .int b] Φ := fun us F H s dr h1 Q q => by
  obtain ⟨v, _, rfl, h2, w, _, rfl, h3, e⟩ := h1
  cases e; cases h2; cases h3
  exact k_mx (q _ _ F H k rfl (Ag.refl s dr))
theorem cd_mn {a b : Int} (k : Φ (.int (min a b))) : CbD K S rMn [.int a, .int b] Φ := fun us F H s dr h1 Q q => by
  obtain ⟨v, _, rfl, h2, w, _, rfl, h3, e⟩ := h1
  cases e; cases h2; cases h3
  exact k_mn (q _ _ F H k rfl (Ag.refl s dr))
/-! ### slices -/
def EvO (K : PySem.W.Frag) (S : Sx) (to : TO) (ρ : List Sl) (Ω : Option Int → Prop) : Prop := ∀ (σ : L2.St) (F H : Hp), EnvOk K S F H σ ρ → Same F H → DrI S F H → ∀ Q : Option Int → Hp → Prop, (∀ o F' H', Ω o → Ag S F H F' H' → Q o H') → to σ H Q
theorem eo_no {Ω : Option Int → Prop} (k : Ω none) : EvO K S tNoPart ρ Ω := fun σ F H e s dr Q q => q none F H k (Ag.refl s dr)
theorem eo_part {Ω : Option Int → Prop} (h : EvD K S te ρ fun x => ∃ n, x = .int n ∧ Ω (some n)) : EvO K S (tPart te) ρ Ω := fun σ F H e s dr Q q =>
  h σ F H e s dr _ fun v x F1 H1 ⟨n, hx, k⟩ dd g1 => by subst hx; cases dd; exact ⟨n, rfl, q _ F1 H1 k g1⟩
def cutD (xs : List D) (lo hi : Option Int) : List D := (xs.drop (HT.sIx xs.length 0 lo)).take (HT.sIx xs.length xs.length hi - HT.sIx xs.length 0 lo)
theorem Dats.cut {F : Hp} {vs : List V} (h : Dats K S F xs vs) (lo hi : Option Int) : Dats K S F (cutD xs lo hi) (cutV vs lo hi) := by
  unfold cutD cutV
  rw [h.length]
  exact (h.drop _).take _
theorem evN_sl {tl th : TO} (h : EvD K S te ρ fun x => ∃ xs, x = .lst xs ∧ EvO K S tl ρ fun lo => EvO K S th ρ fun hi => Ψ (cutD xs lo hi)) : EvN K S (tSl (rSlL K) te tl th) ρ Ψ := fun σ F H e s dr Q q =>
  h σ F H e s dr _ fun v x F1 H1 ⟨xs, hx, hl⟩ dd g1 => by
    subst hx
    refine hl σ F1 H1 (e.ag g1) g1.ok g1.dr _ fun lo F2 H2 h2 g2 => h2 σ F2 H2 ((e.ag g1).ag g2) g2.ok g2.dr _ fun hi F3 H3 h3 g3 => ?_
    obtain ⟨a, vs, rfl, h4, h5⟩ := Dat.mono (g2.fs.trans g3.fs) _ dd
    have g := (g1.trans g2 dr).trans g3 dr
    exact k_sll (sl_of (g.ok _ _ h4)) fun p np => q p _ _ F3 _ h3 (g.back np) (g.ok.free np) upd_same (h5.cut lo hi) (g.newH dr np)
theorem ev_slT {tl th : TO} (h : EvD K S te ρ fun x => ∃ xs, x = .tup xs ∧ EvO K S tl ρ fun lo => EvO K S th ρ fun hi => Φ (.tup (cutD xs lo hi))) : EvD K S (tSl (rSlA K) te tl th) ρ Φ := fun σ F H e s dr Q q =>
  h σ F H e s dr _ fun v x F1 H1 ⟨xs, hx, hl⟩ dd g1 => by
    subst hx
    refine hl σ F1 H1 (e.ag g1) g1.ok g1.dr _ fun lo F2 H2 h2 g2 => h2 σ F2 H2 ((e.ag g1).ag g2) g2.ok g2.dr _ fun hi F3 H3 h3 g3 => ?_
    obtain ⟨a, vs, rfl, h4, h5⟩ := Dat.mono (g2.fs.trans g3.fs) _ dd
    have g := (g1.trans g2 dr).trans g3 dr
    refine ⟨a, vs, rfl, st_sm g.ok h4, fun hw => ?_, fun hw p np => ?_⟩
    · refine q (.ref a) _ F3 H3 h3 ⟨a, vs, rfl, h4, ?_⟩ g
      have e2 : cutD xs lo hi = xs := by
        unfold cutD
        rw [h5.length] at hw
        rw [hw.1, hw.2, List.drop_zero, Nat.sub_zero, List.take_length]
      rw [e2]
      exact h5
    · have nF : F3 p = none := g.ok.free np
      exact q _ (.tup (cutD xs lo hi)) _ _ h3 ⟨p, _, rfl, st_of upd_same, Dats.mono (fun b w z => upd_new z nF) _ (h5.cut lo hi)⟩ (g.newF dr np)
/-! ### == of data -/
mutual
def D.py : D → PyData
  | .bl b => .bool b
  | .int i => .int i
  | .str s => .str s
  | .tup ds => .tuple (D.pys ds)
  | .lst ds => .list (D.pys ds)
  | _ => .none
def D.pys : List D → List PyData
  | [] => []
  | d :: ds => D.py d :: D.pys ds
end
mutual
def D.plain : D → Bool
  | .non => true
  | .bl _ => true
  | .int _ => true
  | .str _ => true
  | .tup ds => D.plains ds
  | .lst ds => D.plains ds
  | _ => false
def D.plains : List D → Bool
  | [] => true
  | d :: ds => D.plain d && D.plains ds
end
mutual
theorem Dat.dp {F H : Hp} (s : Same F H) : ∀ (d : D) {v : V}, D.plain d = true → Dat K S F d v → Dp K H v (D.py d)
  | .non, _, _, h => by cases h; exact .non
  | .bl b, _, _, h => by cases h; exact .bl b
  | .int b, _, _, h => by cases h; exact .int b
  | .str b, _, _, h => by cases h; exact .str b
  | .tup ds, _, p, ⟨a, vs, e, h1, h2⟩ => by subst e; exact .tup (st_sm s h1) (Dats.dp s ds p h2)
  | .lst ds, _, p, ⟨a, vs, e, h1, h2⟩ => by subst e; exact .lst (sl_of (s _ _ h1)) (Dats.dp s ds p h2)
  | .raw _, _, p, _ => by cases p
  | .drw, _, p, _ => by cases p
  | .ins _ _ _, _, p, _ => by cases p
theorem Dats.dp {F H : Hp} (s : Same F H) : ∀ (ds : List D) {vs : List V}, D.plains ds = true → Dats K S F ds vs → DpAll K H vs (D.pys ds)
  | [], _, _, h => by rw [show _ = [] from h]; exact .nil
  | d :: ds, _, p, ⟨v, us, e, h1, h2⟩ => by
    subst e
    have p' : (D.plain d && D.plains ds) = true := p
    rw [Bool.and_eq_true] at p'
    exact .cons (Dat.dp s d p'.1 h1) (Dats.dp s ds p'.2 h2)
end
theorem od_eqD (h1 : x.plain = true) (h2 : y.plain = true) (h3 : SeqAt.shaped x.py = true) (h4 : SeqAt.shaped y.py = true) (k : Φ (.bl (PyData.eqv x.py y.py))) : OpD K S (rEqD K) x y Φ := fun u w F H s dr hx hy Q q =>
  ⟨_, _, Dat.dp s x h1 hx, Dat.dp s y h2 hy, h3, h4, q _ _ F H k rfl (Ag.refl s dr)⟩
end
/-! ### the draws -/
def fTake : FD := fun ds Φ => ∃ m : Int, ds = [.drw, .int m] ∧ 1 ≤ m ∧ m < 1073741824 ∧ ∀ d : Nat, (d : Int) < m → Φ (.int (d : Int))
def fOne : FD := fun ds Φ => ∃ (x : D) (xs : List D), ds = [.drw, x] ∧ (x = .lst xs ∨ x = .tup xs) ∧ 0 < xs.length ∧ xs.length < 1000000 ∧ ∀ d, d ∈ xs → Φ d
section
variable {K : PySem.W.Frag} {P : Program} {w : World} {mg : Str → Option Value} {base : Heap}
theorem ag_draw {F H H' : Hp} {S : Sx} {s : Ds} (e : S.ds = some s) (h : Same F H) (d : DrI S F H) (f : Fr s.st H H') (d' : Dr H' s) (hb : LamX.Tabs S.tb H') : Ag S F H F H' :=
  Ag0.up ⟨Same.refl F, fun b o q => f b o (ne_of_none q (d.1.1 s e).2) (h b o q), fun b o n q _ => f b o (n s e) q, fun _ q => .inl q, ⟨fun z ez => by rw [e] at ez; cases ez; exact ⟨d', (d.1.1 s e).2⟩, hb, d.1.2.2⟩⟩ d
theorem tabs_fr {T : List (Addr × Str)} {H H' : Hp} {s : Ds} (t : LamX.Tabs T H) (d : Dr H s) (f : Fr s.st H H') : LamX.Tabs T H' := fun p hp => by
  obtain ⟨ps, h1, h2, h3⟩ := t p hp
  obtain ⟨n, r, b, cells, e1, _⟩ := d
  have n1 : p.1 ≠ s.st := fun z => by rw [z, e1] at h1; cases h1
  refine ⟨ps, f _ _ n1 h1, h2, fun pos cv hc => ?_⟩
  obtain ⟨c, e2, e3⟩ := h3 pos cv hc
  have n2 : c ≠ s.st := fun z => by rw [z, e1] at e3; cases e3
  exact ⟨c, e2, f _ _ n2 e3⟩
theorem sp_take {vs : List V} {H : Hp} {Q : VK} {E : XK} (h : spD K fTake vs H Q E) : spTake vs H Q E := by
  obtain ⟨S, F, ds, Φ, s, dr, hd, ⟨m, rfl, h1, h2, h3⟩, q⟩ := h
  obtain ⟨v, _, rfl, ⟨z, ez, rfl⟩, v2, _, rfl, h5, e⟩ := hd
  cases e; cases h5
  have dz := (dr.1.1 z ez).1
  exact ⟨z, m, rfl, dz, h1, h2, fun d H' hd f d' => q _ _ F H' (h3 d hd) rfl (ag_draw ez s dr f d' (tabs_fr dr.1.2.1 dz f))⟩
theorem Cal.take (C : Cal P w K mg base 2 "_law_take" ["_law_state", "_law_many"] spTake) : Cal P w K mg base 2 "_law_take" ["_law_state", "_law_many"] (spD K fTake) := C.imp (Nat.le_refl _) fun vs H Q E h => sp_take h
end
end
/-! Defs by their promises at the level of data. -/
section
set_option maxRecDepth 100000
set_option maxHeartbeats 2000000
open PySem PySem.Spec PyProof.Rows L2
section
variable {P : Program} {w : World} {K : PySem.W.Frag} {mg : Str → Option Value} {base : Heap}
section
variable {S : Sx} {ρ : List Sl} {Ψ : List D → Prop} {te : TE} {tt : TT} {g : TG} {vs : List Nat}
/-- a comprehension over things of a list, each answered by F -/
theorem lc_f {α : Type} {its : List D} (l : List α) (emb : α → D) (F : α → Option D) (hi : its = l.map emb) (hl : l.length < 100000)
    (h : ∀ x, x ∈ l → TgD K S g (· ∈ vs) (emb x) (wipeS ρ vs) fun ρ2 => EvT K S tt ρ2 fun b => if b = true then EvD K S te ρ2 fun y => F x = some y else F x = none) (k : Ψ (l.filterMap F)) :
    ∃ I : Nat → List D → Prop, I 0 [] ∧ (∀ i d acc, its[i]? = some d → I i acc → acc.length < 100000 ∧ TgD K S g (· ∈ vs) d (wipeS ρ vs) fun ρ2 => EvT K S tt ρ2 fun b => if b = true then EvD K S te ρ2 fun y => I (i + 1) (acc ++ [y]) else I (i + 1) acc) ∧ ∀ acc, I its.length acc → Ψ acc := by
  subst hi
  refine ⟨fun i acc => acc = (l.take i).filterMap F, rfl, ?_, ?_⟩
  · rintro i d acc hd rfl
    rw [List.getElem?_map] at hd
    cases e : l[i]? with
    | none => rw [e] at hd; cases hd
    | some x =>
      rw [e] at hd
      cases hd
      refine ⟨?_, ?_⟩
      · have h1 := List.length_filterMap_le F (l.take i)
        have h2 := List.length_take_le' i l
        omega
      · have e2 : (l.take (i + 1)).filterMap F = (l.take i).filterMap F ++ (F x).toList := by
          rw [List.take_add_one, e, List.filterMap_append]
          cases q : F x <;> simp [q]
        intro v σ F' H' en dd s N q
        refine h x (List.mem_of_getElem? e) v σ F' H' en dd s N fun σ' ρ' ht => q σ' ρ' (ht.imp fun b hb => ?_)
        cases b with
        | true => exact EvD.imp hb fun y hy => by rw [hy] at e2; exact e2.symm
        | false =>
          have hb' : F x = none := hb
          rw [hb'] at e2
          show (l.take i).filterMap F = (l.take (i + 1)).filterMap F
          rw [e2]
          exact (List.append_nil _).symm
  · rintro acc rfl
    rw [List.length_map, List.take_length]
    exact k
theorem lc_m {α : Type} {its : List D} (l : List α) (emb : α → D) (F : α → D) (hi : its = l.map emb) (hl : l.length < 100000)
    (h : ∀ x, x ∈ l → TgD K S g (· ∈ vs) (emb x) (wipeS ρ vs) fun ρ2 => EvD K S te ρ2 fun y => y = F x) (k : Ψ (l.map F)) :
    ∃ I : Nat → List D → Prop, I 0 [] ∧ (∀ i d acc, its[i]? = some d → I i acc → acc.length < 100000 ∧ TgD K S g (· ∈ vs) d (wipeS ρ vs) fun ρ2 => EvT K S tYes ρ2 fun b => if b = true then EvD K S te ρ2 fun y => I (i + 1) (acc ++ [y]) else I (i + 1) acc) ∧ ∀ acc, I its.length acc → Ψ acc := by
  refine lc_f l emb (fun x => some (F x)) hi hl (fun x hx => ?_) (by rw [List.filterMap_eq_map']; exact k)
  intro v σ F' H' en dd s N q
  exact h x hx v σ F' H' en dd s N fun σ' ρ' ht => q σ' ρ' (et_yes (iteT (ht.imp fun y hy => by rw [hy])))
end
/-- xs[n:] -/
theorem cutD_from (xs : List D) (n : Nat) : cutD xs (some (n : Int)) none = xs.drop n := by
  unfold cutD
  rw [HT.sIx_none, HT.sIx_nat]
  by_cases h : n ≤ xs.length
  · rw [Nat.min_eq_left h, List.take_of_length_le]
    rw [List.length_drop]
    exact Nat.le_refl _
  · rw [Nat.min_eq_right (by omega), List.drop_length, List.drop_eq_nil_of_le (by omega), List.take_nil]
/-- xs[:n] -/
theorem cutD_to (xs : List D) (n : Nat) : cutD xs none (some (n : Int)) = xs.take n := by
  unfold cutD
  rw [HT.sIx_none, HT.sIx_nat, List.drop_zero, Nat.sub_zero]
  by_cases h : n ≤ xs.length
  · rw [Nat.min_eq_left h]
  · rw [Nat.min_eq_right (by omega), List.take_length, List.take_of_length_le (by omega)]
/-- behind the first statement of a law: a new state of draws, nothing frozen -/
def Sx.of (s : Ds) (T : List (Addr × Str)) : Sx := ⟨some s, T, fun _ _ => True⟩
theorem ex_start {t : TS} {S : Ds} {T : List (Addr × Str)} {x : V} {n : Nat} {H : Hp} {Q : VK} (d : Dr H S) (hT : LamX.Tabs T H) (h : ExD K (Sx.of S T) t (.un :: .val .drw :: List.replicate n .un) { nx := fun _ => False, rt := fun d => d = .bl true }) (k : ∀ H', Q (.bl true) H') : t { nx := fun _ H' => Q .non H', rt := Q } (some x :: some (.ref S.st) :: List.replicate n none) H := by
  have dr : DrI (Sx.of S T) (fun _ => none) H := ⟨⟨fun s e => by cases e; exact ⟨d, rfl⟩, hT, fun b o e => by cases e⟩, fun _ _ _ => trivial⟩
  have sm : Same (fun _ => none) H := fun b o e => by cases e
  have nm : ∀ (i : Nat) (s : Sl), (Sl.un :: Sl.val .drw :: List.replicate n Sl.un)[i]? = some s → s.held = true → False := by
    intro i s h m
    match i with
    | 0 => cases h; cases m
    | 1 => cases h; cases m
    | i + 2 =>
      have h' : (List.replicate n Sl.un)[i]? = some s := by simpa using h
      rw [(List.mem_replicate.mp (List.mem_of_getElem? h')).2] at m
      cases m
  refine h (fun _ => none) H _ (fun _ => none) H ⟨by simp, fun i y s h1 h2 => ?_, fun i j s s' _ _ a n h1 h2 m1 _ _ _ _ => nm i s h1 (Sl.mh m1)⟩ (fun i s _ a h1 m => (nm i s h1 (Sl.mh m)).elim) (Ag.refl sm dr) dr _ ⟨fun _ _ _ _ h => h.elim, fun v d F' H' h1 h2 a => ?_, fun _ _ _ _ h => h.elim, fun _ _ _ _ h => h.elim, fun _ _ _ _ _ h => h.elim, fun _ _ _ _ _ h => h.elim⟩
  · match i with
    | 0 => cases h2; exact trivial
    | 1 => cases h1; cases h2; exact ⟨_, rfl, S, rfl, rfl⟩
    | i + 2 =>
      have h' : (List.replicate n Sl.un)[i]? = some s := by simpa using h2
      rw [(List.mem_replicate.mp (List.mem_of_getElem? h')).2]
      exact trivial
  · have h1' : d = .bl true := h1
    subst h1'
    cases h2
    exact k H'
def spLaw (K : PySem.W.Frag) : Sp := fun vs H Q _ => ∃ (a : Addr) (ns : List Int), vs = [.ref a] ∧ SqL K H a (ns.map V.int) ∧ ns.length ≤ 63 ∧ ∀ H', Q (.bl true) H'
/-- the law's promise, with tables of code objects -/
def spLawT (K : PySem.W.Frag) (T : List (Addr × Str)) : Sp := fun vs H Q _ => ∃ (a : Addr) (ns : List Int), vs = [.ref a] ∧ SqL K H a (ns.map V.int) ∧ ns.length ≤ 63 ∧ LamX.Tabs T H ∧ ∀ H', Q (.bl true) H'
/-- the law itself, behind its state of draws -/
theorem law_ofT {st : Stmt} {N : List Str} {k : Nat} {f : Addr} {fd : FuncData} {T : List (Addr × Str)} (F : FunD K "law" "law" (defArgs st) (defBody st) (defScope st) [] [] f fd) (S : FnScope N ["_law_script"] (defScope st)) (n : Nat) (hn : N.length = n + 2)
    (hbody : ∀ (f : Addr) (cdv : Value) (A : Around) (outer : List Env) (s : Shared) (H : Hp), Room k (A.deeper (envOfC "law" (defScope st) s.heap.objs.size f cdv)) →
      ∃ t, PSs (cxR P w K mg base N "law" (defScope st) f cdv A outer s H) (defBody st) (tSeq (tAsg (tCall (spFresh K) [] E0 (tCons (tVar 0) tNil)) (gName 1)) t) ∧ ∀ S : Sx, S.tb = T → ExD K S t (.un :: .val .drw :: List.replicate n .un) { nx := fun _ => False, rt := fun d => d = .bl true }) :
    FnOk P w K mg base CX0 (k + 1) f fd ["_law_script"] (spLawT K T) := by
  refine F.ok S (fun vs H Q E h => by obtain ⟨_, _, rfl, _⟩ := h; rfl) fun cdv A outer s H vs Q E hr h => ?_
  obtain ⟨t, h1, h2⟩ := hbody f cdv A outer s H hr
  refine ⟨_, PSs.nox h1, ?_⟩
  obtain ⟨a, ns, rfl, hS, hl, hT, k⟩ := h
  have e : L2.start N [V.ref a] = some (.ref a) :: none :: List.replicate n none := by
    unfold L2.start
    rw [hn]
    rfl
  rw [e]
  refine k_seq (k_set (k_call (k_cons (k_var rfl (k_nil ?_)))))
  exact ⟨a, ns, rfl, hS, hl, fun S H1 sm _ _ d => ex_start d (hT.ext sm) (h2 (.of S T) rfl) k⟩
theorem law_of {st : Stmt} {N : List Str} {k : Nat} {f : Addr} {fd : FuncData} (F : FunD K "law" "law" (defArgs st) (defBody st) (defScope st) [] [] f fd) (S : FnScope N ["_law_script"] (defScope st)) (n : Nat) (hn : N.length = n + 2)
    (hbody : ∀ (f : Addr) (cdv : Value) (A : Around) (outer : List Env) (s : Shared) (H : Hp), Room k (A.deeper (envOfC "law" (defScope st) s.heap.objs.size f cdv)) →
      ∃ t, PSs (cxR P w K mg base N "law" (defScope st) f cdv A outer s H) (defBody st) (tSeq (tAsg (tCall (spFresh K) [] E0 (tCons (tVar 0) tNil)) (gName 1)) t) ∧ ∀ S : Sx, ExD K S t (.un :: .val .drw :: List.replicate n .un) { nx := fun _ => False, rt := fun d => d = .bl true }) :
    FnOk P w K mg base CX0 (k + 1) f fd ["_law_script"] (spLaw K) :=
  (law_ofT (T := []) F S n hn fun f cdv A outer s H hr => by
    obtain ⟨t, h1, h2⟩ := hbody f cdv A outer s H hr
    exact ⟨t, h1, fun S _ => h2 S⟩).imp fun vs H Q E h => by
      obtain ⟨a, ns, e, h1, h2, h3⟩ := h
      exact ⟨a, ns, e, h1, h2, (fun p hp => nomatch hp), h3⟩
theorem Cal.ofD {x : Str} {st : Stmt} {N ps : List Str} {k : Nat} {f : FD} (D : Def K mg x st) (S : FnScope N ps (defScope st))
    (hb : ∀ (kV doc pm : Value) (an : Option Addr) (cdv ct : Value) (us : List Value), us.length = ps.length → bindArgs (PySem.W.fnOf x x (defArgs st) (defBody st) (defScope st) .none kV doc pm an cdv ct) ⟨us, []⟩ = pure (ps.zip us))
    (len : ∀ ds Φ, f ds Φ → ds.length = ps.length)
    (hbody : ∀ (fa : Addr) (cdv : Value) (A : Around) (outer : List Env) (s : Shared) (H : Hp), Room k (A.deeper (envOfC x (defScope st) s.heap.objs.size fa cdv)) →
      ∃ t, PSs (cxR P w K mg base N x (defScope st) fa cdv A outer s H) (defBody st) t ∧ ∀ S ds Φ, f ds Φ → ExD K S t (ini N ds) { nx := fun _ => Φ .non, rt := Φ }) : Cal P w K mg base (k + 1) x ps (spD K f) := by
  refine Cal.of D S hb (fun vs H Q E h => ?_) (fun fa cdv A outer s H vs Q E hr h => ?_)
  · obtain ⟨_, _, ds, Φ, _, _, hd, hf, _⟩ := h
    rw [hd.length]
    exact len ds Φ hf
  · obtain ⟨t, h1, h2⟩ := hbody fa cdv A outer s H hr
    exact ⟨t, h1, body_of h h2⟩
theorem CalM.ofD {C : Addr} {m q : Str} {st : Stmt} {N ps : List Str} {k : Nat} {f : FD} (D : DefM K C m q st) (S : FnScope N ps (defScope st))
    (hb : ∀ (kV doc pm : Value) (an : Option Addr) (cdv ct : Value) (us : List Value), us.length = ps.length → bindArgs (PySem.W.fnOf m q (defArgs st) (defBody st) (defScope st) .none kV doc pm an cdv ct) ⟨us, []⟩ = pure (ps.zip us))
    (len : ∀ ds Φ, f ds Φ → ds.length = ps.length)
    (hbody : ∀ (fa : Addr) (cdv : Value) (A : Around) (outer : List Env) (s : Shared) (H : Hp), Room k (A.deeper (envOfC q (defScope st) s.heap.objs.size fa cdv)) →
      ∃ t, PSs (cxR P w K mg base N q (defScope st) fa cdv A outer s H) (defBody st) t ∧ ∀ S ds Φ, f ds Φ → ExD K S t (ini N ds) { nx := fun _ => Φ .non, rt := Φ }) : CalM P w K mg base (k + 1) C m ps (spD K f) := by
  refine CalM.of D S hb (fun vs H Q E h => ?_) (fun fa cdv A outer s H vs Q E hr h => ?_)
  · obtain ⟨_, _, ds, Φ, _, _, hd, hf, _⟩ := h
    rw [hd.length]
    exact len ds Φ hf
  · obtain ⟨t, h1, h2⟩ := hbody fa cdv A outer s H hr
    exact ⟨t, h1, body_of h h2⟩
theorem CalP.ofD {C : Addr} {m q : Str} {st : Stmt} {N ps : List Str} {k : Nat} {f : FD} (D : DefP K C m q st) (S : FnScope N ps (defScope st))
    (hb : ∀ (kV doc pm : Value) (an : Option Addr) (cdv ct : Value) (us : List Value), us.length = ps.length → bindArgs (PySem.W.fnOf m q (defArgs st) (defBody st) (defScope st) .none kV doc pm an cdv ct) ⟨us, []⟩ = pure (ps.zip us))
    (len : ∀ ds Φ, f ds Φ → ds.length = ps.length)
    (hbody : ∀ (fa : Addr) (cdv : Value) (A : Around) (outer : List Env) (s : Shared) (H : Hp), Room k (A.deeper (envOfC q (defScope st) s.heap.objs.size fa cdv)) →
      ∃ t, PSs (cxR P w K mg base N q (defScope st) fa cdv A outer s H) (defBody st) t ∧ ∀ S ds Φ, f ds Φ → ExD K S t (ini N ds) { nx := fun _ => Φ .non, rt := Φ }) : CalP P w K mg base (k + 1) C m ps (spD K f) := by
  refine CalP.of D S hb (fun vs H Q E h => ?_) (fun fa cdv A outer s H vs Q E hr h => ?_)
  · obtain ⟨_, _, ds, Φ, _, _, hd, hf, _⟩ := h
    rw [hd.length]
    exact len ds Φ hf
  · obtain ⟨t, h1, h2⟩ := hbody fa cdv A outer s H hr
    exact ⟨t, h1, body_of h h2⟩
theorem Cal.ofN {x : Str} {st : Stmt} {N ps : List Str} {k : Nat} {f : FN} (D : Def K mg x st) (S : FnScope N ps (defScope st))
    (hb : ∀ (kV doc pm : Value) (an : Option Addr) (cdv ct : Value) (us : List Value), us.length = ps.length → bindArgs (PySem.W.fnOf x x (defArgs st) (defBody st) (defScope st) .none kV doc pm an cdv ct) ⟨us, []⟩ = pure (ps.zip us))
    (len : ∀ ds Φ, f ds Φ → ds.length = ps.length)
    (hbody : ∀ (fa : Addr) (cdv : Value) (A : Around) (outer : List Env) (s : Shared) (H : Hp), Room k (A.deeper (envOfC x (defScope st) s.heap.objs.size fa cdv)) →
      ∃ t, PSs (cxR P w K mg base N x (defScope st) fa cdv A outer s H) (defBody st) t ∧ ∀ S ds Φ, f ds Φ → ExD K S t (ini N ds) { nx := fun _ => False, rt := fun _ => False, ro := Φ }) : Cal P w K mg base (k + 1) x ps (spN K f) := by
  refine Cal.of D S hb (fun vs H Q E h => ?_) (fun fa cdv A outer s H vs Q E hr h => ?_)
  · obtain ⟨_, _, ds, Φ, _, _, hd, hf, _⟩ := h
    rw [hd.length]
    exact len ds Φ hf
  · obtain ⟨t, h1, h2⟩ := hbody fa cdv A outer s H hr
    exact ⟨t, h1, body_ofN h h2⟩
theorem CalM.ofN {C : Addr} {m q : Str} {st : Stmt} {N ps : List Str} {k : Nat} {f : FN} (D : DefM K C m q st) (S : FnScope N ps (defScope st))
    (hb : ∀ (kV doc pm : Value) (an : Option Addr) (cdv ct : Value) (us : List Value), us.length = ps.length → bindArgs (PySem.W.fnOf m q (defArgs st) (defBody st) (defScope st) .none kV doc pm an cdv ct) ⟨us, []⟩ = pure (ps.zip us))
    (len : ∀ ds Φ, f ds Φ → ds.length = ps.length)
    (hbody : ∀ (fa : Addr) (cdv : Value) (A : Around) (outer : List Env) (s : Shared) (H : Hp), Room k (A.deeper (envOfC q (defScope st) s.heap.objs.size fa cdv)) →
      ∃ t, PSs (cxR P w K mg base N q (defScope st) fa cdv A outer s H) (defBody st) t ∧ ∀ S ds Φ, f ds Φ → ExD K S t (ini N ds) { nx := fun _ => False, rt := fun _ => False, ro := Φ }) : CalM P w K mg base (k + 1) C m ps (spN K f) := by
  refine CalM.of D S hb (fun vs H Q E h => ?_) (fun fa cdv A outer s H vs Q E hr h => ?_)
  · obtain ⟨_, _, ds, Φ, _, _, hd, hf, _⟩ := h
    rw [hd.length]
    exact len ds Φ hf
  · obtain ⟨t, h1, h2⟩ := hbody fa cdv A outer s H hr
    exact ⟨t, h1, body_ofN h h2⟩
/-- an __init__ -/
theorem CalM.ofI {C : Addr} {m q : Str} {st : Stmt} {N ps : List Str} {k : Nat} {f : FI} (D : DefM K C m q st) (S : FnScope N ps (defScope st))
    (hb : ∀ (kV doc pm : Value) (an : Option Addr) (cdv ct : Value) (us : List Value), us.length = ps.length → bindArgs (PySem.W.fnOf m q (defArgs st) (defBody st) (defScope st) .none kV doc pm an cdv ct) ⟨us, []⟩ = pure (ps.zip us))
    (len : ∀ ds Φ, f ds Φ → ds.length + 1 = ps.length)
    (hbody : ∀ (fa : Addr) (cdv : Value) (A : Around) (outer : List Env) (s : Shared) (H : Hp), Room k (A.deeper (envOfC q (defScope st) s.heap.objs.size fa cdv)) →
      ∃ t, PSs (cxR P w K mg base N q (defScope st) fa cdv A outer s H) (defBody st) t ∧ ∀ S p dx ds Φ, f ds Φ → ExD K S t (iniS N p dx C ds) { nx := fun ρ => ∃ ns es, ρ[0]? = some (.slf p dx C ns es) ∧ Φ ns es, rt := fun _ => False }) : CalM P w K mg base (k + 1) C m ps (spI K C f) := by
  refine CalM.of D S hb (fun vs H Q E h => ?_) (fun fa cdv A outer s H vs Q E hr h => ?_)
  · obtain ⟨_, _, p, dx, ws, ds, Φ, rfl, _, _, _, _, hd, hf, _⟩ := h
    rw [List.length_cons, hd.length]
    exact len ds Φ hf
  · obtain ⟨t, h1, h2⟩ := hbody fa cdv A outer s H hr
    exact ⟨t, h1, body_init h h2⟩
end
end
/-! Items of one's own lists. -/
section
set_option maxRecDepth 100000
set_option maxHeartbeats 2000000
section
variable {K : PySem.W.Frag} {S : Sx} {ρ : List Sl} {Φ : D → Prop} {ti : TE} {ds : List D} {i : Nat}
/-- x[e], x one's own list, its items whatever they are -/
theorem ev_ixO (h0 : ρ[i]? = some (.own ds)) (h : EvD K S ti ρ fun x => ∃ z d, x = .int z ∧ atI ds z = some d ∧ Φ d) : EvD K S (tOp (rIxL K) (tVar i) ti) ρ Φ := fun σ F H e s dr Q q => by
  obtain ⟨p, vs, a1, _, a2, a3⟩ := e.own h0
  refine ⟨_, a1, h σ F H e s dr _ fun w x F1 H1 ⟨z, d, hx, hd, hΦ⟩ dx g1 => ?_⟩
  subst hx
  cases dx
  obtain ⟨p', vs', a1', _, a2', a3'⟩ := (e.ag g1).own h0
  rw [a1] at a1'
  cases a1'
  obtain ⟨v, hv, dv⟩ := a3'.at hd
  exact k_ixl (sl_of a2') hv (q _ _ F1 H1 hΦ dv g1)
theorem frzE_own (h0 : ρ[i]? = some (.own ds)) : (frzE ρ)[i]? = some (.val (.lst ds)) := by
  unfold frzE
  rw [List.getElem?_map, h0]
  rfl
/-- len(x), x one's own list -/
theorem ev_lenO (h0 : ρ[i]? = some (.own ds)) (k : Φ (.int (ds.length : Nat))) : EvD K S (tCB (rLen K) (tCons (tVar i) tNil)) ρ Φ := ev_bor (ev_cb1 (ev_cons (ev_var (frzE_own h0) (ev_nil (cd_len ⟨_, .inl rfl, rfl, k⟩)))))
/-- a comprehension over one's own list -/
theorem evN_lcO {its : List D} {g : TG} {tt : TT} {te : TE} {Ψ : List D → Prop} {vs : List Nat} (h0 : ρ[i]? = some (.own its)) (h : ∃ I : Nat → List D → Prop, I 0 [] ∧ (∀ i d acc, its[i]? = some d → I i acc → acc.length < 100000 ∧ TgD K S g (· ∈ vs) d (wipeS ρ vs) fun ρ2 => EvT K S tt ρ2 fun b => if b = true then EvD K S te ρ2 fun y => I (i + 1) (acc ++ [y]) else I (i + 1) acc) ∧ ∀ acc, I its.length acc → Ψ acc) :
    EvN K S (tLc (iE (rItA K) (tVar i)) g tt te vs) ρ Ψ := fun σ F H e s dr Q q => by
  obtain ⟨a, ws, e0, ⟨nFa, nSa⟩, hH, hw⟩ := e.own h0
  obtain ⟨I, i0, is, ie⟩ := h
  refine ⟨_, e0, a, ws, rfl, .inl ⟨sl_of hH, ?_⟩⟩
  intro D nD
  have nF1 : F D = none := s.free nD
  have nS := dr.ne nD
  refine lc_it (walk_list (K := K) (a := a) (xs := ws)) (fun i H' => ∃ acc us F', I i acc ∧ H' D = some (.lst us) ∧ F' D = none ∧ Dats K S F' acc us ∧ Ag S F H F' H') ⟨[], [], F, i0, upd_same, nF1, rfl, (Ag.refl s dr).newH dr nD⟩ ?_ ?_ ?_
  · rintro i H' _ ⟨_, _, _, _, _, _, _, a2⟩
    exact sl_of (a2.keep (fun s e => (nSa s e).1) hH)
  · rintro i x H2 H3 hi ⟨acc, us, F2, hI, hD, nF2, hds, a2⟩ ⟨eH, ex⟩
    subst eH
    obtain ⟨d, hd, dd0⟩ := hw.get' ex
    have dd : Dat K S F2 d x := Dat.mono a2.fs d dd0
    obtain ⟨hl, hT⟩ := is i d acc hd hI
    have e3 : EnvOk K S F2 H3 (wipe σ vs) (wipeS ρ vs) := (e.ag a2).wipe vs
    refine hT x _ F2 H3 e3 dd a2.ok _ fun σ4 ρ4 hx e4 o4 k4 => ⟨wipe_same (k4.1.trans (wipe_length σ vs)) k4.2.1, ?_⟩
    · refine hx σ4 F2 H3 e4 a2.ok a2.dr _ fun b F4 H4 hb g4 => ?_
      have hD4 := g4.keep (fun s e => (nS s e).1) hD
      have nF4 := g4.keepF hD nF2
      have a4 := a2.trans g4 dr
      cases b with
      | true =>
        show te σ4 H4 _
        refine hb σ4 F4 H4 (e4.ag g4) g4.ok g4.dr _ fun v5 d5 F5 H5 h5 dd5 g5 => ?_
        have hD5 := g5.keep (fun s e => (nS s e).1) hD4
        have nF5 := g5.keepF hD4 nF4
        have a5 := a4.trans g5 dr
        have hds5 : Dats K S F5 acc us := Dats.mono (g4.fs.trans g5.fs) acc hds
        exact ⟨us, hD5, by rw [hds.length]; exact Nat.lt_of_lt_of_le hl (by decide), acc ++ [d5], us ++ [v5], F5, h5, upd_same, nF5, hds5.app (Dats.one dd5), a5.mut dr (by rw [hD5]; trivial) (.of nD) nF5 nS⟩
      | false => exact ⟨acc, us, F4, hb, hD4, nF4, Dats.mono g4.fs acc hds, a4⟩
  · rintro H2 ⟨acc, us, F2, hI, hD, nF2, hds, a2⟩
    exact q D us acc F2 H2 (ie acc (by rw [hw.length] at hI; exact hI)) (.of nD) nF2 hD hds a2
theorem ex_par3 {O : Oc} {i j l : Nat} {tr : TA} (h : EvA K S tr ρ fun xs => ∃ x y z, xs = [x, y, z] ∧ O.nx (((ρ.set i (.val x)).set j (.val y)).set l (.val z))) : ExD K S (tPar3 i j l tr) ρ O := fun F0 H0 σ F H e o a d0 E f =>
  h σ F H e a.ok a.dr _ fun vs xs F1 H1 ⟨x, y, z, ex, hx⟩ dx g1 => by
    subst ex
    obtain ⟨v, us, rfl, h1, h2⟩ := dx
    obtain ⟨w, us', rfl, h3, h4⟩ := h2
    obtain ⟨u, us'', rfl, h5, h6⟩ := h4
    cases h6
    exact ⟨v, w, u, rfl, f.nx _ _ F1 H1 hx ((((e.ag g1).set h1).set h3).set h5) (o.set.set.set) (a.trans g1 d0)⟩
end
end
/-! Cells of one's own, reached by pointers: reading, changing, calls that change them. -/
section
set_option maxRecDepth 100000
set_option maxHeartbeats 2000000
/-- the pointer to a cell -/
abbrev pD (a : Addr) : D := .raw (.ref a)
/-- ρ holds the cell c at a -/
def HasC (ρ : List Sl) (a : Addr) (c : Cl) : Prop := ∃ (w : Nat) (m : Bool) (d : D) (γ : Gh), ρ[w]? = some (.obj m d γ) ∧ (a, c) ∈ γ
theorem HasC.mk {ρ : List Sl} (w k : Nat) {m : Bool} {d : D} {γ : Gh} {a : Addr} {c : Cl} (h : ρ[w]? = some (.obj m d γ)) (h2 : γ[k]? = some (a, c)) : HasC ρ a c := ⟨w, m, d, γ, h, List.mem_of_getElem? h2⟩
theorem HasC.of {ρ : List Sl} (w : Nat) {m : Bool} {d : D} {γ : Gh} {a : Addr} {c : Cl} (h : ρ[w]? = some (.obj m d γ)) (h2 : (a, c) ∈ γ) : HasC ρ a c := ⟨w, m, d, γ, h, h2⟩
theorem nd_inj {α β : Type} : ∀ {l : List (α × β)} {j k : Nat} {a : α} {b c : β}, (l.map Prod.fst).Nodup → l[j]? = some (a, b) → l[k]? = some (a, c) → j = k
  | [], _, _, _, _, _, _, h, _ => by simp at h
  | x :: l, 0, 0, _, _, _, _, _, _ => rfl
  | x :: l, 0, k + 1, a, b, c, nd, h1, h2 => by
    rw [List.getElem?_cons_zero] at h1
    rw [List.getElem?_cons_succ] at h2
    cases h1
    rw [List.map_cons, List.nodup_cons] at nd
    exact absurd (List.mem_map.mpr ⟨_, List.mem_of_getElem? h2, rfl⟩) nd.1
  | x :: l, j + 1, 0, a, b, c, nd, h1, h2 => by
    rw [List.getElem?_cons_zero] at h2
    rw [List.getElem?_cons_succ] at h1
    cases h2
    rw [List.map_cons, List.nodup_cons] at nd
    exact absurd (List.mem_map.mpr ⟨_, List.mem_of_getElem? h1, rfl⟩) nd.1
  | x :: l, j + 1, k + 1, a, b, c, nd, h1, h2 => by
    rw [List.getElem?_cons_succ] at h1 h2
    rw [List.map_cons, List.nodup_cons] at nd
    rw [nd_inj nd.2 h1 h2]
theorem setL_same {α : Type} : ∀ {l : List α} {n : Nat} {x : α}, l[n]? = some x → l.set n x = l
  | [], _, _, e => by simp at e
  | y :: l, 0, x, e => by rw [List.getElem?_cons_zero] at e; cases e; rfl
  | y :: l, n + 1, x, e => by
    rw [List.getElem?_cons_succ] at e
    show y :: l.set n x = _
    rw [setL_same e]
theorem gh_addrs {γ : Gh} {k : Nat} {a : Addr} {c c' : Cl} (h : γ[k]? = some (a, c)) : (γ.set k (a, c')).map Prod.fst = γ.map Prod.fst := by
  rw [List.map_set]
  exact setL_same (by rw [List.getElem?_map, h]; rfl)
section
variable {K : PySem.W.Frag} {S : Sx} {ρ : List Sl} {Φ : D → Prop} {Ψ : List D → Prop} {Χ : Bool → Prop} {O : Oc} {ta tb tc te to ti : TE} {tr : TA} {tt tu : TT} {t u : TS} {g : TG} {wi : TI} {i j w k n : Nat} {d x y dw : D} {ds xs : List D} {γ γ1 γ2 : Gh} {a : Addr} {c c' : Cl} {m : Bool}
theorem GhOk.get {F H : Hp} (g : GhOk K S F H γ) (h : γ[k]? = some (a, c)) : Prv S F a ∧ ∃ o, H a = some o ∧ ClOk K S F c o := g.ok a c (List.mem_of_getElem? h)
theorem GhOk.set {F H : Hp} {o : HO} (g : GhOk K S F H γ) (h : γ[k]? = some (a, c)) (q : ClOk K S F c' o) : GhOk K S F (upd H a o) (γ.set k (a, c')) := by
  refine ⟨by rw [gh_addrs h]; exact g.nd, fun b cb hm => ?_⟩
  obtain ⟨j, hj⟩ := List.mem_iff_getElem?.mp hm
  by_cases e : k = j
  · subst e
    have hk : k < γ.length := (List.getElem?_eq_some_iff.mp h).1
    rw [List.getElem?_set_self hk] at hj
    cases hj
    exact ⟨(g.get h).1, o, upd_same, q⟩
  · rw [List.getElem?_set_ne e] at hj
    have nb : b ≠ a := fun z => by subst z; exact e (nd_inj g.nd h hj)
    obtain ⟨p, u, e1, e2⟩ := g.get hj
    exact ⟨p, u, (upd_ne nb).trans e1, e2⟩
theorem GhOk.app {F H : Hp} (g1 : GhOk K S F H γ1) (g2 : GhOk K S F H γ2) (h : ∀ a, a ∈ γ1.map Prod.fst → a ∈ γ2.map Prod.fst → False) : GhOk K S F H (γ1 ++ γ2) := by
  refine ⟨?_, fun b cb hm => ?_⟩
  · rw [List.map_append, List.nodup_append]
    exact ⟨g1.nd, g2.nd, fun a h1 b h2 e => h a h1 (e ▸ h2)⟩
  · rcases List.mem_append.mp hm with z | z
    · exact g1.ok b cb z
    · exact g2.ok b cb z
theorem GhOk.left {F H : Hp} (g : GhOk K S F H (γ1 ++ γ2)) : GhOk K S F H γ1 := by
  have nd := g.nd
  rw [List.map_append, List.nodup_append] at nd
  exact ⟨nd.1, fun b cb hm => g.ok b cb (List.mem_append_left _ hm)⟩
theorem GhOk.right {F H : Hp} (g : GhOk K S F H (γ1 ++ γ2)) : GhOk K S F H γ2 := by
  have nd := g.nd
  rw [List.map_append, List.nodup_append] at nd
  exact ⟨nd.2.1, fun b cb hm => g.ok b cb (List.mem_append_right _ hm)⟩
theorem GhOk.apart {F H : Hp} (g : GhOk K S F H (γ1 ++ γ2)) : ∀ a, a ∈ γ1.map Prod.fst → a ∈ γ2.map Prod.fst → False := fun a h1 h2 => by
  have nd := g.nd
  rw [List.map_append, List.nodup_append] at nd
  exact nd.2.2 a h1 a h2 rfl
theorem GhOk.nil {F H : Hp} : GhOk K S F H [] := ⟨List.nodup_nil, fun _ _ h => nomatch h⟩
theorem GhOk.perm {F H : Hp} (g : GhOk K S F H γ1) (p : γ1.Perm γ2) : GhOk K S F H γ2 := ⟨(p.map Prod.fst).nodup_iff.mp g.nd, fun b cb hm => g.ok b cb (p.symm.subset hm)⟩
theorem EnvOk.cell {F H : Hp} {σ : L2.St} (e : EnvOk K S F H σ ρ) (h : HasC ρ a c) : Prv S F a ∧ ∃ o, H a = some o ∧ ClOk K S F c o := by
  obtain ⟨w, m, d, γ, h1, h2⟩ := h
  obtain ⟨v, _, _, g⟩ := e.obj h1
  exact g.ok a c h2
/-! ### reading -/
theorem ev_varO (h : ρ[i]? = some (.obj m d γ)) (k : Φ d) : EvD K S (tVar i) ρ Φ := fun σ F H e s dr Q q => by
  obtain ⟨v, h1, h2, _⟩ := e.obj h
  exact ⟨v, h1, q v d F H k h2 (Ag.refl s dr)⟩
theorem evN_listC (h : EvD K S te ρ fun x => ∃ a ds, x = pD a ∧ HasC ρ a (.l ds) ∧ Ψ ds) : EvN K S (tCB (rListOf K) (tCons te tNil)) ρ Ψ := fun σ F H e s dr Q q =>
  h σ F H e s dr _ fun v x F1 H1 ⟨a, ds, hx, hc, hΦ⟩ dd g1 => by
    subst hx
    cases dd
    obtain ⟨_, o, e1, vs, rfl, e2⟩ := (e.ag g1).cell hc
    exact ⟨a, vs, rfl, .inl (sl_of e1), fun p np => q p vs ds F1 _ hΦ (g1.back np) (g1.ok.free np) upd_same e2 (g1.newH dr np)⟩
theorem ev_tupleC (h : EvD K S te ρ fun x => ∃ a ds, x = pD a ∧ HasC ρ a (.l ds) ∧ Φ (.tup ds)) : EvD K S (tCB (rTupOf K) (tCons te tNil)) ρ Φ := fun σ F H e s dr Q q =>
  h σ F H e s dr _ fun v x F1 H1 ⟨a, ds, hx, hc, hΦ⟩ dd g1 => by
    subst hx
    cases dd
    obtain ⟨_, o, e1, vs, rfl, e2⟩ := (e.ag g1).cell hc
    refine ⟨a, vs, rfl, .inl ⟨sl_of e1, fun p np => ?_⟩⟩
    exact q _ (.tup ds) _ _ hΦ ⟨p, vs, rfl, st_of upd_same, Dats.mono (fun b w z => upd_new z (g1.ok.free np)) ds e2⟩ (g1.newF dr np)
/-! ### seeing cells as frozen things -/
def Rd (K : PySem.W.Frag) (ρ : List Sl) (d e : D) : Prop := ∀ (S : Sx) (F F1 : Hp) (v : V), Same F F1 → (∀ a c, HasC ρ a c → ∃ o, F1 a = some o ∧ ClOk K S F c o) → Dat K S F d v → Dat K S F1 e v
def Rds (K : PySem.W.Frag) (ρ : List Sl) (ds es : List D) : Prop := ∀ (S : Sx) (F F1 : Hp) (vs : List V), Same F F1 → (∀ a c, HasC ρ a c → ∃ o, F1 a = some o ∧ ClOk K S F c o) → Dats K S F ds vs → Dats K S F1 es vs
theorem Rd.rfl : Rd K ρ d d := fun _ _ _ _ s _ h => Dat.mono s d h
theorem Rds.rfl : Rds K ρ ds ds := fun _ _ _ _ s _ h => Dats.mono s ds h
theorem Rds.nil : Rds K ρ [] [] := Rds.rfl
theorem Rds.cons {e : D} {es : List D} (h : Rd K ρ d e) (k : Rds K ρ ds es) : Rds K ρ (d :: ds) (e :: es) := fun S F F1 vs s p ⟨v, us, e1, h1, h2⟩ => ⟨v, us, e1, h S F F1 v s p h1, k S F F1 us s p h2⟩
theorem Rd.cl {es : List D} (h : HasC ρ a (.l ds)) (k : Rds K ρ ds es) : Rd K ρ (pD a) (.lst es) := fun S F F1 v s p e => by
  cases e
  obtain ⟨o, e1, vs, rfl, e2⟩ := p a _ h
  exact ⟨a, vs, Eq.refl _, e1, k S F F1 vs s p e2⟩
theorem Rd.lst {es : List D} (k : Rds K ρ ds es) : Rd K ρ (.lst ds) (.lst es) := fun S F F1 v s p ⟨a, vs, e, h1, h2⟩ => ⟨a, vs, e, s _ _ h1, k S F F1 vs s p h2⟩
theorem Rd.tup {es : List D} (k : Rds K ρ ds es) : Rd K ρ (.tup ds) (.tup es) := fun S F F1 v s p ⟨a, vs, e, h1, h2⟩ => ⟨a, vs, e, st_sm s h1, k S F F1 vs s p h2⟩
theorem Rds.map {α : Type} {f g : α → D} : ∀ {l : List α}, (∀ x, x ∈ l → Rd K ρ (f x) (g x)) → Rds K ρ (l.map f) (l.map g)
  | [], _ => Rds.nil
  | x :: l, h => Rds.cons (h x List.mem_cons_self) (Rds.map fun y hy => h y (List.mem_cons_of_mem _ hy))
def seeE (ρ : List Sl) (l : List (Nat × D)) : List Sl := l.foldl (fun r p => r.set p.1 (Sl.val p.2)) (frzE ρ)
theorem EnvOk.redo {F H : Hp} {σ : L2.St} {e' : D} (e : EnvOk K S F H σ ρ) (h : ∀ v, σ[i]? = some (some v) → Dat K S F d v → Dat K S F e' v) (hi : ρ[i]? = some (.val d)) : EnvOk K S F H σ (ρ.set i (Sl.val e')) := by
  obtain ⟨v, h1, h2⟩ := e.val hi
  exact EnvOk.put (x₀ := some v) e.len (fun j n x s h1 h2 => e.ok j x s h1 h2) (fun _ => h1) ⟨v, rfl, h v h1 h2⟩ (fun _ _ _ _ _ _ _ _ z => z.elim) (fun j k t t' y y' b n1 n2 n3 h1 h2 m1 h3 h4 => e.sep j k t t' y y' b n3 h1 h2 m1 h3 h4)
theorem EnvOk.see {F1 H : Hp} {σ : L2.St} {S' : Sx} (p : ∀ a c, HasC ρ a c → ∃ o, F1 a = some o ∧ ClOk K S' F1 c o) (e0 : EnvOk K S' F1 H σ (frzE ρ)) : ∀ (l : List (Nat × D)) (r : List Sl), (∀ q ∈ l, ∃ d, (frzE ρ)[q.1]? = some (.val d) ∧ Rd K ρ d q.2) →
    EnvOk K S' F1 H σ r → (∀ (i : Nat) (d : D), (frzE ρ)[i]? = some (Sl.val d) → ∃ d', r[i]? = some (Sl.val d')) → EnvOk K S' F1 H σ (l.foldl (fun r p => r.set p.1 (Sl.val p.2)) r)
  | [], r, _, e, _ => e
  | q :: l, r, hl, e, hr => by
    obtain ⟨d, h1, h2⟩ := hl q List.mem_cons_self
    obtain ⟨d', h3⟩ := hr q.1 d h1
    obtain ⟨v, h4, h5⟩ := e0.val h1
    refine EnvOk.see p e0 l _ (fun q hq => hl q (List.mem_cons_of_mem _ hq)) (e.redo (fun v' hv' _ => ?_) h3) (fun i d hi => ?_)
    · rw [h4] at hv'
      cases hv'
      exact h2 S' F1 F1 v (Same.refl _) p h5
    · by_cases z : q.1 = i
      · subst z
        have hl : q.1 < r.length := (List.getElem?_eq_some_iff.mp h3).1
        exact ⟨_, List.getElem?_set_self hl⟩
      · rw [List.getElem?_set_ne z]
        exact hr i d hi
theorem borrowS {F H : Hp} {σ : L2.St} (l : List (Nat × D)) (hl : ∀ q ∈ l, ∃ d, (frzE ρ)[q.1]? = some (.val d) ∧ Rd K ρ d q.2) (e : EnvOk K S F H σ ρ) (s : Same F H) (dr : DrI S F H) : ∃ F1, Same F F1 ∧ Same F1 H ∧ DrI S.nw F1 H ∧ EnvOk K S.nw F1 H σ (seeE ρ l) := by
  obtain ⟨F1, s1, s2, d1, e1, hF⟩ := borrow e s dr
  refine ⟨F1, s1, s2, d1, EnvOk.see (fun a c h => ?_) e1 l _ hl e1 (fun i d h => ⟨d, h⟩)⟩
  obtain ⟨_, o, e2, q⟩ := e.cell h
  obtain ⟨w, m, d, γ, h1, h2⟩ := h
  obtain ⟨v, h3, _⟩ := e.obj h1
  exact ⟨o, (hF a ⟨w, _, some v, h1, h3, List.mem_map.mpr ⟨_, h2, rfl⟩⟩).trans e2, ClOk.cast (S := S) (S' := S.nw) rfl (q.mono s1)⟩
/-- a flat thing, the slots of l seen as told there -/
theorem ev_see (l : List (Nat × D)) (hl : ∀ q ∈ l, ∃ d, (frzE ρ)[q.1]? = some (.val d) ∧ Rd K ρ d q.2) (h : EvD K S.nw te (seeE ρ l) fun d => d.flat = true ∧ Φ d) : EvD K S te ρ Φ := fun σ F H e s dr Q q => by
  obtain ⟨F1, s1, s2, d1, e1⟩ := borrowS l hl e s dr
  exact h σ F1 H e1 s2 d1 Q fun v d F' H' hd dd g => q v d F H' hd.2 ((Dat.cast (S := S.nw) (S' := S) rfl d dd).flat hd.1) (g.unborrow s1 s dr)
theorem et_see (l : List (Nat × D)) (hl : ∀ q ∈ l, ∃ d, (frzE ρ)[q.1]? = some (.val d) ∧ Rd K ρ d q.2) (h : EvT K S.nw tt (seeE ρ l) Χ) : EvT K S tt ρ Χ := fun σ F H e s dr Q q => by
  obtain ⟨F1, s1, s2, d1, e1⟩ := borrowS l hl e s dr
  exact h σ F1 H e1 s2 d1 Q fun b F' H' hb g => q b F H' hb (g.unborrow s1 s dr)
end
end
/-! Cells of one's own: changes, calls that change them. -/
section
set_option maxRecDepth 100000
set_option maxHeartbeats 2000000
/-- the heap without some cells -/
def lessG (H : Hp) (γ : Gh) : Hp := fun b => if b ∈ γ.map Prod.fst then none else H b
section
variable {K : PySem.W.Frag} {S : Sx} {ρ : List Sl} {Φ : D → Prop} {Ψ : List D → Prop} {Χ : Bool → Prop} {O : Oc} {ta tb tc te to ti : TE} {tr : TA} {tt tu : TT} {t u : TS} {g : TG} {wi : TI} {i j w k n : Nat} {d x y dw : D} {ds xs : List D} {γ γ1 γ2 γr : Gh} {a : Addr} {c c' : Cl} {m : Bool}
theorem lessG_in {H : Hp} {b : Addr} (h : b ∈ γ.map Prod.fst) : lessG H γ b = none := if_pos h
theorem lessG_out {H : Hp} {b : Addr} (h : b ∉ γ.map Prod.fst) : lessG H γ b = H b := if_neg h
theorem lessG_some {H : Hp} {b : Addr} {o : HO} (h : lessG H γ b = some o) : b ∉ γ.map Prod.fst ∧ H b = some o := by
  by_cases z : b ∈ γ.map Prod.fst
  · rw [lessG_in z] at h; cases h
  · rw [lessG_out z] at h; exact ⟨z, h⟩
theorem lessG_nt {H : Hp} {b : Addr} (h : Nt (lessG H γ) b) : b ∈ γ.map Prod.fst ∨ Nt H b := by
  by_cases z : b ∈ γ.map Prod.fst
  · exact .inl z
  · exact .inr fun o e => h o (by rw [lessG_out z]; exact e)
/-- the own cells are as if they were made here -/
theorem Ag0.less {F0 H0 F H F' H' : Hp} (a : Ag0 S F0 H0 F H) (n : ∀ b, b ∈ γ.map Prod.fst → Nt H0 b) (g : Ag0 S F (lessG H γ) F' H') : Ag0 S F0 H0 F' H' := by
  refine ⟨a.fs.trans g.fs, g.ok, fun b o hs e no => ?_, fun b e => ?_, g.st⟩
  · have nb : b ∉ γ.map Prod.fst := fun z => n b z o e no
    exact g.ch b o hs (by rw [lessG_out nb]; exact a.ch b o hs e no) no
  · rcases g.nw b e with z | z
    · exact a.nw b z
    · rcases lessG_nt z with z | z
      · exact .inr (n b z)
      · exact .inr (a.back z)
theorem Ag.less {F0 H0 F H F' H' : Hp} (a : Ag S F0 H0 F H) (n : ∀ b, b ∈ γ.map Prod.fst → Nt H0 b) (d0 : DrI S F0 H0) (g : Ag S F (lessG H γ) F' H') : Ag S F0 H0 F' H' := (a.toAg0.less n g.toAg0).up d0
theorem DrS.less {F H : Hp} (d : DrS S F H) (g : GhOk K S F H γ) : DrS S F (lessG H γ) := by
  have keep : ∀ {b : Addr} {o : HO}, H b = some o → (∀ a c, (a, c) ∈ γ → a ≠ b) → lessG H γ b = some o := fun {b o} e n => by
    rw [lessG_out fun z => ?_]
    · exact e
    · obtain ⟨⟨a, c⟩, hm, rfl⟩ := List.mem_map.mp z
      exact n a c hm rfl
  refine ⟨fun s e => ?_, fun p hp => ?_, d.2.2⟩
  · obtain ⟨⟨n1, r, b, cells, h1, h2, h3⟩, h4⟩ := d.1 s e
    exact ⟨⟨n1, r, b, cells, keep h1 fun a c hm => ((g.ok a c hm).1.2 s e).1, keep h2 fun a c hm => ((g.ok a c hm).1.2 s e).2, h3⟩, h4⟩
  · obtain ⟨ps, h1, h2, h3⟩ := d.2.1 p hp
    have nc : ∀ {b : Addr} {o : HO}, H b = some o → ¬ Chg (some o) → ∀ a c, (a, c) ∈ γ → a ≠ b := fun {b o} e nch a c hm z => by
      subst z
      obtain ⟨_, u, e2, q⟩ := g.ok a c hm
      rw [e] at e2
      cases e2
      exact nch q.chg
    refine ⟨ps, keep h1 (nc h1 fun z => z), h2, fun pos cv hc => ?_⟩
    obtain ⟨c', e1, e2⟩ := h3 pos cv hc
    exact ⟨c', e1, keep e2 (nc e2 fun z => z)⟩
theorem DrI.less {F0 H0 F H : Hp} (a : Ag S F0 H0 F H) (d0 : DrI S F0 H0) (g : GhOk K S F H γ) (n : ∀ b, b ∈ γ.map Prod.fst → Nt H0 b) : DrI S F (lessG H γ) :=
  ⟨a.st.less g, fun F' H' g' => d0.2 F' H' (a.toAg0.less n g')⟩
/-- what another one holds, behind a call that had the cells γ -/
theorem GhOk.agL {F H F' H' : Hp} (q : GhOk K S F H γ1) (n : ∀ b, b ∈ γ1.map Prod.fst → b ∉ γ.map Prod.fst) (g : Ag S F (lessG H γ) F' H') : GhOk K S F' H' γ1 := ⟨q.nd, fun a c hm => by
  obtain ⟨⟨p1, p2⟩, o, e, r⟩ := q.ok a c hm
  have e' : lessG H γ a = some o := by rw [lessG_out (n a (List.mem_map.mpr ⟨_, hm, rfl⟩))]; exact e
  exact ⟨⟨g.keepF e' p1 r.no, p2⟩, o, g.keep (fun s e => (p2 s e).1) e' r.no, r.mono g.fs⟩⟩
theorem SlOk.agL {F H F' H' : Hp} {x : Option V} {s : Sl} (h : SlOk K S F H x s) (n : ∀ b, s.loc x b → b ∉ γ.map Prod.fst) (g : Ag S F (lessG H γ) F' H') : SlOk K S F' H' x s := by
  cases s with
  | un => exact trivial
  | val d =>
    obtain ⟨v, e, h⟩ := h
    exact ⟨v, e, Dat.mono g.fs d h⟩
  | own ds =>
    obtain ⟨a, vs, e, ⟨p1, p2⟩, h1, h2⟩ := h
    have h1' : lessG H γ a = some (.lst vs) := by rw [lessG_out (n a e)]; exact h1
    exact ⟨a, vs, e, ⟨g.keepF h1' p1, p2⟩, g.keep (fun s e => (p2 s e).1) h1', Dats.mono g.fs ds h2⟩
  | slf a dx C ns ds =>
    obtain ⟨gs, e, ⟨p1, p2⟩, h1, h2, h3⟩ := h
    have h1' : lessG H γ a = some (.ins C dx gs) := by rw [lessG_out (n a e)]; exact h1
    exact ⟨gs, e, ⟨g.keepF h1' p1, p2⟩, g.keep (fun s e => (p2 s e).1) h1', h2, Dats.mono g.fs ds h3⟩
  | bor ds =>
    obtain ⟨a, vs, e, ⟨p1, p2⟩, h1, h2⟩ := h
    have h1' : lessG H γ a = some (.lst vs) := by rw [lessG_out (n a e)]; exact h1
    exact ⟨a, vs, e, ⟨g.keepF h1' p1, p2⟩, g.keep (fun s e => (p2 s e).1) h1', Dats.mono g.fs ds h2⟩
  | obj m d γ =>
    obtain ⟨v, e, h1, h2⟩ := h
    exact ⟨v, e, Dat.mono g.fs d h1, h2.agL n g⟩
/-! ### changes -/
theorem EnvOk.setC {F H : Hp} {σ : L2.St} {o : HO} (e : EnvOk K S F H σ ρ) (hw : ρ[w]? = some (.obj true dw γ)) (hk : γ[k]? = some (a, c)) (q : ClOk K S F c' o) : EnvOk K S F (upd H a o) σ (ρ.set w (.obj true dw (γ.set k (a, c')))) := by
  obtain ⟨v, h1, h2, h3⟩ := e.obj hw
  exact e.mut h1 hw rfl ⟨v, rfl, h2, h3.set hk q⟩ (List.mem_map.mpr ⟨_, List.mem_of_getElem? hk, rfl⟩) fun b z => by
    have z' : b ∈ (γ.set k (a, c')).map Prod.fst := z
    rw [gh_addrs hk] at z'
    exact z'
theorem OwnNew.setC {H0 : Hp} {σ : L2.St} (o : OwnNew H0 σ ρ) (hw : ρ[w]? = some (.obj true dw γ)) (hk : γ[k]? = some (a, c)) : OwnNew H0 σ (ρ.set w (.obj true dw (γ.set k (a, c')))) :=
  o.mut hw rfl fun x b z => by
    have z' : b ∈ (γ.set k (a, c')).map Prod.fst := z
    rw [gh_addrs hk] at z'
    exact z'
theorem OwnNew.cell {F H H0 : Hp} {σ : L2.St} (o : OwnNew H0 σ ρ) (e : EnvOk K S F H σ ρ) (hw : ρ[w]? = some (.obj true dw γ)) (hk : γ[k]? = some (a, c)) : Nt H0 a := by
  obtain ⟨v, h1, _⟩ := e.obj hw
  exact o w _ _ a hw rfl h1 (List.mem_map.mpr ⟨_, List.mem_of_getElem? hk, rfl⟩)
theorem Ag.setC {F0 H0 F H : Hp} {σ : L2.St} {o : HO} (g : Ag S F0 H0 F H) (d0 : DrI S F0 H0) (e : EnvOk K S F H σ ρ) (on : OwnNew H0 σ ρ) (hw : ρ[w]? = some (.obj true dw γ)) (hk : γ[k]? = some (a, c)) : Ag S F0 H0 F (upd H a o) := by
  obtain ⟨v, _, _, h3⟩ := e.obj hw
  obtain ⟨⟨p1, p2⟩, u, e1, q⟩ := h3.get hk
  exact g.mut d0 (by rw [e1]; exact q.chg) (on.cell e hw hk) p1 p2
/-- x.append(e) -/
theorem ex_appC (h : EvD K S to ρ fun x => ∃ a w dw γ k ds, x = pD a ∧ ρ[w]? = some (.obj true dw γ) ∧ γ[k]? = some (a, .l ds) ∧ ds.length < 100000 ∧ EvD K S te ρ fun y => O.nx (ρ.set w (.obj true dw (γ.set k (a, .l (ds ++ [y])))))) : ExD K S (tDrop (tBM K "list" rAppend to (tCons te tNil))) ρ O := fun F0 H0 σ F H e o ag d0 E fi =>
  h σ F H e ag.ok ag.dr _ fun v x F1 H1 ⟨a, w, dw, γ, k, ds, hx, hw, hk, hl, hy⟩ dx g1 => by
    subst hx
    cases dx
    obtain ⟨_, h1, h2, h3⟩ := (e.ag g1).obj hw
    obtain ⟨_, u, e1, vs, rfl, e2⟩ := h3.get hk
    refine ⟨.inl ⟨rfl, vs, sl_of e1⟩, hy σ F1 H1 (e.ag g1) g1.ok g1.dr _ fun u y F2 H2 hO dy g2 => ?_⟩
    have g := g1.trans g2 ag.dr
    obtain ⟨_, h1, h2, h3⟩ := (e.ag g).obj hw
    obtain ⟨_, u, e1, vs, rfl, e2⟩ := h3.get hk
    have hl' : vs.length < sizeLine := by rw [e2.length]; exact Nat.lt_of_lt_of_le hl (by decide)
    refine ⟨a, vs, _, rfl, rfl, e1, hl', ?_⟩
    exact fi.nx σ _ F2 _ hO ((e.ag g).setC hw hk ⟨_, rfl, e2.app (Dats.one dy)⟩) (o.setC hw hk) ((ag.trans g d0).setC d0 (e.ag g) o hw hk)
/-- x.clear(), x one's own list -/
theorem ex_clrO (h0 : ρ[i]? = some (.own ds)) (hO : O.nx (ρ.set i (.own []))) : ExD K S (tDrop (tBM0 K "list" rClear (tVar i))) ρ O := fun F0 H0 σ F H e o a d0 E f => by
  obtain ⟨p, vs, h1, ⟨nF, ns⟩, h2, h3⟩ := e.own h0
  refine ⟨.ref p, h1, .inl ⟨rfl, vs, sl_of h2⟩, p, vs, rfl, rfl, h2, ?_⟩
  exact f.nx σ _ F _ hO (e.mut h1 h0 rfl ⟨p, _, rfl, ⟨nF, ns⟩, upd_same, rfl⟩) (o.mut h0 rfl) (a.mut d0 (by rw [h2]; trivial) (o i _ _ p h0 rfl h1 rfl) nF ns)
/-! ### slots -/
theorem ex_permC (i : Nat) (h0 : ρ[i]? = some (.obj true d γ)) (p : γ.Perm γ1) (k : ExD K S t (ρ.set i (.obj true d γ1)) O) : ExD K S t ρ O := fun F0 H0 σ F H e o ag d0 E f => by
  obtain ⟨v, h1, h2, h3⟩ := e.obj h0
  have h1' : σ.set i (some v) = σ := setL_same h1
  have loc : ∀ b, (Sl.obj true d γ1).loc (some v) b → (Sl.obj true d γ).loc (some v) b := fun b z => (p.map Prod.fst).symm.subset z
  have e2 := EnvOk.newG (i := i) (s₀ := .obj true d γ1) (v := v) e (fun j s x b n h4 h5 l1 l2 => e.sep i j _ s _ x b (Ne.symm n) h0 h4 rfl h1 h5 (loc b l2) l1) ⟨_, rfl, h2, h3.perm p⟩
  have o2 := OwnNew.newG (i := i) (s₀ := .obj true d γ1) (v := v) o (fun _ b z => o i _ _ b h0 rfl h1 (loc b z))
  rw [h1'] at e2 o2
  exact k F0 H0 σ F H e2 o2 ag d0 E f
/-! ### evaluations that change cells -/
def InHand (K : PySem.W.Frag) (S : Sx) (F H H0 : Hp) (σ : L2.St) (ρ : List Sl) (γ : Gh) : Prop := GhOk K S F H γ ∧ (∀ a, a ∈ γ.map Prod.fst → Nt H0 a) ∧ ∀ a, a ∈ γ.map Prod.fst → ∀ (j : Nat) (s : Sl), ρ[j]? = some s → ∀ x, σ[j]? = some x → ¬ s.loc x a
def EvX (K : PySem.W.Frag) (S : Sx) (te : TE) (ρ : List Sl) (Θ : D → Gh → List Sl → Prop) : Prop := ∀ (F0 H0 : Hp) (σ : L2.St) (F H : Hp), EnvOk K S F H σ ρ → OwnNew H0 σ ρ → Ag S F0 H0 F H → DrI S F0 H0 → ∀ Q : VK,
  (∀ v d γ ρ' F' H', Θ d γ ρ' → Dat K S F' d v → EnvOk K S F' H' σ ρ' → OwnNew H0 σ ρ' → InHand K S F' H' H0 σ ρ' γ → Ag S F0 H0 F' H' → Q v H') → te σ H Q
section
variable {Θ : D → Gh → List Sl → Prop}
theorem InHand.nil {F H H0 : Hp} {σ : L2.St} : InHand K S F H H0 σ ρ [] := ⟨.nil, fun _ h => (nomatch h), fun _ h => (nomatch h)⟩
theorem evx_of (h : EvD K S te ρ fun d => Θ d [] ρ) : EvX K S te ρ Θ := fun F0 H0 σ F H e o ag d0 Q q =>
  h σ F H e ag.ok ag.dr _ fun v d F1 H1 hd dd g1 => q v d [] ρ F1 H1 hd dd (e.ag g1) o .nil (ag.trans g1 d0)
theorem evx_new (h : EvN K S te ρ fun ds => ∀ a, Θ (pD a) [(a, .l ds)] ρ) : EvX K S te ρ Θ := fun F0 H0 σ F H e o ag d0 Q q =>
  h σ F H e ag.ok ag.dr _ fun a vs ds F1 H1 hd n nF hl dd g1 => by
    refine q (.ref a) (pD a) [(a, .l ds)] ρ F1 H1 (hd a) rfl (e.ag g1) o ⟨⟨by simp, fun b c hm => ?_⟩, fun b hb => ?_, fun b hb j s hj x hx z => ?_⟩ (ag.trans g1 d0)
    · cases List.mem_singleton.mp hm
      exact ⟨⟨nF, ag.dr.1.ne n⟩, _, hl, vs, rfl, dd⟩
    · have : b = a := List.mem_singleton.mp hb
      subst this
      exact ag.backN n
    · have : b = a := List.mem_singleton.mp hb
      subst this
      exact e.fresh n j s hj x hx z
theorem ex_dropX (h : EvX K S te ρ fun _ _ ρ' => O.nx ρ') : ExD K S (tDrop te) ρ O := fun F0 H0 σ F H e o ag d0 E f =>
  h F0 H0 σ F H e o ag d0 _ fun v d γ ρ' F1 H1 hd dd e1 o1 _ g1 => f.nx _ _ F1 H1 hd e1 o1 g1
/-- return e, with what is in hand -/
theorem ex_retX (h : EvX K S te ρ fun d γ _ => O.rx d γ) : ExD K S (tRet te) ρ O := fun F0 H0 σ F H e o ag d0 E f =>
  h F0 H0 σ F H e o ag d0 _ fun v d γ ρ' F1 H1 hd dd e1 o1 ⟨q1, q2, _⟩ g1 => f.rx v d γ F1 H1 hd dd q1 q2 g1
/-- return e, with the cells of the slot w and what is in hand -/
theorem ex_retXC (w : Nat) (h : EvX K S te ρ fun d γ ρ' => ∃ dw γ1, ρ'[w]? = some (.obj true dw γ1) ∧ O.rx d (γ1 ++ γ)) : ExD K S (tRet te) ρ O := fun F0 H0 σ F H e o ag d0 E f =>
  h F0 H0 σ F H e o ag d0 _ fun v d γ ρ' F1 H1 ⟨dw, γ1, hw, hd⟩ dd e1 o1 ⟨q1, q2, q3⟩ g1 => by
    obtain ⟨u, h1, _, h3⟩ := e1.obj hw
    refine f.rx v d _ F1 H1 hd dd (h3.app q1 fun b z1 z2 => q3 b z2 w _ hw _ h1 z1) (fun b z => ?_) g1
    rw [List.map_append] at z
    rcases List.mem_append.mp z with z | z
    · exact o1 w _ _ b hw rfl h1 z
    · exact q2 b z
/-! ### calls -/
abbrev FC := List D → Gh → (D → Gh → Prop) → Prop
/-- a def that is handed the cells γ, and answers with a thing and cells -/
def spC (K : PySem.W.Frag) (f : FC) : Sp := fun vs H Q _ => ∃ S F ds γ Θ, Same F H ∧ DrI S F (lessG H γ) ∧ DrS S F H ∧ Dats K S F ds vs ∧ GhOk K S F H γ ∧ f ds γ Θ ∧
  ∀ v d γ' F' H', Θ d γ' → Dat K S F' d v → GhOk K S F' H' γ' → (∀ a, a ∈ γ'.map Prod.fst → Nt (lessG H γ) a) → Ag S F (lessG H γ) F' H' → Q v H'
/-- behind a call that had the cells γ1 of the slot w -/
theorem back_call {F0 H0 F H F' H' : Hp} {σ : L2.St} {stay hand : Gh} (e : EnvOk K S F H σ ρ) (o : OwnNew H0 σ ρ) (ag : Ag S F0 H0 F H) (d0 : DrI S F0 H0) (hw : ρ[w]? = some (.obj true dw (γ1 ++ γr))) (q : GhOk K S F' H' (stay ++ hand)) (n : ∀ a, a ∈ (stay ++ hand).map Prod.fst → Nt (lessG H γ1) a) (g : Ag S F (lessG H γ1) F' H') :
    EnvOk K S F' H' σ (ρ.set w (.obj true dw (stay ++ γr))) ∧ OwnNew H0 σ (ρ.set w (.obj true dw (stay ++ γr))) ∧ InHand K S F' H' H0 σ (ρ.set w (.obj true dw (stay ++ γr))) hand ∧ Ag S F0 H0 F' H' := by
  obtain ⟨v, h1, h2, h3⟩ := e.obj hw
  have hwl : w < ρ.length := (List.getElem?_eq_some_iff.mp hw).1
  have old : ∀ b, b ∈ γ1.map Prod.fst → Nt H0 b := fun b z => o w _ _ b hw rfl h1 (by show b ∈ (γ1 ++ γr).map Prod.fst; rw [List.map_append]; exact List.mem_append_left _ z)
  have far : ∀ b, Nt (lessG H γ1) b → b ∈ γr.map Prod.fst → False := fun b z1 z2 => by
    rcases lessG_nt z1 with z | z
    · exact h3.apart b z z2
    · obtain ⟨⟨b', c⟩, hm, rfl⟩ := List.mem_map.mp z2
      obtain ⟨_, u, e1, q1⟩ := h3.right.ok b' c hm
      exact z u e1 q1.no
  have other : ∀ (j : Nat) (s : Sl) (x : Option V) (b : Addr), j ≠ w → ρ[j]? = some s → σ[j]? = some x → s.loc x b → Nt (lessG H γ1) b → False := fun j s x b nj hj hx l z => by
    rcases lessG_nt z with z | z
    · exact e.sep w j _ s _ x b (Ne.symm nj) hw hj rfl h1 hx (by show b ∈ (γ1 ++ γr).map Prod.fst; rw [List.map_append]; exact List.mem_append_left _ z) l
    · exact e.fresh z j s hj x hx l
  have new0 : ∀ b, Nt (lessG H γ1) b → Nt H0 b := fun b z => by
    rcases lessG_nt z with z | z
    · exact old b z
    · exact ag.backN z
  have nR : ∀ b, b ∈ γr.map Prod.fst → b ∉ γ1.map Prod.fst := fun b z1 z2 => h3.apart b z2 z1
  have hmem : ∀ b, b ∈ (stay ++ γr).map Prod.fst → b ∈ stay.map Prod.fst ∨ b ∈ γr.map Prod.fst := fun b z => by
    rw [List.map_append] at z
    exact List.mem_append.mp z
  have nst : ∀ b, b ∈ stay.map Prod.fst → Nt (lessG H γ1) b := fun b z => n b (by rw [List.map_append]; exact List.mem_append_left _ z)
  have nha : ∀ b, b ∈ hand.map Prod.fst → Nt (lessG H γ1) b := fun b z => n b (by rw [List.map_append]; exact List.mem_append_right _ z)
  have qR := h3.right.agL nR g
  refine ⟨EnvOk.put (x₀ := some v) e.len (fun j nj x s hx hj => ?_) (fun _ => h1) ⟨v, rfl, Dat.mono g.fs _ h2, q.left.app qR fun b z1 z2 => far b (nst b z1) z2⟩ (fun j s x b nj hj hx l1 l2 => ?_) (fun j l s s' x x' b n1 n2 n3 hj hl m1 hx hx' l1 l2 => e.sep j l s s' x x' b n3 hj hl m1 hx hx' l1 l2), fun j s x b hj m hx l => ?_, ⟨q.right, fun b z => new0 b (nha b z), fun b z j s hj x hx l => ?_⟩, ag.less old d0 g⟩
  · exact (e.ok j x s hx hj).agL (fun b l z => e.sep w j _ s _ x b (Ne.symm nj) hw hj rfl h1 hx (by show b ∈ (γ1 ++ γr).map Prod.fst; rw [List.map_append]; exact List.mem_append_left _ z) l) g
  · rcases hmem b l2 with z | z
    · exact other j s x b nj hj hx l1 (nst b z)
    · exact e.sep w j _ s _ x b (Ne.symm nj) hw hj rfl h1 hx (by show b ∈ (γ1 ++ γr).map Prod.fst; rw [List.map_append]; exact List.mem_append_right _ z) l1
  · by_cases z : w = j
    · subst z
      rw [List.getElem?_set_self hwl] at hj
      cases hj
      rcases hmem b l with z | z
      · exact new0 b (nst b z)
      · exact o w _ _ b hw rfl h1 (by show b ∈ (γ1 ++ γr).map Prod.fst; rw [List.map_append]; exact List.mem_append_right _ z)
    · rw [List.getElem?_set_ne z] at hj
      exact o j s x b hj m hx l
  · by_cases y : w = j
    · subst y
      rw [List.getElem?_set_self hwl] at hj
      cases hj
      rcases hmem b l with y | y
      · exact q.apart b y z
      · exact far b (nha b z) y
    · rw [List.getElem?_set_ne y] at hj
      exact other j s x b (Ne.symm y) hj hx l (nha b z)
theorem evx_call (w : Nat) {f : FC} (h : EvA K S tr ρ fun xs => ∃ dw γ1 γr, ρ[w]? = some (.obj true dw (γ1 ++ γr)) ∧ f xs γ1 fun d γ' => ∃ stay hand, γ' = stay ++ hand ∧ Θ d hand (ρ.set w (.obj true dw (stay ++ γr)))) : EvX K S (tCall (spC K f) [] E0 tr) ρ Θ := fun F0 H0 σ F H e o ag d0 Q q =>
  h σ F H e ag.ok ag.dr _ fun vs xs F1 H1 ⟨dw, γ1, γr, hw, hf⟩ dd g1 => by
    have e1 := e.ag g1
    have a1 := ag.trans g1 d0
    obtain ⟨v, h1, h2, h3⟩ := e1.obj hw
    rw [List.append_nil]
    refine ⟨S, F1, xs, γ1, _, g1.ok, DrI.less a1 d0 h3.left (fun b z => o w _ _ b hw rfl h1 (by show b ∈ (γ1 ++ γr).map Prod.fst; rw [List.map_append]; exact List.mem_append_left _ z)), a1.st, dd, h3.left, hf, ?_⟩
    rintro u d γ' F' H' ⟨stay, hand, rfl, hΘ⟩ du qg nn g2
    obtain ⟨r1, r2, r3, r4⟩ := back_call e1 o a1 d0 hw qg nn g2
    exact q u d hand _ F' H' hΘ du r1 r2 r3 r4
/-- a call without cells -/
theorem evx_call0 {f : FC} (h : EvA K S tr ρ fun xs => f xs [] fun d γ' => Θ d γ' ρ) : EvX K S (tCall (spC K f) [] E0 tr) ρ Θ := fun F0 H0 σ F H e o ag d0 Q q =>
  h σ F H e ag.ok ag.dr _ fun vs xs F1 H1 hf dd g1 => by
    rw [List.append_nil]
    refine ⟨S, F1, xs, [], _, g1.ok, g1.dr, g1.st, dd, .nil, hf, fun u d γ' F' H' hΘ du qg nn g2 => ?_⟩
    have g2' : Ag S F1 H1 F' H' := g2
    have nn' : ∀ a, a ∈ γ'.map Prod.fst → Nt H1 a := nn
    exact q u d γ' ρ F' H' hΘ du ((e.ag g1).ag g2') o ⟨qg, fun b z => (ag.trans g1 d0).backN (nn' b z), fun b z j s hj x hx l => (e.ag g1).fresh (nn' b z) j s hj x hx l⟩ ((ag.trans g1 d0).trans g2' d0)
end
/-! ### bodies -/
/-- the slot j holds the cells that are handed over -/
def iniC (N : List Str) (ds : List D) (j : Nat) (m : Bool) (dj : D) (γ : Gh) : List Sl := (ini N ds).set j (.obj m dj γ)
theorem env_iniC {F H : Hp} {N : List Str} {vs : List V} (hd : Dats K S F ds vs) (hj : ds[j]? = some d) (g : GhOk K S F H γ) : EnvOk K S F H (L2.start N vs) (iniC N ds j m d γ) := by
  have e := env_ini (H := H) (N := N) hd
  have hjl : j < ds.length := (List.getElem?_eq_some_iff.mp hj).1
  have hr : (ini N ds)[j]? = some (.val d) := by
    unfold ini
    rw [List.getElem?_append_left (by rw [List.length_map]; exact hjl), List.getElem?_map, hj]
    rfl
  obtain ⟨v, h1, h2⟩ := e.val hr
  have s1 : (L2.start N vs).set j (some v) = L2.start N vs := setL_same h1
  have nm : ∀ (i : Nat) (s : Sl), (ini N ds)[i]? = some s → s.held = true → False := by
    intro i s h m
    unfold ini at h
    rw [List.getElem?_append] at h
    split at h
    · rw [List.getElem?_map] at h
      cases e : ds[i]? with
      | none => rw [e] at h; cases h
      | some d => rw [e] at h; cases h; cases m
    · have := List.mem_of_getElem? h
      rw [(List.mem_replicate.mp this).2] at m
      cases m
  have e2 := e.newG (i := j) (s₀ := .obj m d γ) (v := v) (fun l s x b _ hl _ l1 _ => nm l s hl (Sl.lh l1)) ⟨v, rfl, h2, g⟩
  rw [s1] at e2
  exact e2
theorem own_iniC {H0 : Hp} {N : List Str} {vs : List V} (h : ∀ b, b ∈ γ.map Prod.fst → Nt H0 b) : OwnNew H0 (L2.start N vs) (iniC N ds j true d γ) := by
  intro i s x a hi m hx l
  by_cases z : j = i
  · subst z
    have hl : j < (ini N ds).length := by have := (List.getElem?_eq_some_iff.mp hi).1; unfold iniC at this; rw [List.length_set] at this; exact this
    unfold iniC at hi
    rw [List.getElem?_set_self hl] at hi
    cases hi
    exact h a l
  · unfold iniC at hi
    rw [List.getElem?_set_ne z] at hi
    exact own_ini (H0 := H0) (N := N) (vs := vs) i s x a hi m hx l
theorem body_ofC {f : FC} {N : List Str} {vs : List V} {H : Hp} {Q : VK} {E : XK} (j : Nat) (h : spC K f vs H Q E) (hb : ∀ S ds γ Θ, f ds γ Θ → ∃ dj, ds[j]? = some dj ∧ ExD K S t (iniC N ds j true dj γ) { nx := fun ρ => ∃ dw γ', ρ[j]? = some (.obj true dw γ') ∧ Θ .non γ', rt := fun _ => False, rx := Θ }) : t { nx := fun _ H' => Q .non H', rt := Q } (L2.start N vs) H := by
  obtain ⟨S, F, ds, γ, Θ, s, dr, ds0, hd, hg, hf, q⟩ := h
  obtain ⟨dj, hj, hb⟩ := hb S ds γ Θ hf
  have a0 : Ag S F (lessG H γ) F H := Ag0.up ⟨Same.refl F, s, fun b o _ z _ => (lessG_some z).2, fun b z => .inl z, ds0⟩ dr
  have nL : ∀ b, b ∈ γ.map Prod.fst → Nt (lessG H γ) b := fun b z => .of (lessG_in z)
  refine hb F (lessG H γ) _ F H (env_iniC hd hj hg) (own_iniC nL) a0 dr _ ⟨?_, fun _ _ _ _ h => h.elim, fun _ _ _ _ h => h.elim, fun _ _ _ _ h => h.elim, fun _ _ _ _ _ h => h.elim, fun v d γ' F' H' h1 h2 h3 h4 g => q v d γ' F' H' h1 h2 h3 h4 g⟩
  rintro σ ρ F' H' ⟨dw, γ', hw, hΘ⟩ e' o' g'
  obtain ⟨v, h1, _, h3⟩ := e'.obj hw
  exact q .non .non γ' F' H' hΘ rfl h3 (fun b z => o' j _ _ b hw rfl h1 z) g'
/-- a def without cells at its begin -/
theorem body_ofC0 {f : FC} {N : List Str} {vs : List V} {H : Hp} {Q : VK} {E : XK} (h : spC K f vs H Q E) (hb : ∀ S ds γ Θ, f ds γ Θ → γ = [] ∧ ExD K S t (ini N ds) { nx := fun _ => Θ .non [], rt := fun d => Θ d [], rx := Θ, ro := fun ds => ∀ a, Θ (pD a) [(a, .l ds)] }) : t { nx := fun _ H' => Q .non H', rt := Q } (L2.start N vs) H := by
  obtain ⟨S, F, ds, γ, Θ, s, dr, ds0, hd, hg, hf, q⟩ := h
  obtain ⟨rfl, hb⟩ := hb S ds γ Θ hf
  have dr' : DrI S F H := dr
  have q' : ∀ v d γ' F' H', Θ d γ' → Dat K S F' d v → GhOk K S F' H' γ' → (∀ a, a ∈ γ'.map Prod.fst → Nt H a) → Ag S F H F' H' → Q v H' := q
  refine hb F H _ F H (env_ini hd) own_ini (Ag.refl s dr') dr' _ ⟨fun σ ρ F' H' h1 _ _ a => q' .non .non [] F' H' h1 rfl .nil (fun _ h => nomatch h) a, fun v d F' H' h1 h2 a => q' v d [] F' H' h1 h2 .nil (fun _ h => nomatch h) a, fun _ _ _ _ h => h.elim, fun _ _ _ _ h => h.elim, fun p vs ds F' H' h1 h2 h3 h4 h5 g => ?_, fun v d γ' F' H' h1 h2 h3 h4 g => q' v d γ' F' H' h1 h2 h3 h4 g⟩
  refine q' (.ref p) (pD p) [(p, .l ds)] F' H' (h1 p) rfl ⟨by simp, fun b c hm => ?_⟩ (fun b hb => ?_) g
  · cases List.mem_singleton.mp hm
    exact ⟨⟨h3, dr'.1.ne h2⟩, _, h4, vs, rfl, h5⟩
  · rw [show b = p from List.mem_singleton.mp hb]
    exact h2
end
end
/-! Errors at the level of the heap: defs that may raise, their calls, raise without fields. -/
section
set_option maxRecDepth 100000
set_option maxHeartbeats 2000000
open PySem PySem.Spec PyProof.Rows L2
section
variable (P : Program) (w : World) (K : PySem.W.Frag) (mg : Str → Option Value) (base : Heap)
/-- the def x keeps sp, and may raise -/
def CalX (k : Nat) (x : Str) (ps : List Str) (sp : Sp) : Prop :=
  ∃ (f : Addr) (fd : FuncData), mg x = some (.ref f) ∧ PySem.W.keepIn K (.ref f) = true ∧ Binds K fd ps [] ∧ FnOk P w K mg base (L2.CX P w) k f fd ps sp
/-- the method m of the class at C, which may raise -/
def CalMX (k : Nat) (C : Addr) (m : Str) (ps : List Str) (sp : Sp) : Prop :=
  ∃ (f : Addr) (fd : FuncData), Meth K C m f ∧ Binds K fd ps [] ∧ FnOk P w K mg base (L2.CX P w) k f fd ps sp
/-- the class x at C, whose __init__ may raise -/
def CalCX (k : Nat) (x : Str) (C : Addr) (ps : List Str) (sp : Sp) : Prop :=
  mg x = some (.ref C) ∧ PySem.W.makesIn K C = true ∧ PySem.W.keepIn K (.ref C) = true ∧ CalMX P w K mg base k C "__init__" ps sp
end
/-- the context of a def's body that may raise, what is raised being told to E -/
abbrev cxX (P : Program) (w : World) (K : PySem.W.Frag) (mg : Str → Option Value) (base : Heap) (N : List Str) (qual : Str) (scope : Scope) (f : Addr) (cd : Value) (A : Around) (outer : List Env) (s : Shared) (H : Hp) (E : XK) : Cx where
  prog := P
  w := w
  K := K
  mg := mg
  base := base
  A := A.deeper (envOfC qual scope s.heap.objs.size f cd)
  N := N
  s_0 := s
  H_0 := H
  env := envOfC qual scope s.heap.objs.size f cd
  outer := outer
  stack := envOfC qual scope s.heap.objs.size f cd :: outer
  ex := []
  calm := true
  fn := fun _ => true
  pn := []
  xe := fun e s' => wpAny (model P w) (A.deeper (envOfC qual scope s.heap.objs.size f cd)) (leaving (envOfC qual scope s.heap.objs.size f cd) e) (fun _ s2 => L2.CX P w outer H s E e s2) (fun e' s2 => L2.CX P w outer H s E e' s2) s'
section
variable {P : Program} {w : World} {K : PySem.W.Frag} {mg : Str → Option Value} {base : Heap}
theorem CalX.of {x : Str} {st : Stmt} {N ps : List Str} {k : Nat} {sp : Sp} (D : Def K mg x st) (S : FnScope N ps (defScope st))
    (hb : ∀ (kV doc pm : Value) (an : Option Addr) (cdv ct : Value) (us : List Value), us.length = ps.length → bindArgs (PySem.W.fnOf x x (defArgs st) (defBody st) (defScope st) .none kV doc pm an cdv ct) ⟨us, []⟩ = pure (ps.zip us))
    (len : ∀ vs H Q E, sp vs H Q E → vs.length = ps.length)
    (hbody : ∀ (f : Addr) (cdv : Value) (A : Around) (outer : List Env) (s : Shared) (H : Hp) (vs : List V) (Q : VK) (E : XK), Room k (A.deeper (envOfC x (defScope st) s.heap.objs.size f cdv)) → sp vs H Q E →
      ∃ t, PSs (cxX P w K mg base N x (defScope st) f cdv A outer s H E) (defBody st) t ∧ t { nx := fun _ H' => Q .non H', rt := Q } (start N vs) H) : CalX P w K mg base (k + 1) x ps sp := by
  obtain ⟨f, fd, hm, F⟩ := D
  exact ⟨f, fd, hm, F.kp, F.bindsN hb, F.ok S len fun cdv A outer s H vs Q E hr h => hbody f cdv A outer s H vs Q E hr h⟩
theorem CalMX.of {C : Addr} {m q : Str} {st : Stmt} {N ps : List Str} {k : Nat} {sp : Sp} (D : DefM K C m q st) (S : FnScope N ps (defScope st))
    (hb : ∀ (kV doc pm : Value) (an : Option Addr) (cdv ct : Value) (us : List Value), us.length = ps.length → bindArgs (PySem.W.fnOf m q (defArgs st) (defBody st) (defScope st) .none kV doc pm an cdv ct) ⟨us, []⟩ = pure (ps.zip us))
    (len : ∀ vs H Q E, sp vs H Q E → vs.length = ps.length)
    (hbody : ∀ (f : Addr) (cdv : Value) (A : Around) (outer : List Env) (s : Shared) (H : Hp) (vs : List V) (Q : VK) (E : XK), Room k (A.deeper (envOfC q (defScope st) s.heap.objs.size f cdv)) → sp vs H Q E →
      ∃ t, PSs (cxX P w K mg base N q (defScope st) f cdv A outer s H E) (defBody st) t ∧ t { nx := fun _ H' => Q .non H', rt := Q } (start N vs) H) : CalMX P w K mg base (k + 1) C m ps sp := by
  obtain ⟨f, fd, hm, F⟩ := D
  exact ⟨f, fd, hm, F.bindsN hb, F.ok S len fun cdv A outer s H vs Q E hr h => hbody f cdv A outer s H vs Q E hr h⟩
/-- a promise that is kept without an error -/
theorem fn_calm {k : Nat} {f : Addr} {fd : FuncData} {ps : List Str} {sp sp' : Sp} (F : FnOk P w K mg base (L2.CX P w) k f fd ps sp) (h : ∀ vs H Q E, sp' vs H Q E → sp vs H Q E0) : FnOk P w K mg base CX0 k f fd ps sp' := by
  refine ⟨fun vs H Q E q => F.len vs H Q E0 (h _ _ _ _ q), fun A outer s H args us vs Q E hr he hb hv hs => ?_⟩
  refine codeAny_mono (F.run A outer s H args us vs Q E0 hr he hb hv (h _ _ _ _ hs)) fun r s' q => ?_
  cases r with
  | error e =>
    obtain ⟨_, _, _, _, _, _, _, _, _, _, _, _, z⟩ := q
    exact z.elim
  | ok fl => cases fl <;> exact q
theorem CalX.calm {x : Str} {ps : List Str} {j k : Nat} {sp sp' : Sp} (C : CalX P w K mg base j x ps sp) (hk : j ≤ k) (h : ∀ vs H Q E, sp' vs H Q E → sp vs H Q E0) : Cal P w K mg base k x ps sp' := by
  obtain ⟨f, fd, a, b, c, d⟩ := C
  exact ⟨f, fd, a, b, c, (fn_calm d h).mono hk⟩
theorem CalMX.calm {C : Addr} {m : Str} {ps : List Str} {j k : Nat} {sp sp' : Sp} (c : CalMX P w K mg base j C m ps sp) (hk : j ≤ k) (h : ∀ vs H Q E, sp' vs H Q E → sp vs H Q E0) : CalM P w K mg base k C m ps sp' := by
  obtain ⟨f, fd, a, b, d⟩ := c
  exact ⟨f, fd, a, b, (fn_calm d h).mono hk⟩
end
section
variable {X : Cx} {k j : Nat} {ps : List Str} {sp : Sp} {x m : Str} {C : Addr} {p pos apos : Pos} {e o : Expr} {es : List Expr} {ta : TE} {t : TA} {E : XK}
/-- x op y, both of the class at C, with errors -/
def rOwnX (C : Addr) (sp : Sp) (E : XK) : R2 := fun x y H Q => ∃ a b dx fs dy gs, x = .ref a ∧ y = .ref b ∧ H a = some (.ins C dx fs) ∧ H b = some (.ins C dy gs) ∧ sp [x, y] H Q E
/-! ### raise X() -/
/-- what is known of an own error class without an __init__ -/
structure Xc0 (K : PySem.W.Frag) (mg : Str → Option Value) (x : Str) (C : Addr) : Prop where
  g : mg x = some (.ref C)
  ex : PySem.W.excIn K C [.type "ValueError", .type "Exception", .type "BaseException", .type "object"] "ValueError.__new__" = true
  kp : PySem.W.keepIn K (.ref C) = true
  sb : PySem.W.subIn K (.ref C) (.type "BaseException") = some true
  ty : PySem.W.typeIn K (.ref C) = some (.type "type")
  te : PySem.W.exmOne K (.ref C) (.ref C) = some true
/-- raise X() -/
def tRz (C : Addr) (E : XK) : TS := fun _ _ H => E (.ref C) none H
end
end
/-! Errors at the level of data. -/
section
set_option maxRecDepth 100000
set_option maxHeartbeats 2000000
open PySem PySem.Spec PyProof.Rows L2
/-- an error: its class, the names and the things of its fields -/
structure Ex where
  C : Addr
  ns : List Str
  ds : List D
section
variable (K : PySem.W.Frag) (S : Sx)
/-- the dict of an error tells x -/
def ExOk (F : Hp) (x : Ex) : Option Addr → Prop
  | none => x.ns = [] ∧ x.ds = []
  | some d => ∃ fs : List (Str × V), F d = some (.xd fs) ∧ fs.map Prod.fst = x.ns ∧ Dats K S F x.ds (fs.map Prod.snd)
/-- what is raised as Ψ says is taken by E -/
def XP (E : XK) (Ψ : Ex → Prop) : Prop := ∀ (F H : Hp) (x : Ex) (dct : Option Addr), S.W F H → Ψ x → ExOk K S F x dct → E (.ref x.C) dct H
end
abbrev FX := List D → (D → Prop) → (Ex → Prop) → Prop
abbrev FIX := List D → (List Str → List D → Prop) → (Ex → Prop) → Prop
/-- a promise at the level of data, with errors -/
def spX (K : PySem.W.Frag) (f : FX) : Sp := fun vs H Q E => ∃ S F ds Φ Ψ, Same F H ∧ DrI S F H ∧ Dats K S F ds vs ∧ f ds Φ Ψ ∧ (∀ v d F' H', Φ d → Dat K S F' d v → Ag S F H F' H' → Q v H') ∧
  ∀ x dct F' H', Ψ x → ExOk K S F' x dct → Ag S F H F' H' → E (.ref x.C) dct H'
/-- an __init__'s promise, with errors -/
def spIX (K : PySem.W.Frag) (C : Addr) (f : FIX) : Sp := fun vs H Q E => ∃ S F p dx ws ds Φ Ψ, vs = .ref p :: ws ∧ H p = some (.ins C dx []) ∧ Prv S F p ∧ Same F H ∧ (DrI S F (less H p) ∧ DrS S F H) ∧ Dats K S F ds ws ∧ f ds Φ Ψ ∧
  (∀ ns es gs F' H', Φ ns es → H' p = some (.ins C dx gs) → gs.map Prod.fst = ns → Dats K S F' es (gs.map Prod.snd) → F' p = none → Ag S F (less H p) F' H' → Q .non H') ∧
  ∀ x dct F' H', Ψ x → ExOk K S F' x dct → Ag S F (less H p) F' H' → E (.ref x.C) dct H'
section
variable {K : PySem.W.Frag} {S : Sx} {ρ : List Sl} {Φ : D → Prop} {Ψ : Ex → Prop} {O : Oc} {te : TE} {tr : TA} {t u : TS} {E : XK} {xs ys ds : List D}
theorem ExOk.cast {S' : Sx} {F : Hp} {x : Ex} {dct : Option Addr} (h : S.ds = S'.ds) (q : ExOk K S F x dct) : ExOk K S' F x dct := by
  cases dct with
  | none => exact q
  | some d =>
    obtain ⟨fs, h1, h2, h3⟩ := q
    exact ⟨fs, h1, h2, Dats.cast h _ h3⟩
theorem DrI.now {F H : Hp} (d : DrI S F H) (s : Same F H) : S.W F H := d.2 F H (.refl s d.1)
theorem XP.imp {Ψ' : Ex → Prop} (h : XP K S E Ψ) (k : ∀ x, Ψ' x → Ψ x) : XP K S E Ψ' := fun F H x dct w q o => h F H x dct w (k x q) o
theorem ev_callX {f : FX} (hx : XP K S E Ψ) (h : EvA K S tr ρ fun xs => f xs Φ Ψ) : EvD K S (tCall (spX K f) [] E tr) ρ Φ := fun σ F H e s dr Q q =>
  h σ F H e s dr _ fun vs xs F1 H1 hf dd g1 => by
    rw [List.append_nil]
    exact ⟨S, F1, xs, Φ, Ψ, g1.ok, g1.dr, dd, hf, fun v d F' H' hd dd' g2 => q v d F' H' hd dd' (g1.trans g2 dr), fun x dct F' H' hp ok g2 => hx F' H' x dct (g2.dr.now g2.ok) hp ok⟩
theorem ev_methX {C : Addr} {m : Str} {f : FX} (hx : XP K S E Ψ) (h : EvD K S te ρ fun x => insD C m x ∧ EvA K S tr ρ fun xs => f (x :: xs) Φ Ψ) : EvD K S (tMeth C m (spX K f) [] E te tr) ρ Φ := fun σ F H e s dr Q q =>
  h σ F H e s dr _ fun v x F1 H1 ⟨⟨ns, ds, hi, hm⟩, hA⟩ dd g1 => by
    subst hi
    obtain ⟨a, dx, gs, rfl, h3, h4, h5⟩ := id dd
    refine ⟨a, dx, gs, rfl, g1.ok _ _ h3, lookup_no (by rw [h4]; exact hm), hA σ F1 H1 (e.ag g1) g1.ok g1.dr _ fun vs xs F2 H2 hf dd2 g2 => ?_⟩
    rw [List.append_nil]
    exact ⟨S, F2, .ins C ns ds :: xs, Φ, Ψ, g2.ok, g2.dr, ⟨_, _, rfl, Dat.mono g2.fs _ dd, dd2⟩, hf, fun v d F' H' hd dd' g3 => q v d F' H' hd dd' ((g1.trans g2 dr).trans g3 dr), fun x dct F' H' hp ok g3 => hx F' H' x dct (g3.dr.now g3.ok) hp ok⟩
theorem od_ownX {C : Addr} {f : FX} {ns ns' : List Str} (hx : XP K S E Ψ) (h : f [.ins C ns xs, .ins C ns' ys] Φ Ψ) : OpD K S (rOwnX C (spX K f) E) (.ins C ns xs) (.ins C ns' ys) Φ := fun u w F H s dr h1 h2 Q q => by
  obtain ⟨a, dx, gs, rfl, h3, _⟩ := id h1
  obtain ⟨b, dy, hs, rfl, h4, _⟩ := id h2
  exact ⟨a, b, dx, gs, dy, hs, rfl, rfl, s _ _ h3, s _ _ h4, S, F, [_, _], Φ, Ψ, s, dr, ⟨_, _, rfl, h1, _, _, rfl, h2, rfl⟩, h, q, fun x dct F' H' hp ok g => hx F' H' x dct (g.dr.now g.ok) hp ok⟩
theorem ev_makeX {C : Addr} {f : FIX} (hx : XP K S E Ψ) (h : EvA K S tr ρ fun xs => f xs (fun ns es => Φ (.ins C ns es)) Ψ) : EvD K S (tMake C (spIX K C f) [] E tr) ρ Φ := fun σ F H e s dr Q q =>
  h σ F H e s dr _ fun vs xs F1 H1 hf dd g1 => by
    intro p dx np ndx nd
    have nS := g1.dr.ne np
    have nF : F1 p = none := g1.ok.free np
    rw [List.append_nil]
    have hL : less (upd (upd H1 dx (.own p)) p (.ins C dx [])) p = upd H1 dx (.own p) := by
      funext b
      show (if b = p then none else _) = _
      by_cases w : b = p
      · rw [if_pos w, w, upd_ne nd.symm, np]
      · rw [if_neg w, upd_ne w]
    have g0 : Ag S F1 H1 F1 (upd H1 dx (.own p)) := (Ag.refl g1.ok g1.dr).newH g1.dr ndx
    refine ⟨S, F1, p, dx, vs, xs, _, _, rfl, upd_same, ⟨nF, nS⟩, ?_, ⟨by rw [hL]; exact g0.dr, g0.st.new (by rw [upd_ne nd.symm]; exact np)⟩, dd, hf, fun ns es gs F' H' hΦ h1 h2 h3 h4 g2 => ⟨rfl, ?_⟩, fun x dct F' H' hp ok g3 => hx F' H' x dct (g3.dr.now g3.ok) hp ok⟩
    · intro b o hb
      exact upd_old (upd_new (g1.ok _ _ hb) ndx) (ne_of_none hb nF)
    · rw [hL] at g2
      refine q (.ref p) (.ins C ns es) (upd F' p (.ins C dx gs)) H' hΦ ⟨p, dx, gs, rfl, upd_same, h2, Dats.mono (fun b o z => upd_new z h4) es h3⟩ (g1.trans ?_ dr)
      exact (g0.trans g2 g1.dr).frz g1.dr (.of np) h4 h1 fun s e => (nS s e).1
/-- raise X() -/
theorem ex_rz {C : Addr} (hx : XP K S E Ψ) (h : Ψ ⟨C, [], []⟩) : ExD K S (tRz C E) ρ O := fun F0 H0 σ F H e o a d0 En f => hx F H ⟨C, [], []⟩ none (a.dr.now a.ok) h ⟨rfl, rfl⟩
/-! ### bodies of defs that may raise -/
/-- S, with another thing kept for errors -/
def Sx.wi (S : Sx) (W : Hp → Hp → Prop) : Sx := { S with W := W }
theorem Ag0.wi {F H F' H' : Hp} {W : Hp → Hp → Prop} (a : Ag0 (S.wi W) F H F' H') : Ag0 S F H F' H' := ⟨a.fs, a.ok, a.ch, a.nw, a.st⟩
theorem Ag.unwi {F H F' H' : Hp} {W : Hp → Hp → Prop} (a : Ag (S.wi W) F H F' H') (d : DrI S F H) : Ag S F H F' H' := a.toAg0.wi.up d
theorem Dats.towi {F : Hp} {W : Hp → Hp → Prop} {vs : List V} (h : Dats K S F ds vs) : Dats K (S.wi W) F ds vs := Dats.cast (S := S) (S' := S.wi W) rfl ds h
theorem Dat.unwi {F : Hp} {W : Hp → Hp → Prop} {d : D} {v : V} (h : Dat K (S.wi W) F d v) : Dat K S F d v := Dat.cast (S := S.wi W) (S' := S) rfl d h
theorem EnvOk.towi {F H : Hp} {W : Hp → Hp → Prop} {σ : L2.St} (h : EnvOk K S F H σ ρ) : EnvOk K (S.wi W) F H σ ρ := EnvOk.cast (S := S) (S' := S.wi W) rfl h
theorem EnvOk.unwi {F H : Hp} {W : Hp → Hp → Prop} {σ : L2.St} (h : EnvOk K (S.wi W) F H σ ρ) : EnvOk K S F H σ ρ := EnvOk.cast (S := S.wi W) (S' := S) rfl h
theorem ExOk.unwi {F : Hp} {W : Hp → Hp → Prop} {x : Ex} {dct : Option Addr} (h : ExOk K (S.wi W) F x dct) : ExOk K S F x dct := ExOk.cast (S := S.wi W) (S' := S) rfl h
/-- what is kept for a def's own end by errors -/
def WX0 (K : PySem.W.Frag) (S : Sx) (E : XK) (Ψ : Ex → Prop) : Hp → Hp → Prop := fun F H => ∀ x dct, Ψ x → ExOk K S F x dct → E (.ref x.C) dct H
theorem xp_wi : XP K (S.wi (WX0 K S E Ψ)) E Ψ := fun F H x dct w q o => w x dct q o.unwi
theorem dr_wi {F H : Hp} (d : DrI S F H) (h : ∀ x dct F' H', Ψ x → ExOk K S F' x dct → Ag S F H F' H' → E (.ref x.C) dct H') : DrI (S.wi (WX0 K S E Ψ)) F H :=
  ⟨d.1, fun F' H' a x dct hp ok => h x dct F' H' hp ok (a.wi.up d)⟩
theorem body_ofX {f : FX} {N : List Str} {vs : List V} {H : Hp} {Q : VK} (h : spX K f vs H Q E) (hb : ∀ S Ψ, XP K S E Ψ → ∀ ds Φ, f ds Φ Ψ → ExD K S t (ini N ds) { nx := fun _ => Φ .non, rt := Φ }) : t { nx := fun _ H' => Q .non H', rt := Q } (L2.start N vs) H := by
  obtain ⟨S, F, ds, Φ, Ψ, s, dr, hd, hf, q, qx⟩ := h
  have d2 := dr_wi (K := K) (E := E) dr qx
  exact hb (S.wi (WX0 K S E Ψ)) Ψ xp_wi ds Φ hf F H _ F H (env_ini hd.towi) own_ini (Ag.refl s d2) d2 _ ⟨fun σ ρ F' H' h1 _ _ a => q .non .non F' H' h1 rfl (a.unwi dr), fun v d F' H' h1 h2 a => q v d F' H' h1 h2.unwi (a.unwi dr), fun _ _ _ _ h => h.elim, fun _ _ _ _ h => h.elim, fun _ _ _ _ _ h => h.elim, fun _ _ _ _ _ h => h.elim⟩
end
section
variable {P : Program} {w : World} {K : PySem.W.Frag} {mg : Str → Option Value} {base : Heap}
theorem CalX.ofD {x : Str} {st : Stmt} {N ps : List Str} {k : Nat} {f : FX} (D : Def K mg x st) (S : FnScope N ps (defScope st))
    (hb : ∀ (kV doc pm : Value) (an : Option Addr) (cdv ct : Value) (us : List Value), us.length = ps.length → bindArgs (PySem.W.fnOf x x (defArgs st) (defBody st) (defScope st) .none kV doc pm an cdv ct) ⟨us, []⟩ = pure (ps.zip us))
    (len : ∀ ds Φ Ψ, f ds Φ Ψ → ds.length = ps.length)
    (hbody : ∀ (fa : Addr) (cdv : Value) (A : Around) (outer : List Env) (s : Shared) (H : Hp) (E : XK), Room k (A.deeper (envOfC x (defScope st) s.heap.objs.size fa cdv)) →
      ∃ t, PSs (cxX P w K mg base N x (defScope st) fa cdv A outer s H E) (defBody st) t ∧ ∀ S Ψ, XP K S E Ψ → ∀ ds Φ, f ds Φ Ψ → ExD K S t (ini N ds) { nx := fun _ => Φ .non, rt := Φ }) : CalX P w K mg base (k + 1) x ps (spX K f) := by
  refine CalX.of D S hb (fun vs H Q E h => ?_) (fun fa cdv A outer s H vs Q E hr h => ?_)
  · obtain ⟨_, _, ds, Φ, Ψ, _, _, hd, hf, _⟩ := h
    rw [hd.length]
    exact len ds Φ Ψ hf
  · obtain ⟨t, h1, h2⟩ := hbody fa cdv A outer s H E hr
    exact ⟨t, h1, body_ofX h h2⟩
theorem CalMX.ofD {C : Addr} {m q : Str} {st : Stmt} {N ps : List Str} {k : Nat} {f : FX} (D : DefM K C m q st) (S : FnScope N ps (defScope st))
    (hb : ∀ (kV doc pm : Value) (an : Option Addr) (cdv ct : Value) (us : List Value), us.length = ps.length → bindArgs (PySem.W.fnOf m q (defArgs st) (defBody st) (defScope st) .none kV doc pm an cdv ct) ⟨us, []⟩ = pure (ps.zip us))
    (len : ∀ ds Φ Ψ, f ds Φ Ψ → ds.length = ps.length)
    (hbody : ∀ (fa : Addr) (cdv : Value) (A : Around) (outer : List Env) (s : Shared) (H : Hp) (E : XK), Room k (A.deeper (envOfC q (defScope st) s.heap.objs.size fa cdv)) →
      ∃ t, PSs (cxX P w K mg base N q (defScope st) fa cdv A outer s H E) (defBody st) t ∧ ∀ S Ψ, XP K S E Ψ → ∀ ds Φ, f ds Φ Ψ → ExD K S t (ini N ds) { nx := fun _ => Φ .non, rt := Φ }) : CalMX P w K mg base (k + 1) C m ps (spX K f) := by
  refine CalMX.of D S hb (fun vs H Q E h => ?_) (fun fa cdv A outer s H vs Q E hr h => ?_)
  · obtain ⟨_, _, ds, Φ, Ψ, _, _, hd, hf, _⟩ := h
    rw [hd.length]
    exact len ds Φ Ψ hf
  · obtain ⟨t, h1, h2⟩ := hbody fa cdv A outer s H E hr
    exact ⟨t, h1, body_ofX h h2⟩
end
/-! ### try -/
section
variable {K : PySem.W.Frag} {S : Sx} {ρ : List Sl} {Ψ : Ex → Prop} {O : Oc} {tb : WX → TS} {ts : Addr → Value → Option Addr → TS} {Wout : WX} {c : Value} {n : Nat}
end
end
/-! Errors of own classes whose __init__ says super().__init__(x) and keeps x in a field. -/
section
set_option maxRecDepth 100000
set_option maxHeartbeats 4000000
open PySem PySem.Spec PyProof.Rows L2
/-- the names of such an __init__ -/
structure XiS (f : Str) (scope : Scope) : Prop where
  kind : scope.kind = .function
  co : scope.isCoroutine = false
  gen : scope.isGenerator = false
  cell : ∀ y ∈ scope.names, y.2 ≠ .cell
  free : ∀ y ∈ scope.names, y.2 = .free → y.1 = "__class__"
  sup : scope.names.lookup ("super" : Str) = some .globalImplicit
  cls : scope.names.lookup ("__class__" : Str) = some .free
  slf : scope.names.lookup ("self" : Str) = some .local
  fld : scope.names.lookup f = some .local
  ne : f ≠ "self"
section
variable {P : Program} {w : World} {K : PySem.W.Frag} {mg : Str → Option Value} {base : Heap} {C fI cc cda : Addr} {f q : Str} {scope : Scope}
/-- the promise of such an __init__ -/
def spXi (C : Addr) (f : Str) : Sp := fun vs H Q _ => ∃ (a : Addr) (v : V), vs = [.ref a, v] ∧ H a = some (exo a C none) ∧ ∀ dx, H dx = none → dx ≠ a → Q .non (upd (upd H dx (exd dx [(f, v)])) a (exo a C (some dx)))
end
end
/-! try with several clauses, with and without names; raise X(e). -/
section
set_option maxRecDepth 100000
set_option maxHeartbeats 4000000
open PySem PySem.Spec PyProof.Rows L2
/-- a clause: its class, the slot of its name, its suite's reading -/
structure Hdl where
  c : Value
  i : Option Nat
  ts : Addr → Value → Option Addr → TS
/-- behind a suite its name is gone -/
def hid (D : Ends) (i : Nat) : Ends := { nx := fun σ H => D.nx (σ.set i none) H, rt := D.rt, bk := fun σ H => D.bk (σ.set i none) H, ct := fun σ H => D.ct (σ.set i none) H }
def Hdl.go (h : Hdl) (a : Addr) (cls : Value) (d : Option Addr) (D : Ends) (σ : L2.St) (H : Hp) : Prop := match h.i with
  | none => h.ts a cls d D σ H
  | some i => h.ts a cls d (hid D i) (σ.set i (some (.ref a))) H
def wAll (K : PySem.W.Frag) (Wout : WX) (D : Ends) : List Hdl → WX
  | [] => Wout
  | h :: r => fun cls d σ H => ∃ b, PySem.W.exmOne K cls h.c = some b ∧ (b = true → ∀ a, H a = none → h.go a cls d D σ H) ∧ (b = false → wAll K Wout D r cls d σ H)
inductive HdsA (X : Cx) : List ExceptHandler → List Hdl → Prop
  | nil : HdsA X [] []
  | one {x : Str} {c : Value} {ts : Addr → Value → Option Addr → TS} {b₀ : Stmt} {suite : List Stmt} {np po : Pos} {hds : List ExceptHandler} {l : List Hdl} (hc : Names X x c)
      (su : ∀ (a : Addr) (oe : Obj) (cls : Value) (d : Option Addr) (pn : List (Addr × Obj)), Zc cls d oe → (∃ vs, oe.data = .fields vs) → PSs (X.suite a ((a, oe) :: pn)) (b₀ :: suite) (ts a cls d)) (r : HdsA X hds l) :
      HdsA X (.ExceptHandler (some (.Name x np)) none (b₀ :: suite) po :: hds) (⟨c, none, ts⟩ :: l)
  | as {x n : Str} {i : Nat} {c : Value} {ts : Addr → Value → Option Addr → TS} {b₀ : Stmt} {suite : List Stmt} {np po : Pos} {hds : List ExceptHandler} {l : List Hdl} (hN : X.N.Nodup) (hi : X.N[i]? = some n) (hl : X.env.kindOf n = some .local) (hc : Names X x c)
      (su : ∀ (a : Addr) (oe : Obj) (cls : Value) (d : Option Addr) (pn : List (Addr × Obj)), Zc cls d oe → (∃ vs, oe.data = .fields vs) → PSs (X.suite a ((a, oe) :: pn)) (b₀ :: suite) (ts a cls d)) (r : HdsA X hds l) :
      HdsA X (.ExceptHandler (some (.Name x np)) (some n) (b₀ :: suite) po :: hds) (⟨c, some i, ts⟩ :: l)
section
variable {X : Cx} {body : List Stmt} {h₀ : ExceptHandler} {hds : List ExceptHandler} {l : List Hdl} {pos : Pos} {tb : WX → TS} {Wout : WX}
end
end
/-! raise X(e), try with clauses: at the level of data. -/
section
set_option maxRecDepth 100000
set_option maxHeartbeats 4000000
open PySem PySem.Spec PyProof.Rows L2
/-- what is known of an own error class whose __init__ keeps one field f -/
structure Xc1 (P : Program) (w : World) (K : PySem.W.Frag) (mg : Str → Option Value) (base : Heap) (x : Str) (C : Addr) (f : Str) : Prop where
  g : mg x = some (.ref C)
  oc : OexC K C
  ini : ∃ (fI : Addr) (fd : FuncData), PySem.W.findIn K (.ref C) "__init__" = some (some (.ref fI)) ∧ PySem.W.typeIn K (.ref fI) = some (.type "function") ∧ Binds K fd ["self", f] [] ∧ FnOk P w K mg base CX0 1 fI fd ["self", f] (spXi C f)
  xf : XfC K C
  nf : PySem.W.findIn K (.ref C) f = some none
  te : PySem.W.exmOne K (.ref C) (.ref C) = some true
/-- raise X(e) -/
def tRe (C : Addr) (f : Str) (E : XK) (te : TE) : TS := fun _ σ H => tMkO C (spXi C f) [] (tCons te tNil) σ H fun cls d H' => E cls d H'
section
variable {X : Cx} {j : Nat} {x f : Str} {C : Addr} {p pos pos2 : Pos} {e : Expr} {te : TE} {E : XK}
end
section
variable {K : PySem.W.Frag} {S : Sx} {ρ : List Sl} {Ψ : Ex → Prop} {O : Oc} {te : TE} {E : XK} {C : Addr} {f : Str} {tb : WX → TS} {Wout : WX} {l : List Hdl} {n : Nat}
theorem ex_re (hx : XP K S E Ψ) (h : EvD K S te ρ fun d => Ψ ⟨C, [f], [d]⟩) : ExD K S (tRe C f E te) ρ O := fun F0 H0 σ F H e o a d0 En fi =>
  h σ F H e a.ok a.dr _ fun v d F1 H1 hd dd g1 => by
    show [v].length ≤ 1000 ∧ ∀ b, H1 b = none → spXi C f (.ref b :: ([v] ++ [])) (upd H1 b (exo b C none)) _ _
    refine ⟨Nat.le_of_ble_eq_true rfl, fun b nb => ⟨b, v, rfl, upd_same, fun dx n ne => ⟨rfl, dx, [(f, v)], upd_same, by rw [upd_ne ne, upd_same], new_none n, ?_⟩⟩⟩
    have nd : H1 dx = none := new_none n
    have eq : upd (del (upd (upd (upd H1 b (exo b C none)) dx (exd dx [(f, v)])) b (exo b C (some dx))) b) dx (.xd [(f, v)]) = upd H1 dx (.xd [(f, v)]) := by
      funext c
      by_cases q : c = dx
      · rw [q, upd_same, upd_same]
      · rw [upd_ne q, upd_ne q]
        by_cases q2 : c = b
        · rw [q2, del_same, nb]
        · rw [del_ne q2, upd_ne q2, upd_ne q, upd_ne q2]
    rw [eq]
    have g2 := g1.newF (o := .xd [(f, v)]) a.dr nd
    have nF : F1 dx = none := g1.ok.free nd
    exact hx _ _ ⟨C, [f], [d]⟩ (some dx) (g2.dr.now g2.ok) hd ⟨[(f, v)], upd_same, rfl, Dats.one (Dat.mono (fun c u z => upd_new z nF) d dd)⟩
/-- a clause, at an error x -/
def SuG (K : PySem.W.Frag) (S : Sx) (h : Hdl) (n : Nat) (x : Ex) (O : Oc) : Prop := ∀ (F0 H0 : Hp) (σ : L2.St) (F H : Hp) (dct : Option Addr) (a : Addr), σ.length = n → ExOk K S F x dct → H a = none → Ag S F0 H0 F H → DrI S F0 H0 → ∀ En : Ends, Fin K S F0 H0 O En → h.go a (.ref x.C) dct En σ H
def HdD (K : PySem.W.Frag) (S : Sx) (n : Nat) (x : Ex) (O : Oc) : List Hdl → Prop
  | [] => False
  | h :: r => (PySem.W.exmOne K (.ref x.C) h.c = some true ∧ SuG K S h n x O) ∨ (PySem.W.exmOne K (.ref x.C) h.c = some false ∧ HdD K S n x O r)
theorem HdD.all {x : Ex} {F0 H0 F H : Hp} {σ : L2.St} {dct : Option Addr} {En : Ends} (hσ : σ.length = n) (ok : ExOk K S F x dct) (g : Ag S F0 H0 F H) (d0 : DrI S F0 H0) (fi : Fin K S F0 H0 O En) : ∀ {l : List Hdl}, HdD K S n x O l → wAll K Wout En l (.ref x.C) dct σ H
  | [], h => h.elim
  | h :: r, .inl ⟨e, su⟩ => ⟨true, e, fun _ a na => su F0 H0 σ F H dct a hσ ok na g d0 En fi, fun z => nomatch z⟩
  | h :: r, .inr ⟨e, q⟩ => ⟨false, e, fun z => (nomatch z), fun _ => HdD.all hσ ok g d0 fi q⟩
end
end
/-! Methods called by names; zip of lists or tuples; isinstance of four classes; `is` of truths. -/
section
set_option maxRecDepth 100000
set_option maxHeartbeats 2000000
open PySem PySem.Spec PyProof.Rows L2
/-- the parameters behind the first n by their names, in their order -/
def KwB (K : PySem.W.Frag) (fd : FuncData) (ps : List Str) (n : Nat) : Prop :=
  ∀ (s : Shared) (us ws : List Value), K.In s.heap → us.length = n → ws.length = (ps.drop n).length → BindsTo s fd ⟨us, (ps.drop n).zip ws⟩ (ps.zip (us ++ ws))
def CalMK (P : Program) (w : World) (K : PySem.W.Frag) (mg : Str → Option Value) (base : Heap) (k : Nat) (C : Addr) (m : Str) (ps : List Str) (n : Nat) (sp : Sp) : Prop :=
  ∃ (f : Addr) (fd : FuncData), Meth K C m f ∧ Binds K fd ps [] ∧ KwB K fd ps n ∧ FnOk P w K mg base CX0 k f fd ps sp
section
variable {P : Program} {w : World} {K : PySem.W.Frag} {mg : Str → Option Value} {base : Heap}
theorem CalMK.m {k n : Nat} {C : Addr} {m : Str} {ps : List Str} {sp : Sp} (c : CalMK P w K mg base k C m ps n sp) : CalM P w K mg base k C m ps sp := by
  obtain ⟨f, fd, h1, h2, _, h3⟩ := c
  exact ⟨f, fd, h1, h2, h3⟩
theorem CalMK.ofD {C : Addr} {m q : Str} {st : Stmt} {N ps : List Str} {k n : Nat} {f : FD} (D : DefM K C m q st) (S : FnScope N ps (defScope st))
    (hb : ∀ (kV doc pm : Value) (an : Option Addr) (cdv ct : Value) (us : List Value), us.length = ps.length → bindArgs (PySem.W.fnOf m q (defArgs st) (defBody st) (defScope st) .none kV doc pm an cdv ct) ⟨us, []⟩ = pure (ps.zip us))
    (hk : ∀ (kV doc pm : Value) (an : Option Addr) (cdv ct : Value) (us ws : List Value), us.length = n → ws.length = (ps.drop n).length → bindArgs (PySem.W.fnOf m q (defArgs st) (defBody st) (defScope st) .none kV doc pm an cdv ct) ⟨us, (ps.drop n).zip ws⟩ = pure (ps.zip (us ++ ws)))
    (len : ∀ ds Φ, f ds Φ → ds.length = ps.length)
    (hbody : ∀ (fa : Addr) (cdv : Value) (A : Around) (outer : List Env) (s : Shared) (H : Hp), Room k (A.deeper (envOfC q (defScope st) s.heap.objs.size fa cdv)) →
      ∃ t, PSs (cxR P w K mg base N q (defScope st) fa cdv A outer s H) (defBody st) t ∧ ∀ S ds Φ, f ds Φ → ExD K S t (ini N ds) { nx := fun _ => Φ .non, rt := Φ }) : CalMK P w K mg base (k + 1) C m ps n (spD K f) := by
  obtain ⟨fa, fd, hm, F⟩ := D
  refine ⟨fa, fd, hm, F.bindsN hb, ?_, F.ok S (fun vs H Q E h => ?_) fun cdv A outer s H vs Q E hr h => ?_⟩
  · obtain ⟨oc, od, dV, kV, doc, pm, an, cdv, ct, osl, rfl, lk, hcd, hD, hK⟩ := F.ex
    rcases hD with ⟨_, rfl⟩ | ⟨e, _⟩
    · exact fun s us ws _ l1 l2 => .of_eq (hk kV doc pm an cdv ct us ws l1 l2)
    · exact absurd rfl e
  · obtain ⟨_, _, ds, Φ, _, _, hd, hf, _⟩ := h
    rw [hd.length]
    exact len ds Φ hf
  · obtain ⟨t, h1, h2⟩ := hbody fa cdv A outer s H hr
    exact ⟨t, PSs.nox h1, body_of h h2⟩
end
section
variable {X : Cx} {k j : Nat} {ps ks : List Str} {sp : Sp} {m : Str} {C : Addr} {pos apos : Pos} {o : Expr} {kws : List Keyword} {ta : TE} {t : TA}
end
/-! ### zip -/
def rZipA (K : PySem.W.Frag) (vs : List V) (H1 : Hp) (R : It → Hp → Prop) : Prop := ∃ a b xs ys, vs = [.ref a, .ref b] ∧ ((SqL K H1 a xs ∧ SqL K H1 b ys ∧ R (Itz K a b) H1) ∨ (SqT K H1 a xs ∧ SqT K H1 b ys ∧ R (RZ.ItzT K a b) H1))
theorem q_zipA {X : Cx} (K : PySem.W.Frag) {e e2 : Expr} {ta : TA} {p pos tpos : Pos} {elts : List Expr} {kk : Nat} (hm : X.mg "zip" = none) (ha : PA X [e, e2] ta) (hg : Gl X "zip" := by rfl) (hs : starEach [e, e2] X.env = (false, eval e X.env) :: starEach [e2] X.env := by rfl) (hs2 : (backTo pos (starEach [e2] X.env)).any (·.1) = false := by rfl) (h : X.K = K := by rfl) :
    PI X (.Tuple elts kk tpos) (.Call (.Name "zip" p) [e, e2] [] pos) (iA (rZipA K) ta) := h ▸ RZ.pi_zipA hg hm ha hs hs2
theorem walk_zipT {K : PySem.W.Frag} {a b : Addr} {xs ys : List V} {n : Nat} (hn : n = min xs.length ys.length) : Walk (RZ.ItzT K a b) n (fun H => SqT K H a xs ∧ SqT K H b ys) (YPair (fun i => xs[i]?) (fun i => ys[i]?)) := by
  subst hn
  refine ⟨fun i _ hi q => ?_, fun _ q => ⟨xs, ys, q.1, q.2, by omega⟩, fun i H v H' _ q y => ?_⟩
  · have h1 : i < xs.length := by omega
    have h2 : i < ys.length := by omega
    exact ⟨xs, ys, xs[i], ys[i], q.1, q.2, List.getElem?_eq_getElem h1, List.getElem?_eq_getElem h2⟩
  · obtain ⟨T, x, y, h1, h2, h3, h4, h5⟩ := y
    exact ⟨T, x, y, h1, h2, h3, h4 xs q.1, h5 ys q.2⟩
section
variable {K : PySem.W.Frag} {S : Sx} {ρ : List Sl} {Φ : D → Prop} {Ψ : List D → Prop} {te : TE} {tr : TA}
theorem ei_zipA (h : EvA K S tr ρ fun zs => ∃ xs ys, (zs = [.lst xs, .lst ys] ∨ zs = [.tup xs, .tup ys]) ∧ Ψ (zipD xs ys)) : EvI K S (iA (rZipA K) tr) ρ Ψ := fun σ F H e s dr R q =>
  h σ F H e s dr _ fun vs zs F1 H1 ⟨xs, ys, hx, hΨ⟩ dd g1 => by
    rcases hx with rfl | rfl
    · obtain ⟨v, us, rfl, ⟨a, ws, rfl, h3, h4⟩, v', us', rfl, ⟨b, ws', rfl, h3', h4'⟩, h2⟩ := dd
      cases h2
      refine ⟨a, b, ws, ws', rfl, .inl ⟨sl_of (g1.ok _ _ h3), sl_of (g1.ok _ _ h3'), q _ _ F1 H1 hΨ g1 (itOk_pair (f1 := fun i => ws[i]?) (f2 := fun i => ws'[i]?) ((walk_zip (by rw [zipD_len, h4.length, h4'.length])).mono (fun H hH => ⟨sl_of (hH _ _ h3), sl_of (hH _ _ h3')⟩) fun _ _ _ _ _ _ y => y) fun i v1 v2 hi e1 e2 => ?_)⟩⟩
      obtain ⟨d1, h5, h6⟩ := h4.get' e1
      obtain ⟨d2, h7, h8⟩ := h4'.get' e2
      exact ⟨d1, d2, zipD_at h5 h7, h6, h8⟩
    · obtain ⟨v, us, rfl, ⟨a, ws, rfl, h3, h4⟩, v', us', rfl, ⟨b, ws', rfl, h3', h4'⟩, h2⟩ := dd
      cases h2
      refine ⟨a, b, ws, ws', rfl, .inr ⟨st_sm g1.ok h3, st_sm g1.ok h3', q _ _ F1 H1 hΨ g1 (itOk_pair (f1 := fun i => ws[i]?) (f2 := fun i => ws'[i]?) ((walk_zipT (by rw [zipD_len, h4.length, h4'.length])).mono (fun H hH => ⟨st_sm hH h3, st_sm hH h3'⟩) fun _ _ _ _ _ _ y => y) fun i v1 v2 hi e1 e2 => ?_)⟩⟩
      obtain ⟨d1, h5, h6⟩ := h4.get' e1
      obtain ⟨d2, h7, h8⟩ := h4'.get' e2
      exact ⟨d1, d2, zipD_at h5 h7, h6, h8⟩
def rIsBl : R2 := fun x y H Q => ∃ a b, x = .bl a ∧ y = .bl b ∧ Q (.bl (decide (a = b))) H
theorem o_isbl {X : Cx} : OpR X (compareOp .Is) rIsBl := op_is_bl
theorem od_isbl {a b : Bool} (k : Φ (.bl (decide (a = b)))) : OpD K S rIsBl (.bl a) (.bl b) Φ := fun u w F H s dr h1 h2 Q q => by
  cases h1; cases h2
  exact ⟨a, b, rfl, rfl, q _ _ F H k rfl (Ag.refl s dr)⟩
def is4 (K : PySem.W.Frag) (n m n' m' : String) (x : D) (Χ : Bool → Prop) : Prop := ∃ t b1 b2 b3 b4, TyD K x t ∧ PySem.W.kitOne K t (.type n) = some b1 ∧ PySem.W.kitOne K t (.type m) = some b2 ∧ PySem.W.kitOne K t (.type n') = some b3 ∧ PySem.W.kitOne K t (.type m') = some b4 ∧ Χ (b1 || (b2 || (b3 || b4)))
theorem ev_isi4 {n m n' m' : String} (h : EvD K S te ρ fun x => is4 K n m n' m' x fun b => Φ (.bl b)) : EvD K S (tCB (rIsiT K) (tCons te (tCons (tTup (tCons (tC (.ty n)) (tCons (tC (.ty m)) (tCons (tC (.ty n')) (tCons (tC (.ty m')) tNil))))) tNil))) ρ Φ := fun σ F H e s dr Q q =>
  h σ F H e s dr _ fun v x F1 H1 ⟨t, b1, b2, b3, b4, h1, h2, h3, h4, h5, h6⟩ dd g1 => by
    refine ⟨Nat.le_of_ble_eq_true rfl, fun p np => ?_⟩
    exact k_isi4 upd_same (ty_new (h1.ty dd g1.ok) np) h2 h3 h4 h5 (q _ _ F1 _ h6 rfl (g1.newH dr np))
/-- a def that nobody calls with anything -/
theorem Cal.none {P : Program} {w : World} {mg : Str → Option Value} {base : Heap} {x : Str} {st : Stmt} {ps : List Str} (D : Def K mg x st)
    (hb : ∀ (kV doc pm : Value) (an : Option Addr) (cdv ct : Value) (us : List Value), us.length = ps.length → bindArgs (PySem.W.fnOf x x (defArgs st) (defBody st) (defScope st) .none kV doc pm an cdv ct) ⟨us, []⟩ = pure (ps.zip us)) : Cal P w K mg base 0 x ps (spD K fun _ _ => False) := by
  obtain ⟨f, fd, hm, F⟩ := D
  exact ⟨f, fd, hm, F.kp, F.bindsN hb, ⟨fun vs H Q E h => by obtain ⟨_, _, _, _, _, _, _, h, _⟩ := h; exact h.elim, fun A outer s H args us vs Q E hr he hb hv h => by obtain ⟨_, _, _, _, _, _, _, h, _⟩ := h; exact h.elim⟩⟩
end
end
/-! Functions called by names, in any order. -/
section
set_option maxRecDepth 100000
set_option maxHeartbeats 2000000
open PySem PySem.Spec PyProof.Rows L2
/-- the things at the indices ix -/
def prm {α : Type} (ix : List Nat) (vs : List α) : List α := ix.filterMap fun i => vs[i]?
theorem prm_vals {vs : List V} {us : List Value} (r : Vals vs us) : ∀ ix : List Nat, Vals (prm ix vs) (prm ix us)
  | [] => .nil
  | i :: ix => by
    unfold prm
    rw [List.filterMap_cons, List.filterMap_cons]
    cases e : vs[i]? with
    | none =>
      have e2 : us[i]? = none := by rw [List.getElem?_eq_none_iff] at e ⊢; rw [← r.length]; exact e
      rw [e2]
      exact prm_vals r ix
    | some v =>
      obtain ⟨u, e2, r2⟩ := r.get e
      rw [e2]
      exact .cons r2 (prm_vals r ix)
theorem prm_dats {K : PySem.W.Frag} {S : Sx} {F : Hp} {ds : List D} {vs : List V} (r : Dats K S F ds vs) : ∀ ix : List Nat, Dats K S F (prm ix ds) (prm ix vs)
  | [] => rfl
  | i :: ix => by
    unfold prm
    rw [List.filterMap_cons, List.filterMap_cons]
    cases e : ds[i]? with
    | none =>
      have e2 : vs[i]? = none := by rw [List.getElem?_eq_none_iff] at e ⊢; rw [r.length]; exact e
      rw [e2]
      exact prm_dats r ix
    | some d =>
      obtain ⟨v, e2, r2⟩ := r.get e
      rw [e2]
      exact ⟨v, _, rfl, r2, prm_dats r ix⟩
/-- n values by place, the others by the names ks; ix tells which of them goes to which parameter -/
def Kb (K : PySem.W.Frag) (fd : FuncData) (ps : List Str) (n : Nat) (ks : List Str) (ix : List Nat) : Prop :=
  ∀ (s : Shared) (us ws : List Value), K.In s.heap → us.length = n → ws.length = ks.length → BindsTo s fd ⟨us, ks.zip ws⟩ (ps.zip (prm ix (us ++ ws)))
section
variable (P : Program) (w : World) (K : PySem.W.Frag) (mg : Str → Option Value) (base : Heap)
def CalKw (CX : CXT) (k : Nat) (x : Str) (ps : List Str) (n : Nat) (ks : List Str) (ix : List Nat) (sp : Sp) : Prop :=
  ∃ (f : Addr) (fd : FuncData), mg x = some (.ref f) ∧ PySem.W.keepIn K (.ref f) = true ∧ Kb K fd ps n ks ix ∧ FnOk P w K mg base CX k f fd ps sp
/-- a def, for all ways to call it -/
def CalA (CX : CXT) (k : Nat) (x : Str) (st : Stmt) (ps : List Str) (sp : Sp) : Prop :=
  ∃ (f : Addr) (fd : FuncData), mg x = some (.ref f) ∧ FunD K x x (defArgs st) (defBody st) (defScope st) [] [] f fd ∧ FnOk P w K mg base CX k f fd ps sp
end
/-- f(.., k = v, ..): the values in the parameters' order -/
def tKw (m : Nat) (ix : List Nat) (sp : Sp) (E : XK) (t : TA) : TE := fun σ H Q => t σ H fun vs H1 => vs.length = m ∧ sp (prm ix vs) H1 Q E
section
variable {P : Program} {w : World} {K : PySem.W.Frag} {mg : Str → Option Value} {base : Heap}
theorem CalA.ofD {x : Str} {st : Stmt} {N ps : List Str} {k : Nat} {f : FX} (D : Def K mg x st) (S : FnScope N ps (defScope st)) (len : ∀ ds Φ Ψ, f ds Φ Ψ → ds.length = ps.length)
    (hbody : ∀ (fa : Addr) (cdv : Value) (A : Around) (outer : List Env) (s : Shared) (H : Hp) (E : XK), Room k (A.deeper (envOfC x (defScope st) s.heap.objs.size fa cdv)) →
      ∃ t, PSs (cxX P w K mg base N x (defScope st) fa cdv A outer s H E) (defBody st) t ∧ ∀ S Ψ, XP K S E Ψ → ∀ ds Φ, f ds Φ Ψ → ExD K S t (ini N ds) { nx := fun _ => Φ .non, rt := Φ }) : CalA P w K mg base (L2.CX P w) (k + 1) x st ps (spX K f) := by
  obtain ⟨fa, fd, hm, F⟩ := D
  refine ⟨fa, fd, hm, F, F.ok S (fun vs H Q E h => ?_) fun cdv A outer s H vs Q E hr h => ?_⟩
  · obtain ⟨_, _, ds, Φ, Ψ, _, _, hd, hf, _⟩ := h
    rw [hd.length]
    exact len ds Φ Ψ hf
  · obtain ⟨t, h1, h2⟩ := hbody fa cdv A outer s H E hr
    exact ⟨t, h1, body_ofX h h2⟩
theorem CalA.x {x : Str} {st : Stmt} {ps : List Str} {k : Nat} {sp : Sp} (c : CalA P w K mg base (L2.CX P w) k x st ps sp)
    (hb : ∀ (kV doc pm : Value) (an : Option Addr) (cdv ct : Value) (us : List Value), us.length = ps.length → bindArgs (PySem.W.fnOf x x (defArgs st) (defBody st) (defScope st) .none kV doc pm an cdv ct) ⟨us, []⟩ = pure (ps.zip us)) : CalX P w K mg base k x ps sp := by
  obtain ⟨f, fd, hm, F, h⟩ := c
  exact ⟨f, fd, hm, F.kp, F.bindsN hb, h⟩
theorem CalA.kw {CX : CXT} {x : Str} {st : Stmt} {ps : List Str} {k : Nat} {sp : Sp} (c : CalA P w K mg base CX k x st ps sp) (n : Nat) (ks : List Str) (ix : List Nat)
    (hb : ∀ (kV doc pm : Value) (an : Option Addr) (cdv ct : Value) (us ws : List Value), us.length = n → ws.length = ks.length → bindArgs (PySem.W.fnOf x x (defArgs st) (defBody st) (defScope st) .none kV doc pm an cdv ct) ⟨us, ks.zip ws⟩ = pure (ps.zip (prm ix (us ++ ws)))) : CalKw P w K mg base CX k x ps n ks ix sp := by
  obtain ⟨f, fd, hm, F, h⟩ := c
  refine ⟨f, fd, hm, F.kp, ?_, h⟩
  obtain ⟨oc, od, dV, kV, doc, pm, an, cdv, ct, osl, rfl, lk, hcd, hD, hK⟩ := F.ex
  rcases hD with ⟨_, rfl⟩ | ⟨e, _⟩
  · exact fun s us ws _ l1 l2 => .of_eq (hb kV doc pm an cdv ct us ws l1 l2)
  · exact absurd rfl e
end
section
variable {X : Cx} {CX : CXT} {k j n : Nat} {ps ks : List Str} {ix : List Nat} {sp : Sp} {x : Str} {p pos : Pos} {e : Expr} {es : List Expr} {kws : List Keyword} {t tk : TA} {E : XK}
end
section
variable {K : PySem.W.Frag} {S : Sx} {ρ : List Sl} {Φ : D → Prop} {Ψ : Ex → Prop} {E : XK} {m : Nat} {ix : List Nat} {tr : TA}
theorem ev_kw {f : FD} (h : EvA K S tr ρ fun xs => xs.length = m ∧ f (prm ix xs) Φ) : EvD K S (tKw m ix (spD K f) E0 tr) ρ Φ := fun σ F H e s dr Q q =>
  h σ F H e s dr _ fun vs xs F1 H1 ⟨hl, hf⟩ dd g1 => ⟨dd.length.trans hl, S, F1, prm ix xs, Φ, g1.ok, g1.dr, prm_dats dd ix, hf, fun v d F' H' hd dd' g2 => q v d F' H' hd dd' (g1.trans g2 dr)⟩
theorem ev_kwX {f : FX} (hx : XP K S E Ψ) (h : EvA K S tr ρ fun xs => xs.length = m ∧ f (prm ix xs) Φ Ψ) : EvD K S (tKw m ix (spX K f) E tr) ρ Φ := fun σ F H e s dr Q q =>
  h σ F H e s dr _ fun vs xs F1 H1 ⟨hl, hf⟩ dd g1 => ⟨dd.length.trans hl, S, F1, prm ix xs, Φ, Ψ, g1.ok, g1.dr, prm_dats dd ix, hf, fun v d F' H' hd dd' g2 => q v d F' H' hd dd' (g1.trans g2 dr), fun x dct F' H' hp ok g2 => hx F' H' x dct (g2.dr.now g2.ok) hp ok⟩
end
end
/-! Methods for all ways to call them, __init__ that may raise, classes called by names, empty dicts. -/
section
set_option maxRecDepth 100000
set_option maxHeartbeats 2000000
open PySem PySem.Spec PyProof.Rows L2
section
variable (P : Program) (w : World) (K : PySem.W.Frag) (mg : Str → Option Value) (base : Heap)
/-- a method, for all ways to call it -/
def CalMA (CX : CXT) (k : Nat) (C : Addr) (m q : Str) (st : Stmt) (ps : List Str) (sp : Sp) : Prop :=
  ∃ (f : Addr) (fd : FuncData), Meth K C m f ∧ FunD K m q (defArgs st) (defBody st) (defScope st) [] [] f fd ∧ FnOk P w K mg base CX k f fd ps sp
/-- n values by place (self among them), the others by the names ks -/
def CalMKw (CX : CXT) (k : Nat) (C : Addr) (m : Str) (ps : List Str) (n : Nat) (ks : List Str) (ix : List Nat) (sp : Sp) : Prop :=
  ∃ (f : Addr) (fd : FuncData), Meth K C m f ∧ Kb K fd ps n ks ix ∧ FnOk P w K mg base CX k f fd ps sp
/-- the class x at C, called by names alone -/
def CalCKw (CX : CXT) (k : Nat) (x : Str) (C : Addr) (ps ks : List Str) (ix : List Nat) (sp : Sp) : Prop :=
  mg x = some (.ref C) ∧ PySem.W.makesIn K C = true ∧ PySem.W.keepIn K (.ref C) = true ∧ CalMKw P w K mg base CX k C "__init__" ps 1 ks ix sp
end
section
variable {K : PySem.W.Frag} {t : TS} {E : XK}
theorem body_initX {C : Addr} {f : FIX} {N : List Str} {vs : List V} {H : Hp} {Q : VK} (h : spIX K C f vs H Q E) (hb : ∀ S Ψ, XP K S E Ψ → ∀ p dx ds Φ, f ds Φ Ψ → ExD K S t (iniS N p dx C ds) { nx := fun ρ => ∃ ns es, ρ[0]? = some (.slf p dx C ns es) ∧ Φ ns es, rt := fun _ => False }) : t { nx := fun _ H' => Q .non H', rt := Q } (L2.start N vs) H := by
  obtain ⟨S, F, p, dx, ws, ds, Φ, Ψ, rfl, hp, ⟨pF, pS⟩, s, dr, hd, hf, q, qx⟩ := h
  have d2 : DrI (S.wi (WX0 K S E Ψ)) F (less H p) := dr_wi (K := K) dr.1 qx
  exact body_initS (S := S.wi (WX0 K S E Ψ)) hp ⟨pF, pS⟩ s ⟨d2, dr.2⟩ hd.towi (fun ns es gs F' H' h1 h2 h3 h4 h5 a => q ns es gs F' H' h1 h2 h3 (Dats.cast (S := S.wi (WX0 K S E Ψ)) (S' := S) rfl es h4) h5 (a.unwi dr.1)) (hb _ Ψ xp_wi p dx ds Φ hf)
end
section
variable {P : Program} {w : World} {K : PySem.W.Frag} {mg : Str → Option Value} {base : Heap}
theorem CalMA.ofD {C : Addr} {m q : Str} {st : Stmt} {N ps : List Str} {k : Nat} {f : FX} (D : DefM K C m q st) (S : FnScope N ps (defScope st)) (len : ∀ ds Φ Ψ, f ds Φ Ψ → ds.length = ps.length)
    (hbody : ∀ (fa : Addr) (cdv : Value) (A : Around) (outer : List Env) (s : Shared) (H : Hp) (E : XK), Room k (A.deeper (envOfC q (defScope st) s.heap.objs.size fa cdv)) →
      ∃ t, PSs (cxX P w K mg base N q (defScope st) fa cdv A outer s H E) (defBody st) t ∧ ∀ S Ψ, XP K S E Ψ → ∀ ds Φ, f ds Φ Ψ → ExD K S t (ini N ds) { nx := fun _ => Φ .non, rt := Φ }) : CalMA P w K mg base (L2.CX P w) (k + 1) C m q st ps (spX K f) := by
  obtain ⟨fa, fd, hm, F⟩ := D
  refine ⟨fa, fd, hm, F, F.ok S (fun vs H Q E h => ?_) fun cdv A outer s H vs Q E hr h => ?_⟩
  · obtain ⟨_, _, ds, Φ, Ψ, _, _, hd, hf, _⟩ := h
    rw [hd.length]
    exact len ds Φ Ψ hf
  · obtain ⟨t, h1, h2⟩ := hbody fa cdv A outer s H E hr
    exact ⟨t, h1, body_ofX h h2⟩
/-- an __init__ that may raise -/
theorem CalMA.ofI {C : Addr} {m q : Str} {st : Stmt} {N ps : List Str} {k : Nat} {f : FIX} (D : DefM K C m q st) (S : FnScope N ps (defScope st)) (len : ∀ ds Φ Ψ, f ds Φ Ψ → ds.length + 1 = ps.length)
    (hbody : ∀ (fa : Addr) (cdv : Value) (A : Around) (outer : List Env) (s : Shared) (H : Hp) (E : XK), Room k (A.deeper (envOfC q (defScope st) s.heap.objs.size fa cdv)) →
      ∃ t, PSs (cxX P w K mg base N q (defScope st) fa cdv A outer s H E) (defBody st) t ∧ ∀ S Ψ, XP K S E Ψ → ∀ p dx ds Φ, f ds Φ Ψ → ExD K S t (iniS N p dx C ds) { nx := fun ρ => ∃ ns es, ρ[0]? = some (.slf p dx C ns es) ∧ Φ ns es, rt := fun _ => False }) : CalMA P w K mg base (L2.CX P w) (k + 1) C m q st ps (spIX K C f) := by
  obtain ⟨fa, fd, hm, F⟩ := D
  refine ⟨fa, fd, hm, F, F.ok S (fun vs H Q E h => ?_) fun cdv A outer s H vs Q E hr h => ?_⟩
  · obtain ⟨_, _, p, dx, ws, ds, Φ, Ψ, rfl, _, _, _, _, hd, hf, _⟩ := h
    rw [List.length_cons, hd.length]
    exact len ds Φ Ψ hf
  · obtain ⟨t, h1, h2⟩ := hbody fa cdv A outer s H E hr
    exact ⟨t, h1, body_initX h h2⟩
theorem CalMA.x {C : Addr} {m q : Str} {st : Stmt} {ps : List Str} {k : Nat} {sp : Sp} (c : CalMA P w K mg base (L2.CX P w) k C m q st ps sp)
    (hb : ∀ (kV doc pm : Value) (an : Option Addr) (cdv ct : Value) (us : List Value), us.length = ps.length → bindArgs (PySem.W.fnOf m q (defArgs st) (defBody st) (defScope st) .none kV doc pm an cdv ct) ⟨us, []⟩ = pure (ps.zip us)) : CalMX P w K mg base k C m ps sp := by
  obtain ⟨f, fd, hm, F, h⟩ := c
  exact ⟨f, fd, hm, F.bindsN hb, h⟩
theorem CalMA.kw {CX : CXT} {C : Addr} {m q : Str} {st : Stmt} {ps : List Str} {k : Nat} {sp : Sp} (c : CalMA P w K mg base CX k C m q st ps sp) (n : Nat) (ks : List Str) (ix : List Nat)
    (hb : ∀ (kV doc pm : Value) (an : Option Addr) (cdv ct : Value) (us ws : List Value), us.length = n → ws.length = ks.length → bindArgs (PySem.W.fnOf m q (defArgs st) (defBody st) (defScope st) .none kV doc pm an cdv ct) ⟨us, ks.zip ws⟩ = pure (ps.zip (prm ix (us ++ ws)))) : CalMKw P w K mg base CX k C m ps n ks ix sp := by
  obtain ⟨f, fd, hm, F, h⟩ := c
  refine ⟨f, fd, hm, ?_, h⟩
  obtain ⟨oc, od, dV, kV, doc, pm, an, cdv, ct, osl, rfl, lk, hcd, hD, hK⟩ := F.ex
  rcases hD with ⟨_, rfl⟩ | ⟨e, _⟩
  · exact fun s us ws _ l1 l2 => .of_eq (hb kV doc pm an cdv ct us ws l1 l2)
  · exact absurd rfl e
end
/-- C(k = v, ..) -/
def tMkKw (C : Addr) (m : Nat) (ix : List Nat) (sp : Sp) (E : XK) (t : TA) : TE := fun σ H Q => t σ H fun zs H2 => zs.length = m ∧
  ∀ x dx, H2 x = none → H2 dx = none → dx ≠ x → sp (prm ix (.ref x :: zs)) (upd (upd H2 dx (.own x)) x (.ins C dx [])) (fun v H3 => v = .non ∧ Q (.ref x) H3) E
section
variable {X : Cx} {CX : CXT} {k j n : Nat} {ps ks : List Str} {ix : List Nat} {sp : Sp} {x m : Str} {C : Addr} {p pos apos : Pos} {o : Expr} {kws : List Keyword} {t : TA} {ta : TE} {E : XK}
theorem pe_mkKw (c : CalCKw X.prog X.w X.K X.mg X.base CX k x C ps ks ix sp) (hr : Room j X.A) (hk : k + 1 ≤ j) (hx : Passes CX X E) (hkw : PK X kws t) (hg : Gl X x := by rfl) (hdb : (x == ("__debug__" : Str)) = false := by decide)
    (hall : (backToKw pos (keywordEach kws X.env)).all (·.1.isSome) = true := by rfl) (hks : (backToKw pos (keywordEach kws X.env)).filterMap (·.1) = ks := by rfl)
    (hpl : ((backTo pos (starEach [] X.env)).any (·.1) || (backToKw pos (keywordEach kws X.env)).any (·.1.isNone)) = false := by rfl) : PE X (.Call (.Name x p) [] kws pos) (tMkKw C ks.length ix sp E t) := by
  obtain ⟨hm, h2, h3, f, fd, hM, hb, F⟩ := c
  refine ⟨fun pins s σ H Q I h => ?_⟩
  refine wpAny_Call_Name_kw (ld_glob I hg hm ?_ hdb)
  refine PySem.W.callWith_KW0 (first := []) (h₀ := X.base) I.ok.mod.kin h3 hall (thn (hkw.run pos pins s σ H _ I h) fun ws s2 ⟨zs, H2, I2, rz, l2, q2⟩ => ⟨I2.kIn, ?_⟩) hpl
  rw [hks]
  have kb : KBn X.K fd ps (0 + 1) ks (fun us ws => prm ix (us ++ ws)) (fun vs zs => prm ix (vs ++ zs)) := ⟨fun s us ws X l1 l2 => hb s us ws X l1 l2, fun r1 r2 => prm_vals (r1.append r2) ix⟩
  exact run_makeN (n := 0) ⟨h2, hM.at_, hM.fn, h3⟩ F (hr.mono hk) kb hx I2 .nil rz rfl l2 q2
end
section
variable {K : PySem.W.Frag} {S : Sx} {ρ : List Sl} {Φ : D → Prop} {Ψ : Ex → Prop} {E : XK} {m : Nat} {ix : List Nat} {tr : TA} {C : Addr}
theorem prm_self {α : Type} (a : α) (l : List α) (ix : List Nat) : prm (0 :: ix.map (· + 1)) (a :: l) = a :: prm ix l := by
  unfold prm
  rw [List.filterMap_cons, List.filterMap_map]
  rfl
theorem ev_mkKwX {f : FIX} (hx : XP K S E Ψ) (h : EvA K S tr ρ fun xs => xs.length = m ∧ f (prm ix xs) (fun ns es => Φ (.ins C ns es)) Ψ) : EvD K S (tMkKw C m (0 :: ix.map (· + 1)) (spIX K C f) E tr) ρ Φ := fun σ F H e s dr Q q =>
  h σ F H e s dr _ fun vs xs F1 H1 ⟨hl, hf⟩ dd g1 => ⟨dd.length.trans hl, by
    intro p dx np ndx nd
    have nS := g1.dr.ne np
    have nF : F1 p = none := g1.ok.free np
    rw [prm_self]
    have hL : less (upd (upd H1 dx (.own p)) p (.ins C dx [])) p = upd H1 dx (.own p) := by
      funext b
      show (if b = p then none else _) = _
      by_cases w : b = p
      · rw [if_pos w, w, upd_ne nd.symm, np]
      · rw [if_neg w, upd_ne w]
    have g0 : Ag S F1 H1 F1 (upd H1 dx (.own p)) := (Ag.refl g1.ok g1.dr).newH g1.dr ndx
    refine ⟨S, F1, p, dx, prm ix vs, prm ix xs, _, _, rfl, upd_same, ⟨nF, nS⟩, ?_, ⟨by rw [hL]; exact g0.dr, g0.st.new (by rw [upd_ne nd.symm]; exact np)⟩, prm_dats dd ix, hf, fun ns es gs F' H' hΦ h1 h2 h3 h4 g2 => ⟨rfl, ?_⟩, fun x dct F' H' hp ok g3 => hx F' H' x dct (g3.dr.now g3.ok) hp ok⟩
    · intro b o hb
      exact upd_old (upd_new (g1.ok _ _ hb) ndx) (ne_of_none hb nF)
    · rw [hL] at g2
      refine q (.ref p) (.ins C ns es) (upd F' p (.ins C dx gs)) H' hΦ ⟨p, dx, gs, rfl, upd_same, h2, Dats.mono (fun b o z => upd_new z h4) es h3⟩ (g1.trans ?_ dr)
      exact (g0.trans g2 g1.dr).frz g1.dr (.of np) h4 h1 fun s e => (nS s e).1⟩
theorem ev_mkKw {f : FI} (h : EvA K S tr ρ fun xs => xs.length = m ∧ f (prm ix xs) fun ns es => Φ (.ins C ns es)) : EvD K S (tMkKw C m (0 :: ix.map (· + 1)) (spI K C f) E0 tr) ρ Φ := fun σ F H e s dr Q q =>
  h σ F H e s dr _ fun vs xs F1 H1 ⟨hl, hf⟩ dd g1 => ⟨dd.length.trans hl, by
    intro p dx np ndx nd
    have nS := g1.dr.ne np
    have nF : F1 p = none := g1.ok.free np
    rw [prm_self]
    have hL : less (upd (upd H1 dx (.own p)) p (.ins C dx [])) p = upd H1 dx (.own p) := by
      funext b
      show (if b = p then none else _) = _
      by_cases w : b = p
      · rw [if_pos w, w, upd_ne nd.symm, np]
      · rw [if_neg w, upd_ne w]
    have g0 : Ag S F1 H1 F1 (upd H1 dx (.own p)) := (Ag.refl g1.ok g1.dr).newH g1.dr ndx
    refine ⟨S, F1, p, dx, prm ix vs, prm ix xs, _, rfl, upd_same, ⟨nF, nS⟩, ?_, ⟨by rw [hL]; exact g0.dr, g0.st.new (by rw [upd_ne nd.symm]; exact np)⟩, prm_dats dd ix, hf, fun ns es gs F' H' hΦ h1 h2 h3 h4 g2 => ⟨rfl, ?_⟩⟩
    · intro b o hb
      exact upd_old (upd_new (g1.ok _ _ hb) ndx) (ne_of_none hb nF)
    · rw [hL] at g2
      refine q (.ref p) (.ins C ns es) (upd F' p (.ins C dx gs)) H' hΦ ⟨p, dx, gs, rfl, upd_same, h2, Dats.mono (fun b o z => upd_new z h4) es h3⟩ (g1.trans ?_ dr)
      exact (g0.trans g2 g1.dr).frz g1.dr (.of np) h4 h1 fun s e => (nS s e).1⟩
end
end
/-! Cells of one's own: loops over them, defs that are lent cells, defs by their promises. -/
section
set_option maxRecDepth 100000
set_option maxHeartbeats 2000000
open PySem PySem.Spec PyProof.Rows L2
section
variable {K : PySem.W.Frag} {S : Sx} {ρ : List Sl} {Φ : D → Prop} {Ψ : List D → Prop} {Χ : Bool → Prop} {O : Oc} {ta tb tc te to ti : TE} {tr : TA} {tt tu : TT} {t u : TS} {g : TG} {wi : TI} {i j w k n : Nat} {d x y dw : D} {ds xs : List D} {γ γ1 γ2 γr : Gh} {a : Addr} {c c' : Cl} {m : Bool}
/-! ### loops -/
theorem walk_listC {a : Addr} {n : Nat} : Walk (Itl K a) n (fun H => ∃ xs, SqL K H a xs ∧ xs.length = n) (fun i H x H' => H' = H ∧ ∀ xs, SqL K H a xs → xs[i]? = some x) :=
  ⟨fun i _ hi ⟨xs, q, hl⟩ => ⟨xs, xs[i]'(by omega), q, by simp [show i < xs.length by omega]⟩, fun _ ⟨xs, q, hl⟩ => ⟨xs, q, by omega⟩, fun _ _ _ _ _ _ y => y⟩
theorem walk_enumC {a : Addr} {n : Nat} : Walk (Ite K a) n (fun H => ∃ xs, SqL K H a xs ∧ xs.length = n) (fun i H v H' => ∃ T x, v = .ref T ∧ H T = none ∧ H' = upd H T (.tup [.int (i : Nat), x]) ∧ ∀ xs, SqL K H a xs → xs[i]? = some x) :=
  ⟨fun i _ hi ⟨xs, q, hl⟩ => ⟨xs, xs[i]'(by omega), q, by simp [show i < xs.length by omega]⟩, fun _ ⟨xs, q, hl⟩ => ⟨xs, q, by omega⟩, fun _ _ _ _ _ _ y => y⟩
theorem HasC.sq {F H : Hp} {σ : L2.St} (e : EnvOk K S F H σ ρ) (h : HasC ρ a (.l ds)) : ∃ vs, SqL K H a vs ∧ Dats K S F ds vs := by
  obtain ⟨_, o, e1, vs, rfl, e2⟩ := e.cell h
  exact ⟨vs, sl_of e1, e2⟩
/-- for x in a list of one's own -/
theorem ex_forC (h : EvD K S te ρ fun x => ∃ a ds, x = pD a ∧ HasC ρ a (.l ds) ∧ ∃ I : Nat → List Sl → Prop, I 0 ρ ∧ (∀ i ρ', i ≤ ds.length → I i ρ' → ∃ ds', HasC ρ' a (.l ds') ∧ ds'.length = ds.length ∧ ∀ d, ds'[i]? = some d → TgD K S g (fun _ => True) d ρ' fun ρ2 => ExD K S t ρ2 { nx := I (i + 1), ct := I (i + 1), bk := O.nx, rt := O.rt, ro := O.ro, rx := O.rx }) ∧ ∀ ρ', I ds.length ρ' → O.nx ρ') : ExD K S (tFor (iE (rItA K) te) g t) ρ O := fun F0 H0 σ F H e o ag d0 E f => by
  refine h σ F H e ag.ok ag.dr _ fun v x F1 H1 ⟨a, ds, hx, hc, I, i0, is, ie⟩ dx g1 => ?_
  subst hx
  cases dx
  obtain ⟨vs, q1, q2⟩ := hc.sq (e.ag g1)
  refine ⟨a, vs, rfl, .inl ⟨q1, ?_⟩⟩
  refine for_it (walk_listC (K := K) (a := a) (n := ds.length)) (fun i σ' H' => ∃ ρ' F', I i ρ' ∧ EnvOk K S F' H' σ' ρ' ∧ OwnNew H0 σ' ρ' ∧ Ag S F0 H0 F' H') ⟨ρ, F1, i0, e.ag g1, o, ag.trans g1 d0⟩ ?_ ?_ ?_
  · rintro i σ' H' hi ⟨ρ', F', hI, e', _, _⟩
    obtain ⟨ds', hc', hl, _⟩ := is i ρ' hi hI
    obtain ⟨us, r1, r2⟩ := hc'.sq e'
    exact ⟨us, r1, by rw [r2.length, hl]⟩
  · rintro i x σ' H2 H3 hi ⟨ρ', F2, hI, e2, o2, a2⟩ ⟨eH, hy⟩
    subst eH
    obtain ⟨ds', hc', hl, hT⟩ := is i ρ' (by omega) hI
    obtain ⟨us, r1, r2⟩ := hc'.sq e2
    obtain ⟨d, hd, dd⟩ := r2.get' (hy us r1)
    exact hT d hd x σ' F2 H3 e2 dd a2.ok _ fun σ4 ρ4 hx e4 o4 _ => hx F0 H0 σ4 F2 H3 e4 (o4 H0 o2) a2 d0 _ ⟨fun σ5 ρ5 F5 H5 h5 e5 o5 a5 => ⟨ρ5, F5, h5, e5, o5, a5⟩, f.rt, f.nx, fun σ5 ρ5 F5 H5 h5 e5 o5 a5 => ⟨ρ5, F5, h5, e5, o5, a5⟩, f.ro, f.rx⟩
  · rintro σ' H' ⟨ρ', F', hI, e', o', a'⟩
    exact f.nx σ' ρ' F' H' (ie ρ' hI) e' o' a'
/-- for i, x in enumerate(a list of one's own) -/
theorem ex_forCE (h : EvD K S te ρ fun x => ∃ a ds, x = pD a ∧ HasC ρ a (.l ds) ∧ ∃ I : Nat → List Sl → Prop, I 0 ρ ∧ (∀ i ρ', i ≤ ds.length → I i ρ' → ∃ ds', HasC ρ' a (.l ds') ∧ ds'.length = ds.length ∧ ∀ d, ds'[i]? = some d → TgD K S g (fun _ => True) (.tup [.int (i : Nat), d]) ρ' fun ρ2 => ExD K S t ρ2 { nx := I (i + 1), ct := I (i + 1), bk := O.nx, rt := O.rt, ro := O.ro, rx := O.rx }) ∧ ∀ ρ', I ds.length ρ' → O.nx ρ') : ExD K S (tFor (iA (rEnumA K) (tCons te tNil)) g t) ρ O := fun F0 H0 σ F H e o ag d0 E f => by
  refine h σ F H e ag.ok ag.dr _ fun v x F1 H1 ⟨a, ds, hx, hc, I, i0, is, ie⟩ dx g1 => ?_
  subst hx
  cases dx
  obtain ⟨vs, q1, q2⟩ := hc.sq (e.ag g1)
  refine ⟨a, vs, rfl, .inl ⟨q1, ?_⟩⟩
  refine for_it (walk_enumC (K := K) (a := a) (n := ds.length)) (fun i σ' H' => ∃ ρ' F', I i ρ' ∧ EnvOk K S F' H' σ' ρ' ∧ OwnNew H0 σ' ρ' ∧ Ag S F0 H0 F' H') ⟨ρ, F1, i0, e.ag g1, o, ag.trans g1 d0⟩ ?_ ?_ ?_
  · rintro i σ' H' hi ⟨ρ', F', hI, e', _, _⟩
    obtain ⟨ds', hc', hl, _⟩ := is i ρ' hi hI
    obtain ⟨us, r1, r2⟩ := hc'.sq e'
    exact ⟨us, r1, by rw [r2.length, hl]⟩
  · rintro i v σ' H2 H3 hi ⟨ρ', F2, hI, e2, o2, a2⟩ ⟨T, x, rfl, nT, rfl, hy⟩
    obtain ⟨ds', hc', hl, hT⟩ := is i ρ' (by omega) hI
    obtain ⟨us, r1, r2⟩ := hc'.sq e2
    obtain ⟨d, hd, dd⟩ := r2.get' (hy us r1)
    have nF : F2 T = none := a2.ok.free nT
    have sm : Same F2 (upd F2 T (.tup [.int (i : Nat), x])) := fun b o q => upd_new q nF
    have g3 := (Ag.refl a2.ok a2.dr).newF (o := .tup [.int (i : Nat), x]) a2.dr nT
    have a3 := a2.trans g3 d0
    exact hT d hd _ σ' _ _ (e2.ag g3) ⟨T, _, rfl, st_of upd_same, _, _, rfl, rfl, _, _, rfl, Dat.mono sm d dd, rfl⟩ a3.ok _ fun σ4 ρ4 hx e4 o4 _ => hx F0 H0 σ4 _ _ e4 (o4 H0 o2) a3 d0 _ ⟨fun σ5 ρ5 F5 H5 h5 e5 o5 a5 => ⟨ρ5, F5, h5, e5, o5, a5⟩, f.rt, f.nx, fun σ5 ρ5 F5 H5 h5 e5 o5 a5 => ⟨ρ5, F5, h5, e5, o5, a5⟩, f.ro, f.rx⟩
  · rintro σ' H' ⟨ρ', F', hI, e', o', a'⟩
    exact f.nx σ' ρ' F' H' (ie ρ' hI) e' o' a'
/-! ### cells that are lent -/
theorem GhOk.sub {F H : Hp} (g : GhOk K S F H γ) (s : γ1.Sublist γ) : GhOk K S F H γ1 := ⟨(s.map Prod.fst).nodup g.nd, fun a c hm => g.ok a c (s.subset hm)⟩
abbrev FR := List D → Gh → (D → Prop) → Prop
/-- a def that is lent cells -/
def spR (K : PySem.W.Frag) (f : FR) : Sp := fun vs H Q _ => ∃ S F ds γ Φ, Same F H ∧ DrI S F H ∧ Dats K S F ds vs ∧ GhOk K S F H γ ∧ f ds γ Φ ∧ ∀ v d F' H', Φ d → Dat K S F' d v → Ag S F H F' H' → Q v H'
abbrev FRN := List D → Gh → (List D → Prop) → Prop
/-- .. and answers with a new list -/
def spRN (K : PySem.W.Frag) (f : FRN) : Sp := fun vs H Q _ => ∃ S F ds γ Φ, Same F H ∧ DrI S F H ∧ Dats K S F ds vs ∧ GhOk K S F H γ ∧ f ds γ Φ ∧ ∀ a us es F' H', Φ es → Nt H a → F' a = none → H' a = some (.lst us) → Dats K S F' es us → Ag S F H F' H' → Q (.ref a) H'
abbrev FRI := List D → Gh → (List Str → List D → Prop) → Prop
/-- an __init__ that is lent cells -/
def spRI (K : PySem.W.Frag) (C : Addr) (f : FRI) : Sp := fun vs H Q _ => ∃ S F p dx ws ds γ Φ, vs = .ref p :: ws ∧ H p = some (.ins C dx []) ∧ Prv S F p ∧ Same F H ∧ (DrI S F (less H p) ∧ DrS S F H) ∧ Dats K S F ds ws ∧ GhOk K S F H γ ∧ p ∉ γ.map Prod.fst ∧ f ds γ Φ ∧
  ∀ ns es gs F' H', Φ ns es → H' p = some (.ins C dx gs) → gs.map Prod.fst = ns → Dats K S F' es (gs.map Prod.snd) → F' p = none → Ag S F (less H p) F' H' → Q .non H'
/-- the cells of the slot w -/
def Lent (ρ : List Sl) (γ : Gh) : Prop := γ = [] ∨ ∃ (w : Nat) (m : Bool) (d : D) (γ0 : Gh), ρ[w]? = some (Sl.obj m d γ0) ∧ γ.Sublist γ0
theorem Lent.nil : Lent ρ [] := .inl rfl
theorem Lent.all (w : Nat) (h : ρ[w]? = some (.obj m d γ)) : Lent ρ γ := .inr ⟨w, m, d, γ, h, List.Sublist.refl _⟩
theorem Lent.ok {F H : Hp} {σ : L2.St} (e : EnvOk K S F H σ ρ) (h : Lent ρ γ) : GhOk K S F H γ := by
  rcases h with rfl | ⟨w, m, d, γ0, hw, hs⟩
  · exact .nil
  · obtain ⟨_, _, _, h3⟩ := e.obj hw
    exact h3.sub hs
theorem ev_callR {f : FR} (h : EvA K S tr ρ fun xs => ∃ γ, Lent ρ γ ∧ f xs γ Φ) : EvD K S (tCall (spR K f) [] E0 tr) ρ Φ := fun σ F H e s dr Q q =>
  h σ F H e s dr _ fun vs xs F1 H1 ⟨γ, hγ, hf⟩ dd g1 => by
    rw [List.append_nil]
    exact ⟨S, F1, xs, γ, Φ, g1.ok, g1.dr, dd, hγ.ok (e.ag g1), hf, fun v d F' H' hd dd' g2 => q v d F' H' hd dd' (g1.trans g2 dr)⟩
theorem evN_callR {f : FRN} (h : EvA K S tr ρ fun xs => ∃ γ, Lent ρ γ ∧ f xs γ Ψ) : EvN K S (tCall (spRN K f) [] E0 tr) ρ Ψ := fun σ F H e s dr Q q =>
  h σ F H e s dr _ fun vs xs F1 H1 ⟨γ, hγ, hf⟩ dd g1 => by
    rw [List.append_nil]
    exact ⟨S, F1, xs, γ, Ψ, g1.ok, g1.dr, dd, hγ.ok (e.ag g1), hf, fun a us es F' H' h1 h2 h3 h4 h5 g2 => q a us es F' H' h1 (g1.backN h2) h3 h4 h5 (g1.trans g2 dr)⟩
theorem make_R {C p dx : Addr} {F1 H1 : Hp} {f : FRI} {vs : List V} {xs : List D} {Q : VK} {Φ' : List Str → List D → Prop} (g1ok : Same F1 H1) (g1dr : DrI S F1 H1) (dd : Dats K S F1 xs vs) (gh : GhOk K S F1 H1 γ) (hf : f xs γ Φ') (np : H1 p = none) (ndx : H1 dx = none) (nd : dx ≠ p)
    (q : ∀ ns es F' H', Φ' ns es → Dat K S F' (.ins C ns es) (.ref p) → Ag S F1 H1 F' H' → Q (.ref p) H') : spRI K C f (.ref p :: vs) (upd (upd H1 dx (.own p)) p (.ins C dx [])) (fun v H3 => v = .non ∧ Q (.ref p) H3) E0 := by
  have nS := g1dr.ne np
  have nF : F1 p = none := g1ok.free np
  have hL : less (upd (upd H1 dx (.own p)) p (.ins C dx [])) p = upd H1 dx (.own p) := by
    funext b
    show (if b = p then none else _) = _
    by_cases w : b = p
    · rw [if_pos w, w, upd_ne nd.symm, np]
    · rw [if_neg w, upd_ne w]
  have g0 : Ag S F1 H1 F1 (upd H1 dx (.own p)) := (Ag.refl g1ok g1dr).newH g1dr ndx
  have ng : ∀ b, H1 b = none → b ∉ γ.map Prod.fst := fun b nb z => by
    obtain ⟨⟨b', c⟩, hm, rfl⟩ := List.mem_map.mp z
    obtain ⟨_, o, e1, _⟩ := gh.ok b' c hm
    rw [nb] at e1; cases e1
  refine ⟨S, F1, p, dx, vs, xs, γ, _, rfl, upd_same, ⟨nF, nS⟩, ?_, ⟨by rw [hL]; exact g0.dr, g0.st.new (by rw [upd_ne nd.symm]; exact np)⟩, dd, (gh.mut (ng dx ndx)).mut (ng p np), ng p np, hf, fun ns es gs F' H' hΦ h1 h2 h3 h4 g2 => ⟨rfl, ?_⟩⟩
  · intro b o hb
    exact upd_old (upd_new (g1ok _ _ hb) ndx) (ne_of_none hb nF)
  · rw [hL] at g2
    exact q ns es (upd F' p (.ins C dx gs)) H' hΦ ⟨p, dx, gs, rfl, upd_same, h2, Dats.mono (fun b o z => upd_new z h4) es h3⟩ ((g0.trans g2 g1dr).frz g1dr (.of np) h4 h1 fun s e => (nS s e).1)
theorem ev_makeR {C : Addr} {f : FRI} (h : EvA K S tr ρ fun xs => ∃ γ, Lent ρ γ ∧ f xs γ fun ns es => Φ (.ins C ns es)) : EvD K S (tMake C (spRI K C f) [] E0 tr) ρ Φ := fun σ F H e s dr Q q =>
  h σ F H e s dr _ fun vs xs F1 H1 ⟨γ, hγ, hf⟩ dd g1 => by
    intro p dx np ndx nd
    rw [List.append_nil]
    exact make_R g1.ok g1.dr dd (hγ.ok (e.ag g1)) hf np ndx nd fun ns es F' H' h1 h2 g2 => q _ _ F' H' h1 h2 (g1.trans g2 dr)
theorem ev_mkKwR {C : Addr} {f : FRI} {m : Nat} {ix : List Nat} (h : EvA K S tr ρ fun xs => xs.length = m ∧ ∃ γ, Lent ρ γ ∧ f (prm ix xs) γ fun ns es => Φ (.ins C ns es)) : EvD K S (tMkKw C m (0 :: ix.map (· + 1)) (spRI K C f) E0 tr) ρ Φ := fun σ F H e s dr Q q =>
  h σ F H e s dr _ fun vs xs F1 H1 ⟨hl, γ, hγ, hf⟩ dd g1 => ⟨dd.length.trans hl, by
    intro p dx np ndx nd
    rw [prm_self]
    exact make_R g1.ok g1.dr (prm_dats dd ix) (hγ.ok (e.ag g1)) hf np ndx nd fun ns es F' H' h1 h2 g2 => q _ _ F' H' h1 h2 (g1.trans g2 dr)⟩
/-! ### bodies -/
theorem own_iniR {H0 : Hp} {N : List Str} {vs : List V} : OwnNew H0 (L2.start N vs) (iniC N ds j false d γ) := by
  intro i s x a hi m hx l
  by_cases z : j = i
  · subst z
    have hl : j < (ini N ds).length := by have := (List.getElem?_eq_some_iff.mp hi).1; unfold iniC at this; rw [List.length_set] at this; exact this
    unfold iniC at hi
    rw [List.getElem?_set_self hl] at hi
    cases hi
    cases m
  · unfold iniC at hi
    rw [List.getElem?_set_ne z] at hi
    exact own_ini (H0 := H0) (N := N) (vs := vs) i s x a hi m hx l
theorem body_ofR {f : FR} {N : List Str} {vs : List V} {H : Hp} {Q : VK} {E : XK} (j : Nat) (h : spR K f vs H Q E) (hb : ∀ S ds γ Φ, f ds γ Φ → ∃ dj, ds[j]? = some dj ∧ ExD K S t (iniC N ds j false dj γ) { nx := fun _ => Φ .non, rt := Φ }) : t { nx := fun _ H' => Q .non H', rt := Q } (L2.start N vs) H := by
  obtain ⟨S, F, ds, γ, Φ, s, dr, hd, hg, hf, q⟩ := h
  obtain ⟨dj, hj, hb⟩ := hb S ds γ Φ hf
  exact hb F H _ F H (env_iniC hd hj hg) own_iniR (Ag.refl s dr) dr _ ⟨fun σ ρ F' H' h1 _ _ a => q .non .non F' H' h1 rfl a, fun v d F' H' h1 h2 a => q v d F' H' h1 h2 a, fun _ _ _ _ h => h.elim, fun _ _ _ _ h => h.elim, fun _ _ _ _ _ h => h.elim, fun _ _ _ _ _ h => h.elim⟩
theorem body_ofRN {f : FRN} {N : List Str} {vs : List V} {H : Hp} {Q : VK} {E : XK} (j : Nat) (h : spRN K f vs H Q E) (hb : ∀ S ds γ Φ, f ds γ Φ → ∃ dj, ds[j]? = some dj ∧ ExD K S t (iniC N ds j false dj γ) { nx := fun _ => False, rt := fun _ => False, ro := Φ }) : t { nx := fun _ H' => Q .non H', rt := Q } (L2.start N vs) H := by
  obtain ⟨S, F, ds, γ, Φ, s, dr, hd, hg, hf, q⟩ := h
  obtain ⟨dj, hj, hb⟩ := hb S ds γ Φ hf
  exact hb F H _ F H (env_iniC hd hj hg) own_iniR (Ag.refl s dr) dr _ ⟨fun _ _ _ _ h => h.elim, fun _ _ _ _ h => h.elim, fun _ _ _ _ h => h.elim, fun _ _ _ _ h => h.elim, fun a us es F' H' h1 h2 h3 h4 h5 g => q a us es F' H' h1 h2 h3 h4 h5 g, fun _ _ _ _ _ h => h.elim⟩
/-- the row of an __init__, the slot j holds lent cells -/
def iniSR (N : List Str) (p dx C : Addr) (ds : List D) (j : Nat) (dj : D) (γ : Gh) : List Sl := (iniS N p dx C ds).set (j + 1) (.obj false dj γ)
theorem body_initR {C : Addr} {f : FRI} {N : List Str} {vs : List V} {H : Hp} {Q : VK} {E : XK} (j : Nat) (h : spRI K C f vs H Q E) (hb : ∀ S p dx ds γ Φ, f ds γ Φ → ∃ dj, ds[j]? = some dj ∧ ExD K S t (iniSR N p dx C ds j dj γ) { nx := fun ρ => ∃ ns es, ρ[0]? = some (.slf p dx C ns es) ∧ Φ ns es, rt := fun _ => False }) : t { nx := fun _ H' => Q .non H', rt := Q } (L2.start N vs) H := by
  obtain ⟨S, F, p, dx, ws, ds, γ, Φ, rfl, hp, ⟨pF, pS⟩, s, dr, hd, hg, hpg, hf, q⟩ := h
  obtain ⟨dj, hj, hb⟩ := hb S p dx ds γ Φ hf
  have hl := hd.length
  have e0 := env_ini (H := H) (N := N.drop 1) hd
  have hst : L2.start N (.ref p :: ws) = some (.ref p) :: L2.start (N.drop 1) ws := by
    unfold L2.start
    rw [List.map_cons, List.cons_append, List.length_cons, List.length_drop]
    congr 3
    omega
  have hin : iniS N p dx C ds = .slf p dx C [] [] :: ini (N.drop 1) ds := by
    unfold iniS ini
    rw [List.length_drop]
    congr 3
    omega
  have nm : ∀ (i : Nat) (s : Sl), (ini (N.drop 1) ds)[i]? = some s → s.held = true → False := by
    intro i s h m
    unfold ini at h
    rw [List.getElem?_append] at h
    split at h
    · rw [List.getElem?_map] at h
      cases e : ds[i]? with
      | none => rw [e] at h; cases h
      | some d => rw [e] at h; cases h; cases m
    · have := List.mem_of_getElem? h
      rw [(List.mem_replicate.mp this).2] at m
      cases m
  have hless : less H p p = none := if_pos rfl
  have e1 : EnvOk K S F H (L2.start N (.ref p :: ws)) (iniS N p dx C ds) := by
    rw [hst, hin]
    refine ⟨by rw [List.length_cons, List.length_cons, e0.len], fun i x s h1 h2 => ?_, fun i j s s' x x' a n h1 h2 m1 h3 h4 l1 l2 => ?_⟩
    · cases i with
      | zero =>
        cases h1; cases h2
        exact ⟨[], rfl, ⟨pF, pS⟩, hp, rfl, rfl⟩
      | succ i => exact e0.ok i x s (by simpa using h1) (by simpa using h2)
    · cases i with
      | zero =>
        cases j with
        | zero => exact n rfl
        | succ j => exact nm j s' (by simpa using h2) (Sl.lh l2)
      | succ i => exact nm i s (by simpa using h1) (Sl.mh m1)
  have o1 : OwnNew (less H p) (L2.start N (.ref p :: ws)) (iniS N p dx C ds) := by
    rw [hst, hin]
    intro i s x a h m h2 l
    cases i with
    | zero => cases h; cases h2; cases l; exact .of hless
    | succ i => exact (nm i s (by simpa using h) (Sl.mh m)).elim
  have hr : (iniS N p dx C ds)[j + 1]? = some (.val dj) := by
    have hjl : j < ds.length := (List.getElem?_eq_some_iff.mp hj).1
    rw [hin, List.getElem?_cons_succ]
    unfold ini
    rw [List.getElem?_append_left (by rw [List.length_map]; exact hjl), List.getElem?_map, hj]
    rfl
  obtain ⟨v, h1, h2⟩ := e1.val hr
  have s1 : (L2.start N (.ref p :: ws)).set (j + 1) (some v) = L2.start N (.ref p :: ws) := setL_same h1
  have e2 := e1.newG (i := j + 1) (s₀ := .obj false dj γ) (v := v) (fun l s x b nl hl' hx l1 l2 => by
    rw [hin] at hl'
    rw [hst] at hx
    cases l with
    | zero => cases hl'; cases hx; cases l1; exact hpg l2
    | succ l => exact nm l s (by simpa using hl') (Sl.lh l1)) ⟨v, rfl, h2, hg⟩
  have o2 := OwnNew.newG (i := j + 1) (s₀ := .obj false dj γ) (v := v) o1 (fun m => by cases m)
  rw [s1] at e2 o2
  refine hb F (less H p) _ F H e2 o2 (Ag0.up ⟨Same.refl F, s, fun b o n z t => ?_, fun b z => .inl z, dr.2⟩ dr.1) dr.1 _ ⟨?_, fun _ _ _ _ h => h.elim, fun _ _ _ _ h => h.elim, fun _ _ _ _ h => h.elim, fun _ _ _ _ _ h => h.elim, fun _ _ _ _ _ h => h.elim⟩
  · have z' : (if b = p then none else H b) = some o := z
    by_cases w : b = p
    · rw [if_pos w] at z'; cases z'
    · rw [if_neg w] at z'; exact z'
  · rintro σ ρ F' H' ⟨ns, es, hρ, hΦ⟩ e' o' a'
    obtain ⟨gs, h1, ⟨nF, _⟩, h2, h3, h4⟩ := e'.slf hρ
    exact q ns es gs F' H' hΦ h2 h3 h4 nF a'
end
/-! ### defs by their promises -/
section
variable {P : Program} {w : World} {K : PySem.W.Frag} {mg : Str → Option Value} {base : Heap}
theorem Cal.ofC {x : Str} {st : Stmt} {N ps : List Str} {k : Nat} {f : FC} (j : Nat) (D : Def K mg x st) (S : FnScope N ps (defScope st))
    (hb : ∀ (kV doc pm : Value) (an : Option Addr) (cdv ct : Value) (us : List Value), us.length = ps.length → bindArgs (PySem.W.fnOf x x (defArgs st) (defBody st) (defScope st) .none kV doc pm an cdv ct) ⟨us, []⟩ = pure (ps.zip us))
    (len : ∀ ds γ Θ, f ds γ Θ → ds.length = ps.length)
    (hbody : ∀ (fa : Addr) (cdv : Value) (A : Around) (outer : List Env) (s : Shared) (H : Hp), Room k (A.deeper (envOfC x (defScope st) s.heap.objs.size fa cdv)) →
      ∃ t, PSs (cxR P w K mg base N x (defScope st) fa cdv A outer s H) (defBody st) t ∧ ∀ S ds γ Θ, f ds γ Θ → ∃ dj, ds[j]? = Option.some dj ∧ ExD K S t (iniC N ds j true dj γ) { nx := fun ρ => ∃ dw γ', ρ[j]? = Option.some (Sl.obj true dw γ') ∧ Θ .non γ', rt := fun _ => False, rx := Θ }) : Cal P w K mg base (k + 1) x ps (spC K f) := by
  refine Cal.of D S hb (fun vs H Q E h => ?_) (fun fa cdv A outer s H vs Q E hr h => ?_)
  · obtain ⟨_, _, ds, γ, Θ, _, _, _, hd, _, hf, _⟩ := h
    rw [hd.length]
    exact len ds γ Θ hf
  · obtain ⟨t, h1, h2⟩ := hbody fa cdv A outer s H hr
    exact ⟨t, h1, body_ofC j h h2⟩
theorem Cal.ofC0 {x : Str} {st : Stmt} {N ps : List Str} {k : Nat} {f : FC} (D : Def K mg x st) (S : FnScope N ps (defScope st))
    (hb : ∀ (kV doc pm : Value) (an : Option Addr) (cdv ct : Value) (us : List Value), us.length = ps.length → bindArgs (PySem.W.fnOf x x (defArgs st) (defBody st) (defScope st) .none kV doc pm an cdv ct) ⟨us, []⟩ = pure (ps.zip us))
    (len : ∀ ds γ Θ, f ds γ Θ → ds.length = ps.length)
    (hbody : ∀ (fa : Addr) (cdv : Value) (A : Around) (outer : List Env) (s : Shared) (H : Hp), Room k (A.deeper (envOfC x (defScope st) s.heap.objs.size fa cdv)) →
      ∃ t, PSs (cxR P w K mg base N x (defScope st) fa cdv A outer s H) (defBody st) t ∧ ∀ S ds γ Θ, f ds γ Θ → γ = [] ∧ ExD K S t (ini N ds) { nx := fun _ => Θ .non [], rt := fun d => Θ d [], rx := Θ, ro := fun ds => ∀ a, Θ (pD a) [(a, .l ds)] }) : Cal P w K mg base (k + 1) x ps (spC K f) := by
  refine Cal.of D S hb (fun vs H Q E h => ?_) (fun fa cdv A outer s H vs Q E hr h => ?_)
  · obtain ⟨_, _, ds, γ, Θ, _, _, _, hd, _, hf, _⟩ := h
    rw [hd.length]
    exact len ds γ Θ hf
  · obtain ⟨t, h1, h2⟩ := hbody fa cdv A outer s H hr
    exact ⟨t, h1, body_ofC0 h h2⟩
theorem CalM.ofC {C : Addr} {m q : Str} {st : Stmt} {N ps : List Str} {k : Nat} {f : FC} (j : Nat) (D : DefM K C m q st) (S : FnScope N ps (defScope st))
    (hb : ∀ (kV doc pm : Value) (an : Option Addr) (cdv ct : Value) (us : List Value), us.length = ps.length → bindArgs (PySem.W.fnOf m q (defArgs st) (defBody st) (defScope st) .none kV doc pm an cdv ct) ⟨us, []⟩ = pure (ps.zip us))
    (len : ∀ ds γ Θ, f ds γ Θ → ds.length = ps.length)
    (hbody : ∀ (fa : Addr) (cdv : Value) (A : Around) (outer : List Env) (s : Shared) (H : Hp), Room k (A.deeper (envOfC q (defScope st) s.heap.objs.size fa cdv)) →
      ∃ t, PSs (cxR P w K mg base N q (defScope st) fa cdv A outer s H) (defBody st) t ∧ ∀ S ds γ Θ, f ds γ Θ → ∃ dj, ds[j]? = some dj ∧ ExD K S t (iniC N ds j true dj γ) { nx := fun ρ => ∃ dw γ', ρ[j]? = some (.obj true dw γ') ∧ Θ .non γ', rt := fun _ => False, rx := Θ }) : CalM P w K mg base (k + 1) C m ps (spC K f) := by
  refine CalM.of D S hb (fun vs H Q E h => ?_) (fun fa cdv A outer s H vs Q E hr h => ?_)
  · obtain ⟨_, _, ds, γ, Θ, _, _, _, hd, _, hf, _⟩ := h
    rw [hd.length]
    exact len ds γ Θ hf
  · obtain ⟨t, h1, h2⟩ := hbody fa cdv A outer s H hr
    exact ⟨t, h1, body_ofC j h h2⟩
theorem Cal.ofR {x : Str} {st : Stmt} {N ps : List Str} {k : Nat} {f : FR} (j : Nat) (D : Def K mg x st) (S : FnScope N ps (defScope st))
    (hb : ∀ (kV doc pm : Value) (an : Option Addr) (cdv ct : Value) (us : List Value), us.length = ps.length → bindArgs (PySem.W.fnOf x x (defArgs st) (defBody st) (defScope st) .none kV doc pm an cdv ct) ⟨us, []⟩ = pure (ps.zip us))
    (len : ∀ ds γ Θ, f ds γ Θ → ds.length = ps.length)
    (hbody : ∀ (fa : Addr) (cdv : Value) (A : Around) (outer : List Env) (s : Shared) (H : Hp), Room k (A.deeper (envOfC x (defScope st) s.heap.objs.size fa cdv)) →
      ∃ t, PSs (cxR P w K mg base N x (defScope st) fa cdv A outer s H) (defBody st) t ∧ ∀ S ds γ Φ, f ds γ Φ → ∃ dj, ds[j]? = Option.some dj ∧ ExD K S t (iniC N ds j false dj γ) { nx := fun _ => Φ .non, rt := Φ }) : Cal P w K mg base (k + 1) x ps (spR K f) := by
  refine Cal.of D S hb (fun vs H Q E h => ?_) (fun fa cdv A outer s H vs Q E hr h => ?_)
  · obtain ⟨_, _, ds, γ, Φ, _, _, hd, _, hf, _⟩ := h
    rw [hd.length]
    exact len ds γ Φ hf
  · obtain ⟨t, h1, h2⟩ := hbody fa cdv A outer s H hr
    exact ⟨t, h1, body_ofR j h h2⟩
theorem Cal.ofRN {x : Str} {st : Stmt} {N ps : List Str} {k : Nat} {f : FRN} (j : Nat) (D : Def K mg x st) (S : FnScope N ps (defScope st))
    (hb : ∀ (kV doc pm : Value) (an : Option Addr) (cdv ct : Value) (us : List Value), us.length = ps.length → bindArgs (PySem.W.fnOf x x (defArgs st) (defBody st) (defScope st) .none kV doc pm an cdv ct) ⟨us, []⟩ = pure (ps.zip us))
    (len : ∀ ds γ Θ, f ds γ Θ → ds.length = ps.length)
    (hbody : ∀ (fa : Addr) (cdv : Value) (A : Around) (outer : List Env) (s : Shared) (H : Hp), Room k (A.deeper (envOfC x (defScope st) s.heap.objs.size fa cdv)) →
      ∃ t, PSs (cxR P w K mg base N x (defScope st) fa cdv A outer s H) (defBody st) t ∧ ∀ S ds γ Φ, f ds γ Φ → ∃ dj, ds[j]? = Option.some dj ∧ ExD K S t (iniC N ds j false dj γ) { nx := fun _ => False, rt := fun _ => False, ro := Φ }) : Cal P w K mg base (k + 1) x ps (spRN K f) := by
  refine Cal.of D S hb (fun vs H Q E h => ?_) (fun fa cdv A outer s H vs Q E hr h => ?_)
  · obtain ⟨_, _, ds, γ, Φ, _, _, hd, _, hf, _⟩ := h
    rw [hd.length]
    exact len ds γ Φ hf
  · obtain ⟨t, h1, h2⟩ := hbody fa cdv A outer s H hr
    exact ⟨t, h1, body_ofRN j h h2⟩
/-- an __init__ that is lent cells, for all ways to call it -/
theorem CalMA.ofRI {C : Addr} {m q : Str} {st : Stmt} {N ps : List Str} {k : Nat} {f : FRI} (j : Nat) (D : DefM K C m q st) (S : FnScope N ps (defScope st)) (len : ∀ ds γ Φ, f ds γ Φ → ds.length + 1 = ps.length)
    (hbody : ∀ (fa : Addr) (cdv : Value) (A : Around) (outer : List Env) (s : Shared) (H : Hp), Room k (A.deeper (envOfC q (defScope st) s.heap.objs.size fa cdv)) →
      ∃ t, PSs (cxR P w K mg base N q (defScope st) fa cdv A outer s H) (defBody st) t ∧ ∀ S p dx ds γ Φ, f ds γ Φ → ∃ dj, ds[j]? = some dj ∧ ExD K S t (iniSR N p dx C ds j dj γ) { nx := fun ρ => ∃ ns es, ρ[0]? = some (.slf p dx C ns es) ∧ Φ ns es, rt := fun _ => False }) : CalMA P w K mg base CX0 (k + 1) C m q st ps (spRI K C f) := by
  obtain ⟨fa, fd, hm, F⟩ := D
  refine ⟨fa, fd, hm, F, F.ok S (fun vs H Q E h => ?_) fun cdv A outer s H vs Q E hr h => ?_⟩
  · obtain ⟨_, _, p, dx, ws, ds, γ, Φ, rfl, _, _, _, _, hd, _, _, hf, _⟩ := h
    rw [List.length_cons, hd.length]
    exact len ds γ Φ hf
  · obtain ⟨t, h1, h2⟩ := hbody fa cdv A outer s H hr
    exact ⟨t, PSs.nox h1, body_initR j h h2⟩
theorem CalMA.m {C : Addr} {m q : Str} {st : Stmt} {ps : List Str} {k : Nat} {sp : Sp} (c : CalMA P w K mg base CX0 k C m q st ps sp)
    (hb : ∀ (kV doc pm : Value) (an : Option Addr) (cdv ct : Value) (us : List Value), us.length = ps.length → bindArgs (PySem.W.fnOf m q (defArgs st) (defBody st) (defScope st) .none kV doc pm an cdv ct) ⟨us, []⟩ = pure (ps.zip us)) : CalM P w K mg base k C m ps sp := by
  obtain ⟨f, fd, hm, F, h⟩ := c
  exact ⟨f, fd, hm, F.bindsN hb, h⟩
end
end
/-! Ascending numbers, cuts and counts, plainly. -/
section
set_option maxHeartbeats 2000000
/-- ascending numbers below m -/
structure Asc (ns : List Nat) (m : Nat) : Prop where
  up : ns.Pairwise (· < ·)
  lt : ∀ x ∈ ns, x < m
theorem asc_len : ∀ (ns : List Nat) (lo m : Nat), ns.Pairwise (· < ·) → (∀ x ∈ ns, lo ≤ x ∧ x < m) → ns.length ≤ m - lo
  | [], _, _, _, _ => Nat.zero_le _
  | a :: ns, lo, m, hp, h => by
    have h1 := h a List.mem_cons_self
    have hp' := List.pairwise_cons.mp hp
    have := asc_len ns (a + 1) m hp'.2 fun x hx => ⟨hp'.1 x hx, (h x (List.mem_cons_of_mem _ hx)).2⟩
    rw [List.length_cons]
    omega
theorem Asc.len {ns : List Nat} {m : Nat} (A : Asc ns m) : ns.length ≤ m := asc_len ns 0 m A.up fun x hx => ⟨Nat.zero_le _, A.lt x hx⟩
theorem Asc.filter {ns : List Nat} {m : Nat} (A : Asc ns m) (f : Nat → Bool) : Asc (ns.filter f) m := ⟨A.up.filter f, fun x hx => A.lt x (List.mem_filter.mp hx).1⟩
end
/-! The plain law of kernels. -/
section
set_option maxHeartbeats 2000000
/-- the kernel of a cut, by which passages are there -/
def kr (f : Nat → Bool) : Nat → Nat
  | 0 => 0
  | k + 1 => if f k = true then k + 1 else kr f k
/-! ### the numbers of an edition -/
def inN (ns : List Nat) : Nat → Bool := fun x => decide (x ∈ ns)
end
/-! == and != of own instances with things of whatever kind, on either side. -/
section
set_option maxRecDepth 100000
set_option maxHeartbeats 2000000
open PySem PySem.Spec PyProof.Rows L2
section
variable {X : Cx} {k j : Nat} {ps : List Str} {sp : Sp} {C : Addr}
/-- one of two readings -/
def rOr (r r' : R2) : R2 := fun x y H Q => r x y H Q ∨ r' x y H Q
theorem o_or {op : Value → Value → Sem Value} {r r' : R2} (h : OpR X op r) (h' : OpR X op r') : OpR X op (rOr r r') := by
  intro pins s σ H x y u v Q I rx ry q
  rcases q with q | q
  · exact h pins s σ H x y u v Q I rx ry q
  · exact h' pins s σ H x y u v Q I rx ry q
/-- x == y, x of the class at C, y of the type t -/
def rEqA (K : PySem.W.Frag) (C : Addr) (sp : Sp) : R2 := fun x y H Q => ∃ a dx fs t, x = .ref a ∧ H a = some (.ins C dx fs) ∧ TyX K H y t ∧ PySem.W.notFirst K C t = true ∧ sp [x, y] H Q E0
theorem o_eqA (c : CalM X.prog X.w X.K X.mg X.base k C "__eq__" ps sp) (hr : Room j X.A) (hk : k ≤ j) : OpR X (compareOp .Eq) (rEqA X.K C sp) := by
  intro pins s σ H x y u v Q I rx ry h
  obtain ⟨a, dx, fs, t, rfl, ha, ty, hn, hsp⟩ := h
  cases rx
  obtain ⟨f, fd, hm, hbi, hF⟩ := c
  obtain ⟨mA, J, _⟩ := ins_get I.hok ha
  obtain ⟨od, J, _⟩ := J.look
  obtain ⟨m, hFr⟩ := I.fr
  obtain ⟨Pq, KX, hP, _⟩ := kit_of I ry ty
  show wpAny _ _ (richCompare .Eq _ _) _ _ _
  refine PySem.W.cmp_K (op := .Eq) (tb := t) hr.units0 hFr I.ok.mod.kin J (KX.ty _ _ I.kIn hP) hn hm.at_ hm.fn ?_
  exact wpAny_mono (run_fn (us := [.ref a, v]) (vs := [.ref a, y]) hF (hr.mono hk) hbi .nil pass0 I (.cons rfl (.cons ry .nil)) hsp) (fun u s' q => cmpBack_of q) fun _ _ e => e
/-- the callee runs, one step deeper -/
theorem run_in1 {CX : CXT} {f : Addr} {fd : FuncData} {E : XK} {pins : List (Addr × Obj)} {σ : L2.St} {H : Hp} {s : Shared} {Q : VK} {us : List Value} {vs : List V} (F : FnOk X.prog X.w X.K X.mg X.base CX k f fd ps sp) (hr : Room (k + 1) X.A) (hb : Binds X.K fd ps []) (hx : Passes CX X E)
    (I : Inv X pins σ H s) (r : Vals vs us) (h : sp vs H Q E) : wpAny (model X.prog X.w) X.A.in1 (call (.ref f) us) (EP X pins σ Q) X.xe s := by
  have hl : us.length = ps.length := by rw [← r.length]; exact F.len _ _ _ _ h
  have e0 : Env0 X.prog X.w X.K X.mg X.base X.A.in1 X.stack s H := by
    have e := I.env0
    exact ⟨e.frames, e.mod, e.bs, e.bsz, e.funs, e.frf, e.hok, e.bare⟩
  refine wpAny_call (codeAny_mono (F.run X.A.in1 X.stack s H ⟨us, []⟩ us vs Q E hr.in1 e0 (by
    have := hb s us I.kIn (by simpa using hl)
    simpa using this) r h) fun r s' hq => ?_)
  cases r with
  | error e => exact hx pins σ H s e s' I hq
  | ok fl =>
    cases fl with
    | ret u => exact I.after hq
    | next => exact False.elim hq
    | brk => exact False.elim hq
    | cont => exact False.elim hq
end
section
variable {prog : Program} {w : World} {A : Around} {E : Value → Shared → Prop} {s : Shared} {K : PySem.W.Frag} {x C L f : Addr} {h₀ : Heap} {m : Str → Option Value} {ox : Obj} {od : Option Obj} {name : Str} {b tb : Value}
/-- object.__ne__ by an own __eq__ -/
theorem tryNe_K {Q : Option Value → Shared → Prop} (X : K.In s.heap) (I : PySem.W.InstAt s.heap x ox C od) (hne : PySem.W.findIn K (.ref C) "__ne__" = some (some (.builtin "object.__ne__"))) (hs : PySem.W.findIn K (.ref C) "__eq__" = some (some (.ref f))) (hf : PySem.W.isFn K (.ref f) = true)
    (hob : PySem.W.subIn K (.ref C) (.type "object") = some true) (hu : A.units + 1 < cLine)
    (h : wpAny (model prog w) A.in1 (call (.ref f) [.ref x, b]) (fun v s' => ∃ c, v = .bool c ∧ Q (some (.bool (!c))) s') E s) : wpAny (model prog w) A (tryCompare (.ref x) "__ne__" b) Q E s := by
  have entry : ∀ {Q' : PySem.Fin → Shared → Prop}, wpAny (model prog w) A.in1 (call (.ref f) [.ref x, b]) (fun v s' => ∃ c, v = .bool c ∧ Q' (.done (.ret (.bool (!c)))) s') E s → wpAny (model prog w) A.in1 (Builtin.«object.__ne__» ⟨[.ref x, b], []⟩) Q' E s := by
    intro Q' hc
    unfold Builtin.«object.__ne__»
    repeat (first
      | with_reducible refine wpAny_cRoomFor (show A.in1.units < cLine from hu) ?_
      | (refine wpAny_bind (m := callSpecialIfBound? (.ref x) (Str.ofString "__eq__") [b])
          (PySem.W.ifBound_K X I hs hf (wpAny_mono hc (fun r s' hr => by
            obtain ⟨c, rfl, hq⟩ := hr
            repeat (first | exact hq | exact wpAny_pure hq | exact wpAny_truthy_bool hq | (refine wpAny_bind (m := truthy (.bool _)) (wpAny_truthy_bool ?_)) | wp_step)) fun _ _ e => e)))
      | wp_step)
  have chk : ∀ {Q' : Unit → Shared → Prop}, Q' () s → wpAny (model prog w) A.in1 (checkBuiltinCall "object.__ne__" ⟨[.ref x, b], []⟩) Q' E s := by
    intro Q' hq
    simp only [checkBuiltinCall, F.cmpKind_ne, F.cmpSplit_ne]
    refine wpAny_bind ?_
    unfold isInstance
    refine wpAny_bind (I.type.here ?_)
    refine (PySem.W.looks_subIn X hob).here ?_
    have ha := F.cmpArgs_ne (.ref x) b
    cases hsig : Manifest.signature? "object.__ne__" with
    | none => exact wpAny_pure hq
    | some sig =>
      simp only [argsOk, hsig] at ha
      have h2 : Bind.checkArgs "object.__ne__" sig ⟨[.ref x, b], []⟩ = pure () := ha
      show wpAny _ _ (Bind.checkArgs "object.__ne__" sig ⟨[.ref x, b], []⟩) Q' E _
      rw [h2]; exact wpAny_pure hq
  have hcall : wpAny (model prog w) A (call (.builtin "object.__ne__") [.ref x, b]) (fun v s' => ∃ c, v = .bool c ∧ Q (some v) s') E s := by
    refine wpAny_call (codeAny_call_builtin F.cmp_object.ne.plain F.cmpEntry_ne (chk (entry (wpAny_mono h (fun v s' hv => ?_) fun _ _ e => e))))
    obtain ⟨c, rfl, hq⟩ := hv
    exact ⟨c, rfl, !c, rfl, hq⟩
  unfold tryCompare
  have fin : wpAny (model prog w) A (callSpecialIfBound? (.ref x) "__ne__" [b]) (fun r s' => ∃ c : Bool, r = some (.bool c) ∧ Q (some (.bool c)) s') E s := by
    simp only [callSpecialIfBound?, bindSpecialIfBound?]
    refine wpAny_holding (wpAny_bind (wpAny_bind (wpAny_bind (I.type.here ((PySem.W.looks_findIn X hne).here ?_)))))
    simp only [F.cmp_object.ne.bind]
    refine wpAny_bind (wpAny_askSetting (wpAny_ite ?_))
    have fin : wpAny (model prog w) A (call (.builtin "object.__ne__") ([.ref x] ++ [b]) >>= fun v => pure (some v)) (fun r s' => ∃ c : Bool, r = some (.bool c) ∧ Q (some (.bool c)) s') E s := wpAny_bind (wpAny_mono hcall (fun v s' h' => by
      obtain ⟨c, rfl, hq⟩ := h'
      exact wpAny_pure ⟨c, rfl, hq⟩) fun _ _ h' => h')
    split
    · exact wpAny_bind (wpAny_pure (wpAny_pure fin))
    · exact wpAny_tryCatch (wpAny_bind (wpAny_pure (wpAny_pure fin)))
  refine wpAny_bind (wpAny_mono fin (fun r s' hr => ?_) fun _ _ e => e)
  obtain ⟨c, rfl, hq⟩ := hr
  exact wpAny_pure hq
/-- a rich comparison by the left one's own answer -/
theorem rc_own {op : CmpOp} {Q : Value → Shared → Prop} (hu : A.units < cLine) (X : K.In s.heap) (I : PySem.W.InstAt s.heap x ox C od) (hb : PySem.W.Looks (model prog w) s.heap (typeOf b) tb) (hn : PySem.W.notFirst K C tb = true)
    (one : wpAny (model prog w) A (tryCompare (.ref x) (cmpInfo op).2.1 b) (fun r s' => ∃ v, r = some v ∧ Q v s') E s) : wpAny (model prog w) A (richCompare op (.ref x) b) Q E s := by
  unfold richCompare
  simp only [oneThing_ref]
  refine wpAny_holding (wpAny_bind (wpAny_cRoomFor hu ?_))
  refine wpAny_bind (I.type.here (wpAny_bind (hb.here ?_)))
  have fin : ∀ {r : Option Value} {s' : Shared}, (∃ v, r = some v ∧ Q v s') → ∃ v, r = some v ∧ Q v s' := fun z => z
  split
  · rename_i q
    have e : PySem.W.subIn K tb (.ref C) = some false := by
      rcases Bool.or_eq_true_iff.mp hn with e | e
      · rw [beq_iff_eq.mp e] at q; simp at q
      · exact beq_iff_eq.mp e
    refine wpAny_bind ((PySem.W.looks_subIn X e).here ?_)
    simp only [Bool.false_eq_true, if_false]
    refine wpAny_bind (wpAny_mono one (fun r s' z => ?_) fun _ _ e => e)
    obtain ⟨v, rfl, hq⟩ := z
    exact wpAny_pure hq
  · refine wpAny_bind (wpAny_pure ?_)
    simp only [Bool.false_eq_true, if_false]
    refine wpAny_bind (wpAny_mono one (fun r s' z => ?_) fun _ _ e => e)
    obtain ⟨v, rfl, hq⟩ := z
    exact wpAny_pure hq
/-- a == y, a of a builtin type that does not know y, y of the class at C -/
theorem rc_right {a : Value} {T : String} {Q : Value → Shared → Prop} (hu : A.units < cLine) (X : K.In s.heap) (I : PySem.W.InstAt s.heap x ox C od) (ha : s.TypeIs a T) (hsub : PySem.W.subIn K (.ref C) (.type T) = some false)
    (no : ∀ Q' : Option Value → Shared → Prop, Q' none s → wpAny (model prog w) A (tryCompare a "__eq__" (.ref x)) Q' E s)
    (hs : PySem.W.findIn K (.ref C) "__eq__" = some (some (.ref f))) (hf : PySem.W.isFn K (.ref f) = true)
    (h : wpAny (model prog w) A (call (.ref f) [.ref x, a]) (PySem.W.CmpBack Q) E s) : wpAny (model prog w) A (richCompare .Eq a (.ref x)) Q E s := by
  have one : wpAny (model prog w) A (tryCompare (.ref x) "__eq__" a) (fun r s' => ∃ v, r = some v ∧ Q v s') E s := by
    unfold tryCompare
    refine wpAny_bind (PySem.W.ifBound_K X I hs hf (wpAny_mono h (fun v s' hv => ?_) fun _ _ e => e))
    cases v <;> first | exact hv.elim | exact wpAny_pure ⟨_, rfl, hv⟩
  unfold richCompare
  simp only [ha.oneThing_none]
  refine wpAny_holding (wpAny_bind (wpAny_cRoomFor hu ?_))
  refine wpAny_bind (wpAny_typeOf ha (wpAny_bind (I.type.here ?_)))
  rw [show (Value.type T != Value.ref C) = true from rfl]
  simp only [if_true]
  refine wpAny_bind ((PySem.W.looks_subIn X hsub).here ?_)
  simp only [Bool.false_eq_true, if_false, Bool.not_false, if_true]
  refine wpAny_bind (m := tryCompare a _ (.ref x)) (no _ ?_)
  refine wpAny_bind (wpAny_mono one (fun r s' z => ?_) fun _ _ e => e)
  obtain ⟨v, rfl, hq⟩ := z
  exact wpAny_pure hq
end
section
variable {prog : Program} {w : World} {A : Around} {E : Value → Shared → Prop} {s : Shared} {K : PySem.W.Frag} {x y C : Addr} {oy : Obj} {od : Option Obj}
theorem inst_no {T : String} (X : K.In s.heap) (I : PySem.W.InstAt s.heap y oy C od) (hsub : PySem.W.subIn K (.ref C) (.type T) = some false) {α : Type} {k : Bool → Sem α} {Q : α → Shared → Prop} (h : wpAny (model prog w) A (k false) Q E s) : wpAny (model prog w) A (isInstance (.ref y) (.type T) >>= k) Q E s := by
  refine wpAny_bind ?_
  unfold isInstance
  exact wpAny_bind (I.type.here ((PySem.W.looks_subIn X hsub).here h))
theorem no_none {Q' : Option Value → Shared → Prop} (h : Q' none s) : wpAny (model prog w) A (tryCompare .none "__eq__" (.ref y)) Q' E s :=
  wpAny_tryCompare_declines (T := "NoneType") rfl F.slot_NoneType_eq (call_gives F.slot_NoneType_eq rfl F.entry_NoneType_eq (F.args_NoneType_eq_2 _ _) (SeqAt.NoneType___eq___none_ref_0 y) ⟨rfl, h⟩)
theorem no_list {l : Addr} {Q' : Option Value → Shared → Prop} (X : K.In s.heap) (I : PySem.W.InstAt s.heap y oy C od) (hsub : PySem.W.subIn K (.ref C) (.type "list") = some false) (hl : s.TypeIs (.ref l) "list") (h : Q' none s) : wpAny (model prog w) A (tryCompare (.ref l) "__eq__" (.ref y)) Q' E s := by
  refine wpAny_tryCompare_declines (T := "list") hl F.slot_list_eq (wpAny_call (codeAny_call_builtin F.slot_list_eq.plain F.entry_list_eq (F.slot_list_eq.check _ _ _ _ _ _ _ _ hl (F.args_list_eq_2 _ _) ?_)))
  obtain ⟨hp, g, d, tk, os⟩ := s
  wp_walk using inst_no X I hsub
  all_goals first | exact ⟨_, rfl, rfl, h⟩ | exact ⟨rfl, h⟩ | exact h
theorem no_tuple {l : Addr} {Q' : Option Value → Shared → Prop} (X : K.In s.heap) (I : PySem.W.InstAt s.heap y oy C od) (hsub : PySem.W.subIn K (.ref C) (.type "tuple") = some false) (hl : s.TypeIs (.ref l) "tuple") (h : Q' none s) : wpAny (model prog w) A (tryCompare (.ref l) "__eq__" (.ref y)) Q' E s := by
  refine wpAny_tryCompare_declines (T := "tuple") hl F.slot_tuple_eq (wpAny_call (codeAny_call_builtin F.slot_tuple_eq.plain F.entry_tuple_eq (F.slot_tuple_eq.check _ _ _ _ _ _ _ _ hl (F.args_tuple_eq_2 _ _) ?_)))
  obtain ⟨hp, g, d, tk, os⟩ := s
  wp_walk using inst_no X I hsub
  all_goals first | exact ⟨_, rfl, rfl, h⟩ | exact ⟨rfl, h⟩ | exact h
theorem no_int {i : Int} {t : Tok} {dx : Addr} {Q' : Option Value → Shared → Prop} (hy : s.heap.get? y = some (PySem.W.instObj C dx)) (h : Q' none s) : wpAny (model prog w) A (tryCompare (.int i t) "__eq__" (.ref y)) Q' E s := by
  refine wpAny_tryCompare_declines (T := "int") (typeIs_int s i t) F.slot_int_eq (wpAny_call (codeAny_call_builtin F.slot_int_eq.plain F.entry_int_eq (F.slot_int_eq.check _ _ _ _ _ _ _ _ (typeIs_int s i t) (F.args_int_eq_2 _ _) ?_)))
  obtain ⟨hp, g, d, tk, os⟩ := s
  wp_walk using AutoSeq1.wpAny_loadPart' hy, wpAny_load hy
  all_goals first | exact ⟨_, rfl, rfl, h⟩ | exact ⟨rfl, h⟩ | exact h
theorem no_str {i : Str} {t : Tok} {dx : Addr} {Q' : Option Value → Shared → Prop} (hy : s.heap.get? y = some (PySem.W.instObj C dx)) (h : Q' none s) : wpAny (model prog w) A (tryCompare (.str i t) "__eq__" (.ref y)) Q' E s := by
  refine wpAny_tryCompare_declines (T := "str") (typeIs_str s i t) F.slot_str_eq (wpAny_call (codeAny_call_builtin F.slot_str_eq.plain F.entry_str_eq (F.slot_str_eq.check _ _ _ _ _ _ _ _ (typeIs_str s i t) (F.args_str_eq_2 _ _) ?_)))
  obtain ⟨hp, g, d, tk, os⟩ := s
  wp_walk using AutoSeq1.wpAny_loadPart' hy, wpAny_load hy
  all_goals first | exact ⟨_, rfl, rfl, h⟩ | exact ⟨rfl, h⟩ | exact h
end
section
variable {X : Cx} {k j : Nat} {ps : List Str} {sp : Sp} {C : Addr}
/-- x != y, x of the class at C -/
def rNeA (K : PySem.W.Frag) (C : Addr) (sp : Sp) : R2 := fun x y H Q => ∃ a dx fs t, x = .ref a ∧ H a = some (.ins C dx fs) ∧ TyX K H y t ∧ PySem.W.notFirst K C t = true ∧ sp [x, y] H (fun z H' => ∃ b, z = .bl b ∧ Q (.bl (!b)) H') E0
theorem o_neA (c : CalM X.prog X.w X.K X.mg X.base k C "__eq__" ps sp) (hne : PySem.W.findIn X.K (.ref C) "__ne__" = some (some (.builtin "object.__ne__"))) (hob : PySem.W.subIn X.K (.ref C) (.type "object") = some true) (hr : Room j X.A) (hk : k + 1 ≤ j) : OpR X (compareOp .NotEq) (rNeA X.K C sp) := by
  intro pins s σ H x y u v Q I rx ry h
  obtain ⟨a, dx, fs, t, rfl, ha, ty, hn, hsp⟩ := h
  cases rx
  obtain ⟨f, fd, hm, hbi, hF⟩ := c
  obtain ⟨mA, J, _⟩ := ins_get I.hok ha
  obtain ⟨od, J, _⟩ := J.look
  obtain ⟨Pq, KX, hP, _⟩ := kit_of I ry ty
  show wpAny _ _ (richCompare .NotEq _ _) _ _ _
  refine rc_own (op := .NotEq) (tb := t) hr.units0 I.kIn J (KX.ty _ _ I.kIn hP) hn ?_
  refine tryNe_K I.kIn J hne hm.at_ hm.fn hob (by have := hr.units; omega) ?_
  refine wpAny_mono (run_in1 (us := [.ref a, v]) (vs := [.ref a, y]) hF (hr.mono hk) hbi pass0 I (.cons rfl (.cons ry .nil)) hsp) (fun u s' q => ?_) fun _ _ e => e
  obtain ⟨z, H', I', rz, b, rfl, hq⟩ := q
  cases rz
  exact ⟨b, rfl, _, rfl, .bl (!b), H', I', rfl, hq⟩
/-- a thing of a builtin type that does not know the class at C -/
inductive Blt (K : PySem.W.Frag) (H : Hp) (C : Addr) : V → Prop
  | non (h : PySem.W.subIn K (.ref C) (.type "NoneType") = some false) : Blt K H C .non
  | int {i : Int} (h : PySem.W.subIn K (.ref C) (.type "int") = some false) : Blt K H C (.int i)
  | str {i : Str} (h : PySem.W.subIn K (.ref C) (.type "str") = some false) : Blt K H C (.str i)
  | lst {l : Addr} {vs : List V} (e : H l = some (.lst vs)) (h : PySem.W.subIn K (.ref C) (.type "list") = some false) : Blt K H C (.ref l)
  | tup {l : Addr} {vs : List V} (e : SqT K H l vs) (h : PySem.W.subIn K (.ref C) (.type "tuple") = some false) : Blt K H C (.ref l)
/-- y == x, y of a builtin type, x of the class at C -/
def rEqR (K : PySem.W.Frag) (C : Addr) (sp : Sp) : R2 := fun y x H Q => ∃ a dx fs, x = .ref a ∧ H a = some (.ins C dx fs) ∧ Blt K H C y ∧ sp [x, y] H Q E0
theorem tupleIs {pins : List (Addr × Obj)} {σ : L2.St} {H : Hp} {s : Shared} {l : Addr} {vs : List V} (I : Inv X pins σ H s) (e : SqT X.K H l vs) : s.TypeIs (.ref l) "tuple" := by
  rcases e with (h | ⟨o, h⟩) | ⟨o, its, n, h, c, _⟩
  · obtain ⟨_, _, _, o, h1, h2, _⟩ := (show ObjOk X.prog X.w H s.heap l (.tup vs) from I.hok l _ h)
    exact ⟨o, h1, h2⟩
  · obtain ⟨_, _, _, _, o', h1, h2, _⟩ := (show ObjOk X.prog X.w H s.heap l (.frz o (.tup vs)) from I.hok l _ h)
    exact ⟨o', h1, h2⟩
  · exact ⟨o, I.kIn l o h, c⟩
theorem o_eqR (c : CalM X.prog X.w X.K X.mg X.base k C "__eq__" ps sp) (hr : Room j X.A) (hk : k ≤ j) : OpR X (compareOp .Eq) (rEqR X.K C sp) := by
  intro pins s σ H y x v u Q I ry rx h
  obtain ⟨a, dx, fs, rfl, ha, bl, hsp⟩ := h
  cases rx
  obtain ⟨f, fd, hm, hbi, hF⟩ := c
  obtain ⟨mA, J0, _⟩ := ins_get I.hok ha
  obtain ⟨od, J, _⟩ := J0.look
  show wpAny _ _ (richCompare .Eq _ _) _ _ _
  have run := wpAny_mono (run_fn (us := [.ref a, v]) (vs := [.ref a, y]) hF (hr.mono hk) hbi .nil pass0 I (.cons rfl (.cons ry .nil)) hsp) (fun u s' q => cmpBack_of q) fun _ _ e => e
  cases bl with
  | non hn => cases ry; exact rc_right hr.units0 I.kIn J (T := "NoneType") rfl hn (fun Q' q => no_none q) hm.at_ hm.fn run
  | int hn =>
    obtain ⟨t, rfl⟩ := ry
    exact rc_right hr.units0 I.kIn J (T := "int") (typeIs_int s _ t) hn (fun Q' q => no_int J0.obj q) hm.at_ hm.fn run
  | str hn =>
    obtain ⟨t, rfl⟩ := ry
    exact rc_right hr.units0 I.kIn J (T := "str") (typeIs_str s _ t) hn (fun Q' q => no_str J0.obj q) hm.at_ hm.fn run
  | lst e hn =>
    cases ry
    obtain ⟨_, _, n, _, h1⟩ := (show ObjOk X.prog X.w H s.heap _ (.lst _) from I.hok _ _ e)
    exact rc_right hr.units0 I.kIn J (T := "list") ⟨_, h1, rfl⟩ hn (fun Q' q => no_list I.kIn J hn ⟨_, h1, rfl⟩ q) hm.at_ hm.fn run
  | tup e hn =>
    cases ry
    have ht := tupleIs I e
    exact rc_right hr.units0 I.kIn J (T := "tuple") ht hn (fun Q' q => no_tuple I.kIn J hn ht q) hm.at_ hm.fn run
end
/-- d == e, dicts of texts with the same things -/
def rEqE : R2 := fun x y H Q => ∃ (a b : Addr) (kvs kus : List (Key × V)), x = .ref a ∧ y = .ref b ∧ H a = some (.dK kvs) ∧ H b = some (.dK kus) ∧ kvs = kus ∧ (∀ p ∈ kvs, ∃ z, p.2 = .str z) ∧ Q (.bl true) H
theorem kv_at : ∀ {kvs : List (Key × V)} {vs : List (Key × Value)} {i : Nat} {k : Key} {v : Value}, KV kvs vs → vs[i]? = some (k, v) → ∃ x, kvs[i]? = some (k, x) ∧ RelV x v
  | _, _, i, k, v, .nil, h => by simp at h
  | _, _, 0, k, v, .cons h t, e => by
    rw [List.getElem?_cons_zero] at e
    cases e
    obtain ⟨h1, h2⟩ := h
    rename_i p _ _
    obtain ⟨q, x⟩ := p
    dsimp only at h1 h2
    subst h1
    exact ⟨x, rfl, h2⟩
  | _, _, i + 1, k, v, .cons h t, e => by
    rw [List.getElem?_cons_succ] at e ⊢
    exact kv_at t e
theorem kv_at2 : ∀ {kvs : List (Key × V)} {vs : List (Key × Value)} {i : Nat} {k : Key} {x : V}, KV kvs vs → kvs[i]? = some (k, x) → ∃ v, vs[i]? = some (k, v) ∧ RelV x v
  | _, _, i, k, v, .nil, h => by simp at h
  | _, _, 0, k, v, .cons h t, e => by
    rw [List.getElem?_cons_zero] at e
    cases e
    obtain ⟨h1, h2⟩ := h
    rename_i q _ _
    obtain ⟨q, x⟩ := q
    dsimp only at h1 h2
    subst h1
    exact ⟨x, rfl, h2⟩
  | _, _, i + 1, k, v, .cons h t, e => by
    rw [List.getElem?_cons_succ] at e ⊢
    exact kv_at2 t e
theorem dict_hits {P : Program} {w : World} {A : Around} {s : Shared} {kvs : List (Key × V)} {vs us : List (Key × Value)} (hv : KV kvs vs) (hu : KV kvs us) (hs : ∀ p ∈ kvs, ∃ z, p.2 = V.str z) (nd : (us.map Prod.fst).Nodup) : ∀ (n : Nat), n ≤ vs.length → PySem.W.KeqHitsP P w A s us (vs.drop (vs.length - n)) true
  | 0, _ => by rw [Nat.sub_zero, List.drop_length]; exact .nil
  | n + 1, h => by
    have hi : vs.length - (n + 1) < vs.length := by omega
    rw [List.drop_eq_getElem_cons hi, show vs.length - (n + 1) + 1 = vs.length - n by omega]
    obtain ⟨k, v, hkv⟩ : ∃ k v, vs[vs.length - (n + 1)] = (k, v) := ⟨_, _, rfl⟩
    rw [hkv]
    obtain ⟨x, e1, r1⟩ := kv_at hv ((List.getElem?_eq_getElem hi).trans (congrArg some hkv))
    obtain ⟨y, e2, r2⟩ := kv_at2 hu e1
    obtain ⟨z, hz⟩ := hs _ (List.mem_of_getElem? e1)
    dsimp only at hz
    subst hz
    obtain ⟨t, rfl⟩ := r1
    obtain ⟨t', rfl⟩ := r2
    have := PySem.W.KeqHitsP.hit (prog := P) (w := w) (A := A) (s := s) (kb := us) (k := k) (v := .str z t) (e := true) (b := true) (valueAt_of_get nd e2) (fun E Q q => PyProof.Rows.eqBool_str (by rw [beq_self_eq_true]; exact q)) (dict_hits hv hu hs nd n (by omega))
    exact this
theorem o_eqE {X : Cx} {j : Nat} (hr : Room j X.A) : OpR X (compareOp .Eq) rEqE := by
  intro pins s σ H x y u v Q I rx ry h
  obtain ⟨a, b, kvs, kus, rfl, rfl, ha, hb, rfl, hs, hq⟩ := h
  cases rx
  cases ry
  obtain ⟨_, n1, vs, kv, d1⟩ := dk_of I.hok ha
  obtain ⟨_, n2, us, ku, d2⟩ := dk_of I.hok hb
  have nd : (us.map Prod.fst).Nodup := by
    obtain ⟨_, _, _, _, _, _, _, _, nd⟩ := d2
    exact nd
  have hl : vs.length = us.length := by rw [← Paired.length kv, Paired.length ku]
  have hh := dict_hits (P := X.prog) (w := X.w) (A := X.A.in1) (s := s) kv ku hs nd vs.length (Nat.le_refl _)
  rw [Nat.sub_self, List.drop_zero] at hh
  show wpAny _ _ (richCompare .Eq _ _) _ _ _
  refine PySem.W.rcP_dicts (r := true) n1 n2 d1 d2 hr.units0 (fun _ => hh) _ _ ⟨.bl true, H, I, ?_, hq⟩
  rw [hl, beq_self_eq_true]
  rfl
/-! ### at the level of data -/
section
variable {K : PySem.W.Frag} {S : Sx} {Φ : D → Prop} {r r' : R2} {x y : D} {C : Addr} {ns : List Str} {ds : List D} {f : FD} {t : Value}
theorem ev_dnew {ρ : List Sl} (k : Φ (.dk [] [])) : EvD K S tDNewK ρ Φ := fun σ F H e s dr Q q p np => by
  have nF : F p = none := s.free np
  exact q (.ref p) (.dk [] []) _ _ k ⟨p, [], rfl, upd_same, rfl, rfl⟩ ((Ag.refl s dr).newF dr np)
def D.isS : D → Bool
  | .str _ => true
  | _ => false
theorem kvs_same {F : Hp} : ∀ {kvs kws : List (Key × V)} {ks : List Key} {ds : List D}, kvs.map Prod.fst = ks → kws.map Prod.fst = ks → Dats K S F ds (kvs.map Prod.snd) → Dats K S F ds (kws.map Prod.snd) → ds.all D.isS = true → kvs = kws ∧ ∀ p ∈ kvs, ∃ z, p.2 = V.str z
  | [], [], _, _, _, _, _, _, _ => ⟨rfl, fun p hp => nomatch hp⟩
  | [], p :: l, _, _, e1, e2, _, _, _ => by rw [← e1] at e2; cases e2
  | p :: l, [], _, _, e1, e2, _, _, _ => by rw [← e2] at e1; cases e1
  | (k1, v1) :: l1, (k2, v2) :: l2, ks, ds, e1, e2, d1, d2, hs => by
    cases ds with
    | nil => cases d1
    | cons d ds =>
      rw [List.all_cons, Bool.and_eq_true] at hs
      cases d with
      | str z =>
        obtain ⟨a1, b1, q1, h1, h2⟩ := d1
        obtain ⟨a2, b2, q2, h3, h4⟩ := d2
        rw [List.map_cons] at q1 q2 e1 e2
        injection q1 with q11 q12
        injection q2 with q21 q22
        have i1 : v1 = .str z := q11.trans h1
        have i2 : v2 = .str z := q21.trans h3
        rw [← e1] at e2
        injection e2 with e21 e22
        dsimp only at e21
        subst i1 i2 e21
        obtain ⟨r1, r2⟩ := kvs_same (ks := l1.map Prod.fst) rfl e22 (q12 ▸ h2) (q22 ▸ h4) hs.2
        refine ⟨by rw [r1], fun p hp => ?_⟩
        rcases List.mem_cons.mp hp with rfl | hp
        · exact ⟨z, rfl⟩
        · exact r2 p hp
      | _ => cases hs.1
theorem od_eqE {ks : List Key} (hs : ds.all D.isS = true) (k : Φ (.bl true)) : OpD K S rEqE (.dk ks ds) (.dk ks ds) Φ := fun u w F H s dr h1 h2 Q q => by
  obtain ⟨a, kvs, rfl, e1, e2, e3⟩ := h1
  obtain ⟨b, kws, rfl, f1, f2, f3⟩ := h2
  obtain ⟨r1, r2⟩ := kvs_same e2 f2 e3 f3 hs
  exact ⟨a, b, kvs, kws, rfl, rfl, s _ _ e1, s _ _ f1, r1, r2, q _ _ F H k rfl (Ag.refl s dr)⟩
theorem od_orL (h : OpD K S r x y Φ) : OpD K S (rOr r r') x y Φ := fun u w F H s dr h1 h2 Q q => .inl (h u w F H s dr h1 h2 Q q)
theorem od_orR (h : OpD K S r' x y Φ) : OpD K S (rOr r r') x y Φ := fun u w F H s dr h1 h2 Q q => .inr (h u w F H s dr h1 h2 Q q)
theorem od_eqA (ht : TyD K y t) (hn : PySem.W.notFirst K C t = true) (h : f [.ins C ns ds, y] Φ) : OpD K S (rEqA K C (spD K f)) (.ins C ns ds) y Φ := fun u w F H s dr h1 h2 Q q => by
  obtain ⟨a, dx, gs, rfl, h3, _⟩ := id h1
  exact ⟨a, dx, gs, t, rfl, s _ _ h3, ht.ty h2 s, hn, S, F, [_, _], Φ, s, dr, ⟨_, _, rfl, h1, _, _, rfl, h2, rfl⟩, h, q⟩
theorem od_neA (ht : TyD K y t) (hn : PySem.W.notFirst K C t = true) (h : f [.ins C ns ds, y] fun z => isB z fun b => Φ (.bl (!b))) : OpD K S (rNeA K C (spD K f)) (.ins C ns ds) y Φ := fun u w F H s dr h1 h2 Q q => by
  obtain ⟨a, dx, gs, rfl, h3, _⟩ := id h1
  exact ⟨a, dx, gs, t, rfl, s _ _ h3, ht.ty h2 s, hn, S, F, [_, _], _, s, dr, ⟨_, _, rfl, h1, _, _, rfl, h2, rfl⟩, h, fun v d F' H' ⟨b, eb, hb⟩ dd g => by subst eb; cases dd; exact ⟨b, rfl, q _ _ F' H' hb rfl g⟩⟩
/-- a datum of a builtin type that does not know the class at C -/
inductive BltD (K : PySem.W.Frag) (C : Addr) : D → Prop
  | non (h : PySem.W.subIn K (.ref C) (.type "NoneType") = some false) : BltD K C .non
  | int {i : Int} (h : PySem.W.subIn K (.ref C) (.type "int") = some false) : BltD K C (.int i)
  | str {i : Str} (h : PySem.W.subIn K (.ref C) (.type "str") = some false) : BltD K C (.str i)
  | lst {ds : List D} (h : PySem.W.subIn K (.ref C) (.type "list") = some false) : BltD K C (.lst ds)
  | tup {ds : List D} (h : PySem.W.subIn K (.ref C) (.type "tuple") = some false) : BltD K C (.tup ds)
theorem od_eqR (hb : BltD K C y) (h : f [.ins C ns ds, y] Φ) : OpD K S (rEqR K C (spD K f)) y (.ins C ns ds) Φ := fun w u F H s dr h2 h1 Q q => by
  obtain ⟨a, dx, gs, rfl, h3, _⟩ := id h1
  refine ⟨a, dx, gs, rfl, s _ _ h3, ?_, S, F, [_, _], Φ, s, dr, ⟨_, _, rfl, h1, _, _, rfl, h2, rfl⟩, h, q⟩
  cases hb with
  | non e1 => cases h2; exact .non e1
  | int e1 => cases h2; exact .int e1
  | str e1 => cases h2; exact .str e1
  | lst e1 => obtain ⟨l, vs, rfl, e, _⟩ := h2; exact .lst (s _ _ e) e1
  | tup e1 => obtain ⟨l, vs, rfl, e, _⟩ := h2; exact .tup (st_sm s e) e1
end
/-! ### things that are strange to a class -/
section
variable {K : PySem.W.Frag} {C A B : Addr} {T : String}
theorem strB_ne (h : strB K C = true) : PySem.W.findIn K (.ref C) "__ne__" = some (some (.builtin "object.__ne__")) := by
  unfold strB at h
  rw [Bool.and_eq_true, Bool.and_eq_true] at h
  exact of_decide_eq_true h.1.1
theorem strB_ob (h : strB K C = true) : PySem.W.subIn K (.ref C) (.type "object") = some true := by
  unfold strB at h
  rw [Bool.and_eq_true, Bool.and_eq_true] at h
  exact of_decide_eq_true h.1.2
theorem strB_at (h : strB K C = true) (m : T ∈ bltT) : PySem.W.kitOne K (.type T) (.ref C) = some false ∧ PySem.W.notFirst K C (.type T) = true ∧ PySem.W.subIn K (.ref C) (.type T) = some false := by
  unfold strB at h
  rw [Bool.and_eq_true, Bool.and_eq_true] at h
  have q := List.all_eq_true.mp h.2 T m
  rw [Bool.and_eq_true, Bool.and_eq_true] at q
  exact ⟨of_decide_eq_true q.1, q.2.1, of_decide_eq_true q.2.2⟩
/-- y is a thing that the class at C does not know -/
def StrD (K : PySem.W.Frag) (C : Addr) (y : D) : Prop := ∃ t, TyD K y t ∧ PySem.W.kitOne K t (.ref C) = some false ∧ PySem.W.notFirst K C t = true
theorem strD_non (h : strB K C = true) : StrD K C .non := ⟨_, .non, (strB_at h (by decide)).1, (strB_at h (by decide)).2.1⟩
theorem strD_int (h : strB K C = true) {i : Int} : StrD K C (.int i) := ⟨_, .int, (strB_at h (by decide)).1, (strB_at h (by decide)).2.1⟩
theorem strD_str (h : strB K C = true) {i : Str} : StrD K C (.str i) := ⟨_, .str, (strB_at h (by decide)).1, (strB_at h (by decide)).2.1⟩
theorem strD_lst (h : strB K C = true) {ds : List D} : StrD K C (.lst ds) := ⟨_, .lst, (strB_at h (by decide)).1, (strB_at h (by decide)).2.1⟩
theorem strD_tup (h : strB K C = true) {ds : List D} : StrD K C (.tup ds) := ⟨_, .tup, (strB_at h (by decide)).1, (strB_at h (by decide)).2.1⟩
theorem bltD_non (h : strB K C = true) : BltD K C .non := .non (strB_at h (by decide)).2.2
theorem bltD_int (h : strB K C = true) {i : Int} : BltD K C (.int i) := .int (strB_at h (by decide)).2.2
theorem bltD_str (h : strB K C = true) {i : Str} : BltD K C (.str i) := .str (strB_at h (by decide)).2.2
theorem bltD_lst (h : strB K C = true) {ds : List D} : BltD K C (.lst ds) := .lst (strB_at h (by decide)).2.2
theorem bltD_tup (h : strB K C = true) {ds : List D} : BltD K C (.tup ds) := .tup (strB_at h (by decide)).2.2
end
/-- a method that is asked with things of whatever kind -/
abbrev CalMS (P : Program) (w : World) (K : PySem.W.Frag) (mg : Str → Option Value) (base : Heap) (k : Nat) (C : Addr) (m : Str) (ps : List Str) (sp : Sp) : Prop := CalM P w K mg base k C m ps sp
end
/-! zip of two or three lists and tuples, in whatever mix. -/
section
set_option maxRecDepth 100000
set_option maxHeartbeats 2000000
open PySem PySem.Spec PyProof.Rows L2
/-- a list (true) or a tuple (false) -/
def SqB (b : Bool) (K : PySem.W.Frag) (H : Hp) (a : Addr) (xs : List V) : Prop := match b with
  | true => SqL K H a xs
  | false => SqT K H a xs
def ItB (b : Bool) (h : Heap) (it l : Addr) (i : Nat) : Prop := match b with
  | true => h.IsListIter it l i
  | false => h.IsTupleIter it l i
def SeB (b : Bool) (h : Heap) (l : Addr) (items : Array Value) : Prop := match b with
  | true => h.IsList l items
  | false => h.IsTuple l items
def oB (b : Bool) (l : Addr) : Obj := { cls := .type (match b with | true => "list_iterator" | false => "tuple_iterator"), data := .fields #[.ref l, .int 0 0] }
theorem drawsB {prog : Program} {w : World} {A : Around} (b : Bool) (hh : A.handled = none) (it l : Addr) (hne : l ≠ it) (items : Array Value) :
    Draws prog w A it [it, l] items.size (fun i v => items[i]? = some v) (fun i h => ItB b h it l i ∧ SeB b h l items) := by
  cases b with
  | true => exact Draws.list hh it l hne items
  | false => exact Draws.tuple hh it l hne items
theorem beginsB (b : Bool) (l : Addr) (items : Array Value) : Begins (.ref l) (oB b l) fun h => SeB b h l items := by
  cases b with
  | true => exact begins_list l items
  | false => exact begins_tuple l items
theorem itB_new {b : Bool} {h : Heap} {it l : Addr} (e : h.get? it = some (oB b l)) : ItB b h it l 0 := by
  cases b with
  | true => exact ⟨_, e, rfl, rfl⟩
  | false => exact ⟨_, e, rfl, rfl⟩
theorem itB_at {b : Bool} {h h' : Heap} {it l : Addr} {i : Nat} (x : ItB b h it l i) (k : ∀ o, h.get? it = some o → h'.get? it = some o) : ItB b h' it l i := by
  cases b with
  | true => exact Heap.IsListIter.at x k
  | false => exact Heap.IsTupleIter.at x k
theorem itB_obj {b : Bool} {h : Heap} {it l : Addr} {i : Nat} (x : ItB b h it l i) : ∃ o, h.get? it = some o ∧ ∀ v, o.data ≠ .cell v := by
  cases b with
  | true =>
    obtain ⟨o, e, _, d⟩ := x
    exact ⟨o, e, fun v q => by rw [d] at q; cases q⟩
  | false =>
    obtain ⟨o, e, _, d⟩ := x
    exact ⟨o, e, fun v q => by rw [d] at q; cases q⟩
theorem seB_of {X : Cx} {pins : List (Addr × Obj)} {σ : L2.St} {H : Hp} {s : Shared} {b : Bool} {a : Addr} {xs : List V} (I : Inv X pins σ H s) (h : SqB b X.K H a xs) : ∃ its : List Value, Vals xs its ∧ SeB b s.heap a its.toArray ∧ a < s.heap.objs.size := by
  cases b with
  | true =>
    obtain ⟨its, rv, p, _⟩ := I.list h
    exact ⟨its, rv, p.isList, p.lt⟩
  | false =>
    obtain ⟨its, rv, p, _⟩ := I.tuple h
    obtain ⟨o, ho, _⟩ := id p
    exact ⟨its, rv, p, Heap.lt_size ho⟩
theorem sqB_inj {X : Cx} {pins : List (Addr × Obj)} {σ : L2.St} {H : Hp} {s : Shared} {b : Bool} {a : Addr} {xs ys : List V} (I : Inv X pins σ H s) (h : SqB b X.K H a xs) (h' : SqB b X.K H a ys) : xs = ys := by
  cases b with
  | true => exact I.list_inj h h'
  | false => exact I.tuple_inj h h'
theorem vals_back {xs : List V} {us : List Value} {i : Nat} {u : Value} (r : Vals xs us) (h : us[i]? = some u) : ∃ x, xs[i]? = some x ∧ RelV x u := by
  have hl := (List.getElem?_eq_some_iff.mp h).1
  have hl2 : i < xs.length := by rw [r.length]; exact hl
  have hx : xs[i]? = some xs[i] := List.getElem?_eq_getElem hl2
  obtain ⟨u', e, q⟩ := r.get hx
  rw [h] at e
  cases e
  exact ⟨_, hx, q⟩
/-- pairs -/
def ItzB (b1 b2 : Bool) (K : PySem.W.Frag) (a b : Addr) : It :=
  ⟨fun i H => ∃ (xs ys : List V), SqB b1 K H a xs ∧ SqB b2 K H b ys ∧ i < xs.length ∧ i < ys.length,
    fun i H v H' => ∃ T x y, v = .ref T ∧ H T = none ∧ H' = upd H T (.tup [x, y]) ∧ (∀ xs, SqB b1 K H a xs → xs[i]? = some x) ∧ ∀ ys, SqB b2 K H b ys → ys[i]? = some y,
    fun i H => ∃ xs ys : List V, SqB b1 K H a xs ∧ SqB b2 K H b ys ∧ i = min xs.length ys.length⟩
theorem turn_zipB {P : Program} {w : World} {K : PySem.W.Frag} {elts : List Expr} {kk : Nat} {tpos : Pos} {b1 b2 : Bool} {a b z TI TO i1 i2 : Addr} (D : ZipSep2 z TI TO i1 i2 [i1, a] [i2, b]) (ha : a ≠ i1) (hb : b ≠ i2) :
    Turn P w K (.Tuple elts kk tpos) (ItzB b1 b2 K a b) [z, TI, TO, i1, i2] z (fun i h => IsZip h z TI TO .none ∧ IsTupOf2 h TI (.ref i1) (.ref i2) ∧ (∃ x y, IsTupOf2 h TO x y) ∧ ItB b1 h i1 a i ∧ ItB b2 h i2 b i) where
  mem := by simp
  obj := fun i h st c hc => by
    obtain ⟨hz, hTI, ⟨x, y, hTO⟩, h1, h2⟩ := st
    have e' : c = z ∨ c = TI ∨ c = TO ∨ c = i1 ∨ c = i2 := by simpa using hc
    rcases e' with q | q | q | q | q
    · rw [q]; exact ⟨_, hz, fun v q => nomatch q⟩
    · rw [q]; exact ⟨_, hTI, fun v q => nomatch q⟩
    · rw [q]; exact ⟨_, hTO, fun v q => nomatch q⟩
    · rw [q]; exact itB_obj h1
    · rw [q]; exact itB_obj h2
  keep := fun i h h' st k => by
    obtain ⟨hz, hTI, ⟨x, y, hTO⟩, h1, h2⟩ := st
    exact ⟨k z (by simp) _ hz, k TI (by simp) _ hTI, ⟨x, y, k TO (by simp) _ hTO⟩, itB_at h1 fun o q => k i1 (by simp) o q, itB_at h2 fun o q => k i2 (by simp) o q⟩
  item := by
    intro X hP hw hK hc i pins s σ H E I hf st hg
    subst hP hw hK
    obtain ⟨hz, hTI, ⟨x0, y0, hTO⟩, h1, h2⟩ := st
    obtain ⟨xs, ys, hqx, hqy, hx, hy⟩ := hg
    obtain ⟨its, rv, p, _⟩ := seB_of I hqx
    obtain ⟨its2, rv2, p2, _⟩ := seB_of I hqy
    have hzl : z < s.heap.objs.size := Heap.lt_size hz
    have l1 := rv.length
    have l2 := rv2.length
    refine wpAny_pyNext_zipD2_item D (drawsB (A := X.A.in1) b1 (I.ok.hd hc) i1 a ha its.toArray) (drawsB (A := X.A.in1) b2 (I.ok.hd hc) i2 b hb its2.toArray) hz hTI hTO (i := i) ⟨h1, p⟩ ⟨h2, p2⟩ (by rw [List.size_toArray]; omega) (by rw [List.size_toArray]; omega) fun u u2 h' tk hu hu2 z' TO' h1' h2' hT hsz hk => ?_
    obtain ⟨x, hx', ru⟩ := vals_back rv (by simpa using hu)
    obtain ⟨y, hy', ru2⟩ := vals_back rv2 (by simpa using hu2)
    refine ⟨_, rfl, wpAny_letOwnedTupleGo_zip (s := { s with heap := h', toks := tk }) z' fun h'' z'' sb => ?_⟩
    have hT2 : h''.get? s.heap.objs.size = some { cls := .type "tuple", data := .seq #[u, u2] } := (sb.2 _ (Nat.ne_of_gt hzl)).trans hT
    have new : ObjOk X.prog X.w (upd H s.heap.objs.size (.tup [x, y])) h'' s.heap.objs.size (.tup [x, y]) :=
      ⟨by show 2 ≤ sizeLine; decide, [u, u2], .cons ru (.cons ru2 .nil), ⟨_, hT2, rfl, _, rfl⟩⟩
    have I1 : Inv X pins σ (upd H s.heap.objs.size (.tup [x, y])) { s with heap := h'', toks := tk } :=
      I.turnedNew (t' := tk) (ch := [z, TI, TO, i1, i2]) (fun c o hb q => (sb.2 c (fun q' => hb (by simp [q']))).trans (hk c o (fun q' => hb (by simp [q'])) (fun q' => hb (by simp [q'])) (fun q' => hb (by simp [q'])) (fun q' => hb (by simp [q'])) q)) hf (Nat.le_refl _) new
    refine ⟨.ref s.heap.objs.size, _, I1, rfl, ⟨_, x, y, rfl, I.hok.fresh (Nat.le_refl _), rfl, fun l hl => by rw [sqB_inj I hl hqx]; exact hx', fun l hl => by rw [sqB_inj I hl hqy]; exact hy'⟩, ⟨z'', ?_, ⟨u, u2, ?_⟩, ?_, ?_⟩, fun c hcm => ?_⟩
    · exact (sb.2 _ D.TIz).trans (hk _ _ D.TIz D.TITO D.TIi1 D.TIi2 hTI)
    · exact (sb.2 _ D.TOz).trans TO'
    · exact itB_at h1'.1 fun o q => (sb.2 _ D.zi1.symm).trans q
    · exact itB_at h2'.1 fun o q => (sb.2 _ D.zi2.symm).trans q
    · have hlt : c < s.heap.objs.size := by
        have e' : c = z ∨ c = TI ∨ c = TO ∨ c = i1 ∨ c = i2 := by simpa using hcm
        rcases e' with q | q | q | q | q
        · rw [q]; exact hzl
        · rw [q]; exact Heap.lt_size hTI
        · rw [q]; exact Heap.lt_size hTO
        · rw [q]; obtain ⟨_, e1, _⟩ := itB_obj h1; exact Heap.lt_size e1
        · rw [q]; obtain ⟨_, e2, _⟩ := itB_obj h2; exact Heap.lt_size e2
      rw [upd_ne (Nat.ne_of_lt hlt)]
      exact (hf c hcm).1
  done := by
    intro X hP hw hK hc i pins s σ H E I hf st hg
    subst hP hw hK
    obtain ⟨hz, hTI, ⟨x0, y0, hTO⟩, h1, h2⟩ := st
    obtain ⟨xs, ys, hqx, hqy, hend⟩ := hg
    obtain ⟨its, rv, p, _⟩ := seB_of I hqx
    obtain ⟨its2, rv2, p2, _⟩ := seB_of I hqy
    have l1 := rv.length
    have l2 := rv2.length
    exact wpAny_pyNext_zipD2_end D (drawsB (A := X.A.in1) b1 (I.ok.hd hc) i1 a ha its.toArray) (drawsB (A := X.A.in1) b2 (I.ok.hd hc) i2 b hb its2.toArray) hz hTI hTO (i := i) ⟨h1, p⟩ ⟨h2, p2⟩ (by rw [List.size_toArray]; omega) (by rw [List.size_toArray]; omega) (by rw [List.size_toArray, List.size_toArray]; omega) fun h' tk hk => ⟨rfl, I.turnedL (t' := tk) (ch := [z, TI, TO, i1, i2]) (fun c o hb q =>
      hk c o (fun q' => hb (by simp [q'])) (fun q' => hb (by simp [q'])) (fun q' => hb (by simp [q'])) (fun q' => hb (by simp [q'])) q) hf⟩
  self := fun A i s Q E st h => wpAny_pyIter_zip st.1 h
/-- triples -/
def ItzB3 (b1 b2 b3 : Bool) (K : PySem.W.Frag) (a b c : Addr) : It :=
  ⟨fun i H => ∃ (xs ys zs : List V), SqB b1 K H a xs ∧ SqB b2 K H b ys ∧ SqB b3 K H c zs ∧ i < xs.length ∧ i < ys.length ∧ i < zs.length,
    fun i H v H' => ∃ T x y z, v = .ref T ∧ H T = none ∧ H' = upd H T (.tup [x, y, z]) ∧ (∀ xs, SqB b1 K H a xs → xs[i]? = some x) ∧ (∀ ys, SqB b2 K H b ys → ys[i]? = some y) ∧ ∀ zs, SqB b3 K H c zs → zs[i]? = some z,
    fun i H => ∃ xs ys zs : List V, SqB b1 K H a xs ∧ SqB b2 K H b ys ∧ SqB b3 K H c zs ∧ i = min xs.length (min ys.length zs.length)⟩
/-! ### the calls -/
theorem mem_le5 {n c : Nat} (h : c ∈ [n + 4, n + 2, n + 3, n, n + 1]) : n ≤ c := by
  simp only [List.mem_cons, List.not_mem_nil, or_false] at h
  omega
theorem sep2 {n a b : Nat} (ha : a < n) (hb : b < n) : ZipSep2 (n + 4) (n + 2) (n + 3) n (n + 1) [n, a] [n + 1, b] := by
  constructor <;> first | exact List.mem_cons_self | (intro h; have h : (_ : Nat) = (_ : Nat) := h; omega) | (intro h; rcases List.mem_cons.mp h with h | h; (have h : (_ : Nat) = (_ : Nat) := h; omega); have h : (_ : Nat) = (_ : Nat) := List.mem_singleton.mp h; omega)
def rZipB (b1 b2 : Bool) (K : PySem.W.Frag) (vs : List V) (H1 : Hp) (R : It → Hp → Prop) : Prop := ∃ a b xs ys, vs = [.ref a, .ref b] ∧ SqB b1 K H1 a xs ∧ SqB b2 K H1 b ys ∧ R (ItzB b1 b2 K a b) H1
theorem q_zipB {X : Cx} (K : PySem.W.Frag) (b1 b2 : Bool) {e e2 : Expr} {ta : TA} {p pos tpos : Pos} {elts : List Expr} {kk : Nat} (hm : X.mg "zip" = none) (ha : PA X [e, e2] ta) (hg : Gl X "zip" := by rfl) (hs : starEach [e, e2] X.env = (false, eval e X.env) :: starEach [e2] X.env := by rfl) (hs2 : (backTo pos (starEach [e2] X.env)).any (·.1) = false := by rfl) (h : X.K = K := by rfl) :
    PI X (.Tuple elts kk tpos) (.Call (.Name "zip" p) [e, e2] [] pos) (iA (rZipB b1 b2 K) ta) := by
  subst h
  refine ⟨fun pins s σ H R I h => ?_⟩
  refine Call_ (ld_blt I hg hm PyProof.Rows.boot_zip (PyProof.Rows.callWith_type1 (thn (ha.run pos pins s σ H _ I h) fun us s1 ⟨vs, H1, I1, r1, q1⟩ => ?_) hs hs2))
  obtain ⟨a, b, xs, ys, rfl, hqx, hqy, q⟩ := q1
  cases r1 with
  | cons r rr =>
    cases rr with
    | cons r' rr =>
      cases rr
      cases r
      cases r'
      obtain ⟨its, rv, p1, lt1⟩ := seB_of I1 hqx
      obtain ⟨its2, rv2, p2, lt2⟩ := seB_of I1 hqy
      refine zip_begins2 (beginsB b1 a its.toArray) (beginsB b2 b its2.toArray) p1 p2 fun h' hz hTI hTO h1 h2 hsz hk => wpAny_pyIter_zip hz ?_
      have I2 : Inv X pins σ H1 { s1 with heap := h' } := I1.kept (t' := s1.toks) hk
      refine ⟨s1.heap.objs.size + 4, [s1.heap.objs.size + 4, s1.heap.objs.size + 2, s1.heap.objs.size + 3, s1.heap.objs.size, s1.heap.objs.size + 1], _, _, H1, rfl, I2, turn_zipB (sep2 lt1 lt2) (Nat.ne_of_lt lt1) (Nat.ne_of_lt (Nat.lt_succ_of_lt lt2)), ⟨hz, hTI, ⟨_, _, hTO⟩, itB_new h1, itB_new h2⟩, fun c hcm => ?_, q⟩
      · have hle : s1.heap.objs.size ≤ c := by
          exact mem_le5 hcm
        exact I1.fpOk hle (I1.hok.fresh hle)
def rZipB3 (b1 b2 b3 : Bool) (K : PySem.W.Frag) (vs : List V) (H1 : Hp) (R : It → Hp → Prop) : Prop := ∃ a b c xs ys zs, vs = [.ref a, .ref b, .ref c] ∧ SqB b1 K H1 a xs ∧ SqB b2 K H1 b ys ∧ SqB b3 K H1 c zs ∧ R (ItzB3 b1 b2 b3 K a b c) H1
/-! ### with data -/
def seqB (b : Bool) (xs : List D) : D := match b with
  | true => .lst xs
  | false => .tup xs
def zip3D (xs ys zs : List D) : List D := (xs.zip (ys.zip zs)).map fun p => D.tup [p.1, p.2.1, p.2.2]
theorem zip3D_len (xs ys zs : List D) : (zip3D xs ys zs).length = min xs.length (min ys.length zs.length) := by unfold zip3D; rw [List.length_map, List.length_zip, List.length_zip]
theorem zip3D_at {xs ys zs : List D} {i : Nat} {x y z : D} (h : xs[i]? = some x) (h' : ys[i]? = some y) (h'' : zs[i]? = some z) : (zip3D xs ys zs)[i]? = some (.tup [x, y, z]) := by
  unfold zip3D
  have e : (xs.zip (ys.zip zs))[i]? = some (x, y, z) := List.getElem?_zip_eq_some.mpr ⟨h, List.getElem?_zip_eq_some.mpr ⟨h', h''⟩⟩
  rw [List.getElem?_map, e]
  rfl
section
variable {K : PySem.W.Frag} {S : Sx} {ρ : List Sl} {Φ : D → Prop} {Ψ : List D → Prop} {tr : TA} {b1 b2 b3 : Bool}
theorem dat_seqB {F : Hp} {b : Bool} {xs : List D} {v : V} (h : Dat K S F (seqB b xs) v) : ∃ a ws, v = .ref a ∧ (∀ H, Same F H → SqB b K H a ws) ∧ Dats K S F xs ws := by
  cases b with
  | true =>
    obtain ⟨a, ws, rfl, h3, h4⟩ := h
    exact ⟨a, ws, rfl, fun H hH => sl_of (hH _ _ h3), h4⟩
  | false =>
    obtain ⟨a, ws, rfl, h3, h4⟩ := h
    exact ⟨a, ws, rfl, fun H hH => st_sm hH h3, h4⟩
theorem walk_zipB {a b : Addr} {xs ys : List V} {n : Nat} (hn : n = min xs.length ys.length) : Walk (ItzB b1 b2 K a b) n (fun H => SqB b1 K H a xs ∧ SqB b2 K H b ys) (YPair (fun i => xs[i]?) (fun i => ys[i]?)) := by
  subst hn
  refine ⟨fun i _ hi q => ⟨xs, ys, q.1, q.2, by omega, by omega⟩, fun _ q => ⟨xs, ys, q.1, q.2, rfl⟩, fun i H v H' _ q y => ?_⟩
  obtain ⟨T, x, y, h1, h2, h3, h4, h5⟩ := y
  exact ⟨T, x, y, h1, h2, h3, h4 xs q.1, h5 ys q.2⟩
def YTrip (xs ys zs : Nat → Option V) : Nat → Hp → V → Hp → Prop := fun i H v H' => ∃ T x y z, v = .ref T ∧ H T = none ∧ H' = upd H T (.tup [x, y, z]) ∧ xs i = some x ∧ ys i = some y ∧ zs i = some z
theorem walk_zipB3 {a b c : Addr} {xs ys zs : List V} {n : Nat} (hn : n = min xs.length (min ys.length zs.length)) : Walk (ItzB3 b1 b2 b3 K a b c) n (fun H => SqB b1 K H a xs ∧ SqB b2 K H b ys ∧ SqB b3 K H c zs) (YTrip (fun i => xs[i]?) (fun i => ys[i]?) (fun i => zs[i]?)) := by
  subst hn
  refine ⟨fun i _ hi q => ⟨xs, ys, zs, q.1, q.2.1, q.2.2, by omega, by omega, by omega⟩, fun _ q => ⟨xs, ys, zs, q.1, q.2.1, q.2.2, rfl⟩, fun i H v H' _ q y => ?_⟩
  obtain ⟨T, x, y, z, h1, h2, h3, h4, h5, h6⟩ := y
  exact ⟨T, x, y, z, h1, h2, h3, h4 xs q.1, h5 ys q.2.1, h6 zs q.2.2⟩
theorem itOk_trip {F1 : Hp} {J : It} {its : List D} {f1 f2 f3 : Nat → Option V} (w : Walk J its.length (fun H2 => Same F1 H2) (YTrip f1 f2 f3)) (h : ∀ i v1 v2 v3, i < its.length → f1 i = some v1 → f2 i = some v2 → f3 i = some v3 → ∃ d1 d2 d3, its[i]? = some (.tup [d1, d2, d3]) ∧ Dat K S F1 d1 v1 ∧ Dat K S F1 d2 v2 ∧ Dat K S F1 d3 v3) : ItOk K S F1 J its := by
  refine ⟨_, w, fun i H2 v H3 F2 hi s1 s2 dr y => ?_⟩
  obtain ⟨T, v1, v2, v3, rfl, nT, rfl, e1, e2, e3⟩ := y
  obtain ⟨d1, d2, d3, h1, h2, h3, h4⟩ := h i v1 v2 v3 hi e1 e2 e3
  have nF : F2 T = none := s2.free nT
  have sm : Same F1 (upd F2 T (.tup [v1, v2, v3])) := fun b o q => upd_new (s1 _ _ q) nF
  exact ⟨_, upd F2 T (.tup [v1, v2, v3]), h1, ⟨T, _, rfl, st_of upd_same, v1, _, rfl, Dat.mono sm d1 h2, v2, _, rfl, Dat.mono sm d2 h3, v3, _, rfl, Dat.mono sm d3 h4, rfl⟩, (Ag.refl s2 dr).newF dr nT⟩
theorem ei_zipB (h : EvA K S tr ρ fun zs => ∃ xs ys, zs = [seqB b1 xs, seqB b2 ys] ∧ Ψ (zipD xs ys)) : EvI K S (iA (rZipB b1 b2 K) tr) ρ Ψ := fun σ F H e s dr R q =>
  h σ F H e s dr _ fun vs zs F1 H1 ⟨xs, ys, hx, hΨ⟩ dd g1 => by
    subst hx
    obtain ⟨v, us, rfl, h1, v', us', rfl, h1', h2⟩ := dd
    cases h2
    obtain ⟨a, ws, rfl, h3, h4⟩ := dat_seqB h1
    obtain ⟨b, ws', rfl, h3', h4'⟩ := dat_seqB h1'
    refine ⟨a, b, ws, ws', rfl, h3 _ g1.ok, h3' _ g1.ok, q _ _ F1 H1 hΨ g1 (itOk_pair (f1 := fun i => ws[i]?) (f2 := fun i => ws'[i]?) ((walk_zipB (by rw [zipD_len, h4.length, h4'.length])).mono (fun H hH => ⟨h3 H hH, h3' H hH⟩) fun _ _ _ _ _ _ y => y) fun i v1 v2 hi e1 e2 => ?_)⟩
    obtain ⟨d1, h5, h6⟩ := h4.get' e1
    obtain ⟨d2, h7, h8⟩ := h4'.get' e2
    exact ⟨d1, d2, zipD_at h5 h7, h6, h8⟩
theorem ei_zipB3 (h : EvA K S tr ρ fun zs => ∃ xs ys ts, zs = [seqB b1 xs, seqB b2 ys, seqB b3 ts] ∧ Ψ (zip3D xs ys ts)) : EvI K S (iA (rZipB3 b1 b2 b3 K) tr) ρ Ψ := fun σ F H e s dr R q =>
  h σ F H e s dr _ fun vs zs F1 H1 ⟨xs, ys, ts, hx, hΨ⟩ dd g1 => by
    subst hx
    obtain ⟨v, us, rfl, h1, v', us', rfl, h1', v'', us'', rfl, h1'', h2⟩ := dd
    cases h2
    obtain ⟨a, ws, rfl, h3, h4⟩ := dat_seqB h1
    obtain ⟨b, ws', rfl, h3', h4'⟩ := dat_seqB h1'
    obtain ⟨c, ws'', rfl, h3'', h4''⟩ := dat_seqB h1''
    refine ⟨a, b, c, ws, ws', ws'', rfl, h3 _ g1.ok, h3' _ g1.ok, h3'' _ g1.ok, q _ _ F1 H1 hΨ g1 (itOk_trip (f1 := fun i => ws[i]?) (f2 := fun i => ws'[i]?) (f3 := fun i => ws''[i]?) ((walk_zipB3 (by rw [zip3D_len, h4.length, h4'.length, h4''.length])).mono (fun H hH => ⟨h3 H hH, h3' H hH, h3'' H hH⟩) fun _ _ _ _ _ _ y => y) fun i v1 v2 v3 hi e1 e2 e3 => ?_)⟩
    obtain ⟨d1, h5, h6⟩ := h4.get' e1
    obtain ⟨d2, h7, h8⟩ := h4'.get' e2
    obtain ⟨d3, h9, h10⟩ := h4''.get' e3
    exact ⟨d1, d2, d3, zip3D_at h5 h7 h9, h6, h8, h10⟩
end
section
variable {K : PySem.W.Frag} {S : Sx} {ρ : List Sl} {O : Oc} {i j : Nat} {ta tb : TE}
end
theorem o_eqAK {X : Cx} {k j : Nat} {ps : List Str} {sp : Sp} {C : Addr} (K : PySem.W.Frag) (c : CalM X.prog X.w X.K X.mg X.base k C "__eq__" ps sp) (hr : Room j X.A) (hk : k ≤ j) (h : X.K = K := by rfl) : OpR X (compareOp .Eq) (rEqA K C sp) := h ▸ o_eqA c hr hk
end
/-! None or not. -/
section
set_option maxRecDepth 100000
set_option maxHeartbeats 2000000
/-- is None, is not None -/
def D.nn : D → Bool
  | .bl _ => true | .int _ => true | .str _ => true | .tup _ => true | .lst _ => true | .ins _ _ _ => true | .dk _ _ => true
  | _ => false
theorem Dat.nn {K : PySem.W.Frag} {S : Sx} {F : Hp} {v : V} : ∀ {d : D}, d.nn = true → Dat K S F d v → v ≠ .non
  | .bl _, _, h => by cases h; exact fun z => nomatch z
  | .int _, _, h => by cases h; exact fun z => nomatch z
  | .str _, _, h => by cases h; exact fun z => nomatch z
  | .tup _, _, ⟨a, _, e, _⟩ => by rw [e]; exact fun z => nomatch z
  | .lst _, _, ⟨a, _, e, _⟩ => by rw [e]; exact fun z => nomatch z
  | .ins _ _ _, _, ⟨a, _, _, e, _⟩ => by rw [e]; exact fun z => nomatch z
  | .dk _ _, _, ⟨a, _, e, _⟩ => by rw [e]; exact fun z => nomatch z
section
variable {K : PySem.W.Frag} {S : Sx} {Φ : D → Prop} {d : D}
theorem od_notN0 (k : Φ (.bl false)) : OpD K S (fun x y H Q => y = V.non ∧ Q (V.bl (!decide (x = V.non))) H) .non .non Φ := fun u w F H s dr h1 h2 Q q => by
  cases h1; cases h2
  exact ⟨rfl, by rw [decide_eq_true rfl]; exact q _ _ F H k rfl (Ag.refl s dr)⟩
end
end
/-! Static methods, called of the class, with nothing. -/
section
set_option maxRecDepth 100000
set_option maxHeartbeats 2000000
open PySem PySem.Spec PyProof.Rows L2
/-- the static method m of the class at C: its def at f -/
structure StM (K : PySem.W.Frag) (C : Addr) (m : Str) (f : Addr) : Prop where
  rd : ClX.CRead K C (.type "type")
  at_ : ∃ p, PySem.W.findCls K (.ref C) (.type "type") m = some (.get (.builtin "staticmethod.__get__") (.ref p) .none (.ref C)) ∧ ∃ rest, PySem.W.recIn K p "staticmethod" = some (.ref f :: rest)
def DefSt (K : PySem.W.Frag) (C : Addr) (m q : Str) (st : Stmt) : Prop := ∃ (f : Addr) (fd : FuncData), StM K C m f ∧ FunD K m q (defArgs st) (defBody st) (defScope st) [] [] f fd
section
variable (P : Program) (w : World) (K : PySem.W.Frag) (mg : Str → Option Value) (base : Heap)
def CalSt (k : Nat) (C : Addr) (m : Str) (sp : Sp) : Prop := ∃ (f : Addr) (fd : FuncData), StM K C m f ∧ PySem.W.keepIn K (.ref f) = true ∧ Binds K fd [] [] ∧ FnOk P w K mg base CX0 k f fd [] sp
end
section
variable {P : Program} {w : World} {K : PySem.W.Frag} {mg : Str → Option Value} {base : Heap}
theorem CalSt.ofD {C : Addr} {m q : Str} {st : Stmt} {N : List Str} {k : Nat} {f : FD} (D : DefSt K C m q st) (S : FnScope N [] (defScope st))
    (hb : ∀ (kV doc pm : Value) (an : Option Addr) (cdv ct : Value) (us : List Value), us.length = ([] : List Str).length → bindArgs (PySem.W.fnOf m q (defArgs st) (defBody st) (defScope st) .none kV doc pm an cdv ct) ⟨us, []⟩ = pure (([] : List Str).zip us))
    (len : ∀ ds Φ, f ds Φ → ds.length = 0)
    (hbody : ∀ (fa : Addr) (cdv : Value) (A : Around) (outer : List Env) (s : Shared) (H : Hp), Room k (A.deeper (envOfC q (defScope st) s.heap.objs.size fa cdv)) →
      ∃ t, PSs (cxR P w K mg base N q (defScope st) fa cdv A outer s H) (defBody st) t ∧ ∀ S ds Φ, f ds Φ → ExD K S t (ini N ds) { nx := fun _ => Φ .non, rt := Φ }) : CalSt P w K mg base (k + 1) C m (spD K f) := by
  obtain ⟨a, fd, hm, F⟩ := D
  refine ⟨a, fd, hm, F.kp, F.bindsN hb, F.ok S (fun vs H Q E h => ?_) fun cdv A outer s H vs Q E hr h => ?_⟩
  · obtain ⟨_, _, ds, Φ, _, _, hd, hf, _⟩ := h
    rw [hd.length]
    exact len ds Φ hf
  · obtain ⟨t, h1, h2⟩ := hbody a cdv A outer s H hr
    exact ⟨t, PSs.nox h1, body_of h h2⟩
end
/-- C.m() -/
def tSt (C : Addr) (sp : Sp) (E : XK) (ta : TE) : TE := fun σ H Q => ta σ H fun x H1 => x = .ref C ∧ sp [] H1 Q E
section
variable {X : Cx} {k j : Nat} {C : Addr} {sp : Sp} {m : Str} {pos apos : Pos} {o : Expr} {ta : TE}
theorem pe_st0 {pl : Sem Bool} (he : PE X o ta) (c : CalSt X.prog X.w X.K X.mg X.base k C m sp) (hr : Room j X.A) (hk : k ≤ j)
    (ht : eval (.Call (.Attribute o m apos) [] [] pos) X.env = (do
      let ov ← eval o X.env
      standAt apos.atName
      let (f, first) ← holding [ov] (getMethod ov m pl)
      callWith pos f first (backTo pos (starEach [] X.env)) (backToKw pos (keywordEach [] X.env))) := by rfl) :
    PE X (.Call (.Attribute o m apos) [] [] pos) (tSt C sp E0 ta) := by
  obtain ⟨f, fd, hm, hp, hb, F⟩ := c
  refine ⟨fun pins s σ H Q I h => ?_⟩
  refine PySem.W.methodCall_KW (pl := pl) (thn (he.run pins s σ H _ I h) fun u s1 ⟨x, H1, I1, rx, ex, q⟩ => ?_) ht
  subst ex
  obtain rfl : u = Value.ref C := rx
  obtain ⟨p, h1, rest, h2⟩ := hm.at_
  refine PySem.W.method_cls I1.kIn hm.rd.ga (PySem.W.cls_bind I1.kIn hm.rd.rd h1 (wpAny_call (PySem.W.sm_get (s := { s1 with toks := s1.toks + 1 }) I1.kIn h2 (PySem.W.handed_on rfl ?_))))
  exact PySem.W.callWith_K0 (first := []) I1.kIn hp (run_fn (us := []) (vs := []) F (hr.mono hk) hb .nil pass0 (I1.tok _) .nil q)
end
section
variable {K : PySem.W.Frag} {S : Sx} {ρ : List Sl} {Φ : D → Prop} {te : TE} {C : Addr}
theorem ev_st0 {f : FD} (h : EvD K S te ρ fun x => x = .raw (.ref C) ∧ f [] Φ) : EvD K S (tSt C (spD K f) E0 te) ρ Φ := fun σ F H e s dr Q q =>
  h σ F H e s dr _ fun v x F1 H1 ⟨hx, hf⟩ dd g1 => by
    subst hx
    cases dd
    exact ⟨rfl, S, F1, [], Φ, g1.ok, g1.dr, rfl, hf, fun v d F' H' hd dd' g3 => q v d F' H' hd dd' (g1.trans g3 dr)⟩
end
end
/-! Two names at once: a new list, a value. -/
section
set_option maxRecDepth 100000
set_option maxHeartbeats 2000000
variable {K : PySem.W.Frag} {S : Sx} {ρ : List Sl} {O : Oc} {i j : Nat} {ta tb : TE}
end
/-! More of one's own lists: insert, list(x). -/
section
set_option maxRecDepth 100000
set_option maxHeartbeats 2000000
def rIns : V → List V → Hp → VK → Prop := fun x vs H Q => ∃ (l : Addr) (xs : List V) (i : Int) (y : V), x = .ref l ∧ vs = [.int i, y] ∧ H l = some (.lst xs) ∧ xs.length < sizeLine ∧ 0 ≤ i ∧ i < 2 ^ 63 ∧ Q .non (upd H l (.lst (xs.take i.toNat ++ [y] ++ xs.drop i.toNat)))
section
variable {K : PySem.W.Frag} {S : Sx} {ρ : List Sl} {Φ : D → Prop} {Ψ : List D → Prop} {O : Oc} {te ti : TE} {ds : List D} {i : Nat}
/-- x.insert(n, e), x one's own list -/
theorem ex_insO (h0 : ρ[i]? = some (.own ds)) (hl : ds.length < 100000) (h : EvD K S ti ρ fun z => EvD K S te ρ fun d => ∃ n : Nat, z = .int (n : Int) ∧ n < 1000000 ∧ O.nx (ρ.set i (.own (ds.take n ++ [d] ++ ds.drop n)))) : ExD K S (tDrop (tBM K "list" rIns (tVar i) (tCons ti (tCons te tNil)))) ρ O := fun F0 H0 σ F H e o a d0 E f => by
  obtain ⟨p, vs, h1, _, h2, h3⟩ := e.own h0
  refine ⟨.ref p, h1, .inl ⟨rfl, vs, sl_of h2⟩, h σ F H e a.ok a.dr _ fun z dz F1 H1 hz ddz g1 => hz σ F1 H1 (e.ag g1) g1.ok g1.dr _ fun v d F2 H2 ⟨n, en, hn, hO⟩ dd g2 => ?_⟩
  subst en
  have ez : z = .int (n : Int) := ddz
  subst ez
  have g := g1.trans g2 a.dr
  obtain ⟨p', vs', h1', ⟨nF', ns'⟩, h2', h3'⟩ := (e.ag g).own h0
  rw [h1] at h1'
  cases h1'
  have hl' : vs'.length < sizeLine := by rw [h3'.length]; exact Nat.lt_of_lt_of_le hl (by decide)
  refine ⟨p, vs', n, v, rfl, rfl, h2', hl', by omega, by omega, ?_⟩
  rw [Int.toNat_natCast]
  exact f.nx σ _ F2 _ hO ((e.ag g).mut h1 h0 rfl ⟨p, _, rfl, ⟨nF', ns'⟩, upd_same, ((h3'.take n).app (Dats.one dd)).app (h3'.drop n)⟩) (o.mut h0 rfl) ((a.trans g d0).mut d0 (by rw [h2']; trivial) (o i _ _ p h0 rfl h1 rfl) nF' ns')
/-- list(x), x one's own list -/
theorem evN_listO (h0 : ρ[i]? = some (.own ds)) (k : Ψ ds) : EvN K S (tCB (rListOf K) (tCons (tVar i) tNil)) ρ Ψ := fun σ F H e s dr Q q => by
  obtain ⟨p, vs, h1, _, h2, h3⟩ := e.own h0
  exact ⟨.ref p, h1, p, vs, rfl, .inl (sl_of h2), fun l nl => q l _ _ F _ k (.of nl) (s.free nl) upd_same h3 ((Ag.refl s dr).newH dr nl)⟩
end
end
/-! Written things compared; tuples joined. -/
section
set_option maxRecDepth 100000
set_option maxHeartbeats 2000000
open PySem PySem.Spec PyProof.Rows L2
section
variable {K : PySem.W.Frag} {S : Sx} {Φ : D → Prop} {x y : D}
theorem o_catA {X : Cx} (K : PySem.W.Frag) (h : X.K = K := by rfl) : OpR X (binaryOp .Add) (rCatA K) := by
  subst h
  exact op_catA
/-- t + u -/
theorem od_catA {xs ys : List D} (hl : xs.length + ys.length < 100000) (k : Φ (.tup (xs ++ ys))) : OpD K S (rCatA K) (.tup xs) (.tup ys) Φ := fun u w F H s dr h1 h2 Q q => by
  obtain ⟨a, vs, rfl, h3, h4⟩ := h1
  obtain ⟨b, ws, rfl, h5, h6⟩ := h2
  refine ⟨a, b, vs, ws, rfl, rfl, st_sm s h3, st_sm s h5, by rw [h4.length, h6.length]; exact Nat.le_of_lt (Nat.lt_of_lt_of_le hl (by decide)), fun hx => ?_, fun hx hy => ?_, fun hx hy p np => ?_⟩
  · have e : xs = [] := List.eq_nil_of_length_eq_zero (by rw [← h4.length, hx]; rfl)
    exact q (.ref b) _ F H k ⟨b, ws, rfl, h5, by rw [e]; exact h6⟩ (Ag.refl s dr)
  · have e : ys = [] := List.eq_nil_of_length_eq_zero (by rw [← h6.length, hy]; rfl)
    exact q (.ref a) _ F H k ⟨a, vs, rfl, h3, by rw [e, List.append_nil]; exact h4⟩ (Ag.refl s dr)
  · have nF : F p = none := s.free np
    exact q (.ref p) _ _ _ k ⟨p, _, rfl, st_of upd_same, Dats.mono (fun b w z => upd_new z nF) _ (h4.app h6)⟩ ((Ag.refl s dr).newF dr np)
end
end
/-! Own errors with one field: what the head tells of their classes. -/
section
set_option maxRecDepth 100000
set_option maxHeartbeats 4000000
open PySem PySem.Spec PyProof.Rows L2
/-- what the program's top leaves of the error class x at C, whose __init__ is st and keeps f -/
structure XiD (P : Program) (K : PySem.W.Frag) (mg : Str → Option Value) (x : Str) (C : Addr) (f q : Str) (st : Stmt) : Prop where
  g : mg x = some (.ref C)
  oc : OexC K C
  xf : XfC K C
  te : PySem.W.exmOne K (.ref C) (.ref C) = some true
  nf : PySem.W.findIn K (.ref C) f = some none
  fn : ∃ (fI cc cda : Addr) (kV doc pm ct oc oc2 oc3 : Value) (an od od2 od3 : Option Addr) (osl osl2 osl3 : Array (Option Value)) (vs : Array Value) (file : Str) (tf : Tok), PySem.W.findIn K (.ref C) "__init__" = some (some (.ref fI)) ∧ PySem.W.typeIn K (.ref fI) = some (.type "function") ∧
    K.lookup fI = some ⟨oc, od, .func (PySem.W.ksFn "__init__" q (defArgs st) (defBody st) (defScope st) .none kV doc pm an (.ref cda) ct cc), osl⟩ ∧ PySem.W.codeIn K (.ref cda) q = true ∧
    K.lookup cc = some ⟨oc2, od2, .cell (some (.ref C)), osl2⟩ ∧ K.lookup cda = some ⟨oc3, od3, .fields vs, osl3⟩ ∧ vs[2]? = some (.str file tf) ∧ ((P.main.file : Str) == file) = true
  top : (P.main.scope.names.lookup ("super" : Str)).isSome = false
  sup : mg "super" = none
  si : PySem.W.ks_superIn K C C "__init__" = some (some (.builtin "ValueError.__init__"))
  op : PySem.W.nsIn K cStatics "thirdparty.any" = some none
  sV : PySem.W.subIn K (.ref C) (.type "ValueError") = some true
  sC : PySem.W.mroIn K C (.ref C) = some true
end
/-! For the head: static methods, their promises. -/
section
set_option maxRecDepth 100000
set_option maxHeartbeats 0
open PySem PySem.Spec PyProof.Rows L2
theorem g_static {K : PySem.W.Frag} {x m q : Str} {st : Stmt} (h1 : stmB K x m = true) (h2 : okA K (stmA K x m) q = true) (h3 : fnA K (stmA K x m) = some (m, q, defArgs st, .stmts (defBody st), defScope st, mainGlobals, [], builtinsNs)) : DefSt K (He.ga K x) m q st := by
  obtain ⟨fd, F⟩ := funA h3 h2
  obtain ⟨a1, a2⟩ := He.ba h1
  obtain ⟨b1, b2⟩ := He5.wrapB_ok a2
  exact ⟨_, fd, ⟨reads_c a1, _, b1, b2⟩, F⟩
end
/-! Words, integers and rows at the level of data; one of some things. -/
end Lf
namespace Lf
open PySem L2
local macro_rules | `(tactic| walk_at "nq") => `(tactic| first | with_reducible assumption | with_reducible exact Ne.symm (by assumption) | with_reducible exact ne_of_none (by assumption) (by assumption) | with_reducible exact Ne.symm (ne_of_none (by assumption) (by assumption)))
local macro_rules | `(tactic| walk_at "gt") => `(tactic| first | with_reducible assumption | with_reducible exact upd_same | ((with_reducible refine' upd_new ?ha ?hb); (case hb => with_reducible assumption); (case ha => walk_at "gt")) | ((with_reducible refine' upd_old ?ha ?hb); (case hb => walk_at "nq"); (case ha => walk_at "gt")) | ((with_reducible refine' sm_get ?hb ?ha); (case hb => with_reducible assumption); (case ha => walk_at "gt")) | ((with_reducible refine' fr_get ?hb ?ha ?hc); (case hb => with_reducible assumption); (case hc => walk_at "nq"); (case ha => walk_at "gt")))
local macro_rules | `(tactic| walk_at "sl") => `(tactic| first | with_reducible assumption | ((with_reducible refine' sl_of ?ha); (case ha => walk_at "gt")) | ((with_reducible refine' sl_new ?ha ?hb); (case hb => with_reducible assumption); (case ha => walk_at "sl")) | ((with_reducible refine' sl_sm ?hb ?ha); (case hb => with_reducible assumption); (case ha => walk_at "sl")) | ((with_reducible refine' sl_fr ?hb ?hc ?ha); (case hb => with_reducible assumption); (case hc => walk_at "nq"); (case ha => walk_at "sl")))
local macro_rules | `(tactic| walk_at "st") => `(tactic| first | with_reducible assumption | ((with_reducible refine' st_of ?ha); (case ha => walk_at "gt")) | ((with_reducible refine' st_new ?ha ?hb); (case hb => with_reducible assumption); (case ha => walk_at "st")) | ((with_reducible refine' st_sm ?hb ?ha); (case hb => with_reducible assumption); (case ha => walk_at "st")) | ((with_reducible refine' st_fr ?hb ?hc ?ha); (case hb => with_reducible assumption); (case hc => walk_at "nq"); (case ha => walk_at "st")))
local macro_rules | `(tactic| walk_at "sa") => `(tactic| first | with_reducible assumption | ((with_reducible refine' sa_l ?ha); (case ha => walk_at "gt")) | ((with_reducible refine' sa_t ?ha); (case ha => walk_at "gt")) | ((with_reducible refine' sa_new ?ha ?hb); (case hb => with_reducible assumption); (case ha => walk_at "sa")) | ((with_reducible refine' sa_sm ?hb ?ha); (case hb => with_reducible assumption); (case ha => walk_at "sa")) | ((with_reducible refine' sa_fr ?hb ?hc ?ha); (case hb => with_reducible assumption); (case hc => walk_at "nq"); (case ha => walk_at "sa")) | ((with_reducible refine' Or.inl ?ha); (case ha => walk_at "sl")) | ((with_reducible refine' Or.inr ?ha); (case ha => walk_at "st")))
local macro_rules | `(tactic| walk_at "ln") => `(tactic| first | decide | omega | exact Nat.le_of_ble_eq_true rfl | (simp only [List.length_append, List.length_map, List.length_cons, List.length_nil, List.length_flatMap]; omega))
local macro_rules | `(tactic| walk_at "ty") => `(tactic| first | with_reducible assumption | with_reducible exact .base (.int _) | with_reducible exact .base (.str _) | with_reducible exact .base (.bl _) | with_reducible exact .base .non | ((with_reducible refine' TyX.base (TyOf.lst ?ha)); (case ha => walk_at "gt")) | ((with_reducible refine' TyX.base (TyOf.tup ?ha)); (case ha => walk_at "gt")) | ((with_reducible refine' TyX.base (TyOf.dK ?ha)); (case ha => walk_at "gt")) | ((with_reducible refine' ty_new ?ha ?hb); (case hb => with_reducible assumption); (case ha => walk_at "ty")) | ((with_reducible refine' ty_sm ?hb ?ha); (case hb => with_reducible assumption); (case ha => walk_at "ty")))
local macro_rules | `(tactic| walk_at "kb") => `(tactic| first | with_reducible assumption | exact kb_str_str | exact kb_int_str | exact kb_list_str | exact kb_tuple_str | exact kb_bool_str | exact kb_NoneType_str | exact kb_dict_str | exact kb_str_int | exact kb_int_int | exact kb_list_int | exact kb_tuple_int | exact kb_bool_int | exact kb_NoneType_int | exact kb_dict_int | exact kb_str_bool | exact kb_int_bool | exact kb_list_bool | exact kb_tuple_bool | exact kb_bool_bool | exact kb_NoneType_bool | exact kb_dict_bool | exact kb_str_list | exact kb_int_list | exact kb_list_list | exact kb_tuple_list | exact kb_bool_list | exact kb_NoneType_list | exact kb_dict_list | exact kb_str_tuple | exact kb_int_tuple | exact kb_list_tuple | exact kb_tuple_tuple | exact kb_bool_tuple | exact kb_NoneType_tuple | exact kb_dict_tuple | exact kb_str_dict | exact kb_int_dict | exact kb_list_dict | exact kb_tuple_dict | exact kb_bool_dict | exact kb_NoneType_dict | exact kb_dict_dict)
local macro_rules | `(tactic| walk_at "wk") => `(tactic| first | with_reducible assumption | ((with_reducible refine' WkAt.new ?ha ?hb); (case hb => with_reducible assumption); (case ha => walk_at "wk")) | ((with_reducible refine' WkAt.sm ?hb ?ha); (case hb => with_reducible assumption); (case ha => walk_at "wk")) | ((with_reducible refine' WkAt.dr ?hb ?hc ?ha); (case hb => with_reducible assumption); (case hc => with_reducible assumption); (case ha => walk_at "wk")))
local macro_rules | `(tactic| walk_at "ed") => `(tactic| first | with_reducible assumption | ((with_reducible refine' EdAt.new ?ha ?hb); (case hb => with_reducible assumption); (case ha => walk_at "ed")) | ((with_reducible refine' EdAt.sm ?hb ?ha); (case hb => with_reducible assumption); (case ha => walk_at "ed")) | ((with_reducible refine' EdAt.dr ?hb ?hc ?ha); (case hb => with_reducible assumption); (case hc => with_reducible assumption); (case ha => walk_at "ed")))
local macro_rules | `(tactic| walk_at "pl") => `(tactic| first | with_reducible assumption | ((with_reducible refine' PlAt.new ?ha ?hb); (case hb => with_reducible assumption); (case ha => walk_at "pl")) | ((with_reducible refine' PlAt.sm ?hb ?ha); (case hb => with_reducible assumption); (case ha => walk_at "pl")) | ((with_reducible refine' PlAt.dr ?hb ?hc ?ha); (case hb => with_reducible assumption); (case hc => with_reducible assumption); (case ha => walk_at "pl")))
local macro_rules | `(tactic| walk_at "fl") => `(tactic| first | with_reducible assumption | ((with_reducible refine' WkAt.rows ?hT ?hW); (case hT => assumption); (case hW => walk_at "wk")) | ((with_reducible refine' WkAt.name ?hT ?hW); (case hT => assumption); (case hW => walk_at "wk")) | ((with_reducible refine' EdAt.work ?hT ?hW); (case hT => assumption); (case hW => walk_at "ed")) | ((with_reducible refine' EdAt.nums ?hT ?hW); (case hT => assumption); (case hW => walk_at "ed")) | ((with_reducible refine' PlAt.edition ?hT ?hW); (case hT => assumption); (case hW => walk_at "pl")) | ((with_reducible refine' PlAt.count ?hT ?hW); (case hT => assumption); (case hW => walk_at "pl")))
local macro_rules | `(tactic| walk_at "mt") => `(tactic| first | with_reducible assumption | ((with_reducible refine' WkAt.mt ?hn1 ?hn2 ?hW); (case hW => walk_at "wk"); (case hn1 => decide +kernel); (case hn2 => decide +kernel)) | ((with_reducible refine' EdAt.mt ?hn1 ?hn2 ?hW); (case hW => walk_at "ed"); (case hn1 => decide +kernel); (case hn2 => decide +kernel)) | ((with_reducible refine' PlAt.mt ?hn1 ?hn2 ?hW); (case hW => walk_at "pl"); (case hn1 => decide +kernel); (case hn2 => decide +kernel)))
local macro_rules | `(tactic| walk_at "is") => `(tactic| first | with_reducible assumption | ((with_reducible refine' WkAt.is ?hW); (case hW => walk_at "wk")) | ((with_reducible refine' EdAt.is ?hW); (case hW => walk_at "ed")) | ((with_reducible refine' PlAt.is ?hW); (case hW => walk_at "pl")))
local macro_rules | `(tactic| walk_at "ic") => `(tactic| first
  | ((with_reducible show CMul _ _); first | exact Or.inl ⟨by decide, by decide⟩ | exact Or.inr ⟨by decide, by decide⟩ | exact Or.inl ⟨by omega, by omega⟩ | exact Or.inr ⟨by omega, by omega⟩)
  | ((with_reducible show CDiv _ _); first | exact ⟨by decide, by decide⟩ | exact ⟨by omega, by omega⟩)
  | ((with_reducible show CPow _ _); first | exact ⟨by decide, by decide, by decide⟩ | exact ⟨by decide, by decide, by omega⟩)
  | (show (0 : Int) < _; first | decide | omega))
local macro_rules | `(tactic| walk_at "s1") => `(tactic| first
  | with_reducible refine k_seq ?_
  | with_reducible refine k_set ?_
  | with_reducible refine k_asg ?_
  | with_reducible refine k_par ?_
  | with_reducible refine k_par2 ?_
  | with_reducible refine k_drop ?_
  | with_reducible refine k_ret ?_
  | with_reducible refine k_next ?_
  | with_reducible refine k_if ?_
  | ((with_reducible refine' k_aug ?hv ?_); (case hv => exact rfl))
  | with_reducible refine k_ipI ?_
  | with_reducible refine k_gname ?_
  | with_reducible refine k_gsub ?_
  | ((with_reducible refine' k_gtup ?hv ?hw ?_); (case hv => walk_at "st"); (case hw => rfl))
  | with_reducible refine k_gcons ?_
  | with_reducible refine k_gnil ?_
  | with_reducible refine k_test ?_
  | with_reducible refine k_B ?_
  | with_reducible refine k_blE ?_
  | with_reducible refine k_and ?_
  | with_reducible refine k_or ?_
  | with_reducible refine k_not ?_
  | with_reducible refine iteT ?_
  | with_reducible refine iteF ?_
  | with_reducible refine iteNT ?_
  | with_reducible refine iteNF ?_
  | ((with_reducible refine' k_var ?hv ?_); (case hv => exact rfl))
  | with_reducible refine k_c ?_
  | with_reducible refine k_op ?_
  | with_reducible refine k_un ?_
  | with_reducible refine k_U ?_
  | with_reducible refine k_I0 ?_
  | ((with_reducible refine' k_I ?hv ?_); (case hv => walk_at "ic"))
  | with_reducible refine k_eqI ?_
  | with_reducible refine k_neI ?_
  | with_reducible refine k_eqS ?_
  | with_reducible refine k_neS ?_
  | with_reducible refine k_eqB ?_
  | with_reducible refine k_neB ?_
  | with_reducible refine k_for ?_
  | with_reducible refine k_iE ?_
  | with_reducible refine k_iA ?_
  | ((with_reducible refine' k_itl ?hv ?_); (case hv => walk_at "sl"))
  | ((with_reducible refine' k_itt ?hv ?_); (case hv => walk_at "st"))
  | with_reducible refine k_its ?_
  | ((with_reducible refine' k_rg1n ?hv ?_); (case hv => first | decide | omega))
  | ((with_reducible refine' k_rg1 ?hv ?hw ?_); (case hv => first | decide | omega); (case hw => first | decide | omega))
  | ((with_reducible refine' k_inS ?hv ?_); (case hv => walk_at "sa"))
  | ((with_reducible refine' k_inI ?hv ?_); (case hv => walk_at "sa"))
  | ((with_reducible refine' k_ninS ?hv ?_); (case hv => walk_at "sa"))
  | ((with_reducible refine' k_ninI ?hv ?_); (case hv => walk_at "sa"))
  | ((with_reducible refine' k_zipl ?hv ?hw ?_); (case hv => walk_at "sl"); (case hw => walk_at "sl"))
  | with_reducible refine k_nil ?_
  | with_reducible refine k_cons ?_
  | with_reducible refine k_cb ?_
  | with_reducible refine k_call ?_
  | with_reducible refine k_lst ?_
  | with_reducible refine k_tup ?_
  | with_reducible refine k_ifx ?_
  | with_reducible refine k_andv ?_
  | with_reducible refine k_orv ?_
  | with_reducible refine k_notv ?_
  | with_reducible refine k_inti ?_
  | with_reducible refine k_intb ?_
  | with_reducible refine k_sl ?_
  | with_reducible refine k_nopart ?_
  | with_reducible refine k_part ?_
  | with_reducible refine k_parti ?_
  | ((with_reducible refine' k_lenl ?hv ?_); (case hv => walk_at "sl"))
  | ((with_reducible refine' k_lent ?hv ?_); (case hv => walk_at "st"))
  | ((with_reducible refine' k_lens ?hv ?_); (case hv => exact szl (by walk_at "ln")))
  | ((with_reducible refine' k_lena ?hv ?_); (case hv => walk_at "sa"))
  | ((with_reducible refine' k_ixl ?hv ?hn ?_); (case hv => walk_at "sl"); (case hn => first | rfl | assumption))
  | ((with_reducible refine' k_ixt ?hv ?hn ?_); (case hv => walk_at "st"); (case hn => first | rfl | assumption))
  | ((with_reducible refine' k_ixa ?hv ?hn ?_); (case hv => walk_at "sa"); (case hn => first | rfl | assumption))
  | with_reducible refine k_chain ?_
  | ((with_reducible refine' k_isi ?hv ?hw ?_); (case hv => walk_at "ty"); (case hw => walk_at "kb"))
  | ((with_reducible refine' k_isi2 ?hb ?hp ?hv ?hw ?hx ?_); (case hp => walk_at "gt"); (case hv => walk_at "ty"); (case hw => walk_at "kb"); (case hx => walk_at "kb"); (case hb => first | exact or_t | exact or_f))
  | ((with_reducible refine' k_all ?hv ?_); (case hv => walk_at "gt"))
  | ((with_reducible refine' k_any ?hv ?_); (case hv => walk_at "gt"))
  | with_reducible refine k_insign ?_
  | with_reducible refine k_fldR ?_
  | ((with_reducible refine' k_fl ?hv ?_); (case hv => walk_at "fl"))
  | with_reducible refine k_sfld ?_
  | with_reducible refine k_meth ?_
  | ((with_reducible refine' k_mt ?hv ?_); (case hv => walk_at "mt"))
  | with_reducible refine k_make ?_
  | ((with_reducible refine' k_own ?hv ?hw ?_); (case hv => walk_at "is"); (case hw => walk_at "is"))
  | ((with_reducible refine' k_ownin ?hv ?_); (case hv => walk_at "is"))
  | ((with_reducible refine' k_lenO ?hv ?_); (case hv => walk_at "is"))
  | with_reducible refine k_prop ?_
  | ((with_reducible refine' k_pr ?hv ?_); (case hv => walk_at "is"))
  | ((with_reducible refine' k_ownI ?hv ?_); (case hv => walk_at "is"))
  | ((with_reducible refine' k_ownR ?hv ?_); (case hv => walk_at "is"))
  | with_reducible refine k_mx ?_
  | with_reducible refine k_mn ?_
  | with_reducible refine k_lrg ?_
  | with_reducible refine k_rgt ?_
  | with_reducible refine k_rgti ?_
  | with_reducible refine k_bm ?_
  | with_reducible refine k_bm0 ?_
  | with_reducible refine k_tys ?_
  | ((with_reducible refine' k_tyl ?hv ?_); (case hv => walk_at "sl"))
  | ((with_reducible refine' k_ext ?hv ?hw ?hn ?_); (case hv => walk_at "gt"); (case hw => walk_at "gt"); (case hn => walk_at "ln"))
  | ((with_reducible refine' k_app ?hv ?hn ?_); (case hv => walk_at "gt"); (case hn => walk_at "ln"))
  | ((with_reducible refine' k_popat ?hv ?hn ?hw ?_); (case hv => walk_at "gt"); (case hn => with_reducible assumption); (case hw => walk_at "ln"))
  | with_reducible refine k_lc ?_
  | with_reducible refine k_yes0 ?_
  | ((with_reducible show wipe _ _ = wipe _ _ ∧ _); refine ⟨rfl, ?_⟩)
  | ((with_reducible refine' k_adds ?hv ?_); (case hv => walk_at "ln"))
  | ((with_reducible refine' k_st1 ?hv ?_); (case hv => walk_at "gt"))
  | ((with_reducible refine' k_st2 ?hv ?_); (case hv => walk_at "gt"))
  | ((with_reducible refine' k_st3 ?hv ?_); (case hv => walk_at "gt"))
  | ((with_reducible refine' k_setl ?hv ?hn ?_); (case hv => walk_at "gt"); (case hn => rfl)))
local macro_rules | `(tactic| walk_at "put") => `(tactic| ((refine' ⟨_, ?ha, sz ?hb, ?_⟩); (case ha => walk_at "gt"); (case hb => walk_at "ln")))
local macro_rules | `(tactic| walk_at "go") => `(tactic| repeat (walk_at "s1"))
local macro_rules | `(tactic| walk_at "dv") => `(tactic| first | exact rfl | with_reducible assumption)
local macro_rules | `(tactic| walk_at "dt") => `(tactic| first | with_reducible assumption | with_reducible exact .int | with_reducible exact .str | with_reducible exact .bl | with_reducible exact .non | with_reducible exact .lst | with_reducible exact .tup | with_reducible exact .dk | ((with_reducible refine' TyD.ins ?hc); (case hc => with_reducible assumption)))
local macro_rules | `(tactic| walk_at "dm") => `(tactic| first | exact trivial | exact List.mem_cons_self | exact List.mem_cons_of_mem _ List.mem_cons_self | exact List.mem_cons_of_mem _ (List.mem_cons_of_mem _ List.mem_cons_self))
local macro_rules | `(tactic| walk_at "dy") => `(tactic| first | exact Or.inl rfl | exact Or.inr rfl)
local macro_rules | `(tactic| walk_at "xExD") => `(tactic| first
  | ((with_reducible refine' ex_re ?hX ?_); (case hX => assumption))
  | ((with_reducible refine' ex_re2 ?hX ?_); (case hX => assumption))
  | ((with_reducible refine' ex_rz ?hX ?_); (case hX => assumption)))
local macro_rules | `(tactic| walk_at "xOpD") => `(tactic| first
  | ((with_reducible refine' od_ownX ?hX ?_); (case hX => assumption))
  | ((with_reducible refine' od_ownIX ?hX ?_); (case hX => assumption)))
local macro_rules | `(tactic| walk_at "xEvD") => `(tactic| first
  | ((with_reducible refine' ev_callT ?hX ?_); (case hX => assumption))
  | ((with_reducible refine' ev_callX ?hX ?_); (case hX => assumption))
  | ((with_reducible refine' ev_methX ?hX ?_); (case hX => assumption))
  | ((with_reducible refine' ev_makeX ?hX ?_); (case hX => assumption))
  | ((with_reducible refine' ev_kwX ?hX ?_); (case hX => assumption))
  | ((with_reducible refine' ev_mkKwX ?hX ?_); (case hX => assumption)))
local macro_rules | `(tactic| walk_at "gEvD") => `(tactic| first
  | ((with_reducible refine' ev_var ?hv ?_); (case hv => exact rfl))
  | ((with_reducible refine' ev_varO ?hv ?_); (case hv => exact rfl))
  | with_reducible refine ev_ci ?_
  | with_reducible refine ev_cs ?_
  | with_reducible refine ev_cb ?_
  | with_reducible refine ev_cn ?_
  | ((with_reducible refine' ev_kt ?h ?_); (case h => with_reducible assumption))
  | with_reducible refine ev_cr ?_
  | with_reducible refine ev_ct ?_
  | with_reducible refine ev_new (evN_op (r := rCat) ?_)
  | with_reducible refine ev_new (evN_op (r := rRep) ?_)
  | ((with_reducible refine' ev_ixO ?hv ?_); (case hv => exact rfl))
  | with_reducible refine ev_op ?_
  | with_reducible refine ev_un ?_
  | with_reducible refine ev_isi2 ?_
  | with_reducible refine ev_isi4 ?_
  | ((with_reducible refine' ev_new (evN_listO ?hv ?_)); (case hv => exact rfl))
  | with_reducible refine ev_new (evN_cb1 (f := rListOf _) ?_)
  | ((with_reducible refine' ev_lenO ?hv ?_); (case hv => exact rfl))
  | with_reducible refine ev_cb1 ?_
  | with_reducible refine ev_lst ?_
  | with_reducible refine ev_dnew ?_
  | with_reducible refine ev_tup ?_
  | with_reducible refine ev_if ?_
  | with_reducible refine ev_and ?_
  | with_reducible refine ev_or ?_
  | with_reducible refine ev_not ?_
  | with_reducible refine ev_chain ?_
  | ((with_reducible refine' ev_new (evN_lcO ?hv ?_)); (case hv => exact rfl))
  | with_reducible refine ev_new (evN_lc ?_)
  | with_reducible refine ev_new (evN_sl ?_)
  | with_reducible refine ev_slT ?_
  | ((with_reducible refine' ev_fldS (n := 0) ?hv ?hc ?hn ?h1 ?h2 ?_); (case hv => exact rfl); (case hc => with_reducible assumption); (case hn => with_reducible assumption); (case h1 => decide +kernel); (case h2 => exact rfl))
  | ((with_reducible refine' ev_fldS (n := 1) ?hv ?hc ?hn ?h1 ?h2 ?_); (case hv => exact rfl); (case hc => with_reducible assumption); (case hn => with_reducible assumption); (case h1 => decide +kernel); (case h2 => exact rfl))
  | ((with_reducible refine' ev_fldS (n := 2) ?hv ?hc ?hn ?h1 ?h2 ?_); (case hv => exact rfl); (case hc => with_reducible assumption); (case hn => with_reducible assumption); (case h1 => decide +kernel); (case h2 => exact rfl))
  | ((with_reducible refine' ev_fldS (n := 3) ?hv ?hc ?hn ?h1 ?h2 ?_); (case hv => exact rfl); (case hc => with_reducible assumption); (case hn => with_reducible assumption); (case h1 => decide +kernel); (case h2 => exact rfl))
  | with_reducible refine ev_fld ?_
  | with_reducible refine ev_call ?_
  | with_reducible refine ev_kw ?_
  | with_reducible refine ev_mkKw ?_
  | with_reducible refine ev_meth ?_
  | with_reducible refine ev_prop ?_
  | with_reducible refine ev_make ?_)
local macro_rules | `(tactic| walk_at "gOpD") => `(tactic| first
  | with_reducible refine od_int ?_
  | with_reducible refine od_bl ?_
  | ((with_reducible refine' od_I ?hv ?_); (case hv => walk_at "ic"))
  | with_reducible refine od_ip ?_
  | with_reducible refine od_eqI ?_
  | with_reducible refine od_neI ?_
  | with_reducible refine od_eqS ?_
  | with_reducible refine od_neS ?_
  | with_reducible refine od_eqB ?_
  | with_reducible refine od_neB ?_
  | with_reducible refine od_isbl ?_
  | ((with_reducible refine' od_ixl ?hv ?_); (case hv => walk_at "dv"))
  | ((with_reducible refine' od_ixt ?hv ?_); (case hv => walk_at "dv"))
  | ((with_reducible refine' od_ixL ?hv ?_); (case hv => walk_at "dv"))
  | ((with_reducible refine' od_ixT ?hv ?_); (case hv => walk_at "dv"))
  | ((with_reducible refine' od_inN ?hv ?_); (case hv => walk_at "dy"))
  | ((with_reducible refine' od_inI ?hv ?_); (case hv => walk_at "dy"))
  | ((with_reducible refine' od_inS ?hv ?_); (case hv => walk_at "dy"))
  | with_reducible refine od_sign ?_
  | ((with_reducible refine' od_adds ?hv ?_); (case hv => walk_at "ln"))
  | with_reducible refine od_own ?_
  | with_reducible refine od_ownI ?_
  | with_reducible refine od_ownR ?_
  | with_reducible refine od_ownin ?_)
local macro_rules | `(tactic| walk_at "gExD") => `(tactic| first
  | with_reducible refine ex_seq ?_
  | ((with_reducible refine' ex_new (te := tLst tNil) ?hi ?_); (case hi => exact Nat.le_of_ble_eq_true rfl))
  | ((with_reducible refine' ex_newO ?hi ?_); (case hi => exact Nat.le_of_ble_eq_true rfl))
  | with_reducible refine ex_set ?_
  | with_reducible refine ex_asg ?_
  | ((with_reducible refine' ex_par ?hi ?_); (case hi => decide))
  | with_reducible refine ex_par3 ?_
  | ((with_reducible refine' ex_retO ?hv ?_); (case hv => exact rfl))
  | with_reducible refine ex_ret ?_
  | with_reducible refine ex_retN ?_
  | with_reducible refine ex_next ?_
  | with_reducible refine ex_break ?_
  | with_reducible refine ex_cont ?_
  | with_reducible refine ex_ifB ?_
  | ((with_reducible refine' ex_aug ?hv ?_); (case hv => exact rfl))
  | ((with_reducible refine' ex_app ?hv ?hl ?_); (case hv => exact rfl); (case hl => walk_at "ln"))
  | ((with_reducible refine' ex_insO ?hv ?hl ?_); (case hv => exact rfl); (case hl => walk_at "ln"))
  | ((with_reducible refine' ex_fld ?hv ?hc ?hn ?hl ?_); (case hv => exact rfl); (case hc => with_reducible assumption); (case hn => with_reducible assumption); (case hl => exact Nat.le_of_ble_eq_true rfl))
  | ((with_reducible refine' ex_extO ?hv ?_); (case hv => exact rfl))
  | ((with_reducible refine' ex_clrO ?hv ?_); (case hv => exact rfl))
  | with_reducible refine ex_drop ?_
  | with_reducible refine ex_for ?_)
local macro_rules | `(tactic| walk_at "gEvT") => `(tactic| first
  | with_reducible refine et_test ?_
  | with_reducible refine et_B ?_
  | with_reducible refine et_and ?_
  | with_reducible refine et_or ?_
  | with_reducible refine et_not ?_
  | with_reducible refine et_yes ?_)
local macro_rules | `(tactic| walk_at "gite") => `(tactic| first
  | with_reducible refine iteT ?_
  | with_reducible refine iteF ?_
  | with_reducible refine iteNT ?_
  | with_reducible refine iteNF ?_)
local macro_rules | `(tactic| walk_at "gUnD") => `(tactic| first
  | with_reducible refine ud_U ?_
  | ((with_reducible refine' fW_name ?hT ?_); (case hT => assumption))
  | ((with_reducible refine' fW_rows ?hT ?_); (case hT => assumption))
  | ((with_reducible refine' fE_work ?hT ?_); (case hT => assumption))
  | ((with_reducible refine' fE_nums ?hT ?_); (case hT => assumption))
  | ((with_reducible refine' fP_edition ?hT ?_); (case hT => assumption))
  | ((with_reducible refine' fP_count ?hT ?_); (case hT => assumption))
  | ((with_reducible refine' fK_work ?hT ?_); (case hT => assumption))
  | ((with_reducible refine' fK_rows ?hT ?_); (case hT => assumption))
  | ((with_reducible refine' fK_told ?hT ?_); (case hT => assumption))
  | ((with_reducible refine' fS_rule ?hT ?_); (case hT => assumption))
  | ((with_reducible refine' fS_tables ?hT ?_); (case hT => assumption))
  | ((with_reducible refine' fS_spots ?hT ?_); (case hT => assumption))
  | ((with_reducible refine' fS_held ?hT ?_); (case hT => assumption))
  | ((with_reducible refine' fS_stamps ?hT ?_); (case hT => assumption))
  | ((with_reducible refine' fS_row ?hT ?_); (case hT => assumption))
  | ((with_reducible refine' fS_top ?hT ?_); (case hT => assumption))
  | ((with_reducible refine' fS_come ?hT ?_); (case hT => assumption))
  | ((with_reducible refine' fR_parts ?hT ?_); (case hT => assumption))
  | ((with_reducible refine' fR_way ?hT ?_); (case hT => assumption)))
local macro_rules | `(tactic| walk_at "gCbD") => `(tactic| first
  | ((with_reducible refine' cd_isi ?ht ?hk ?_); (case ht => walk_at "dt"); (case hk => walk_at "kb"))
  | ((with_reducible refine' cd_isiO ?ht ?hk ?_); (case ht => walk_at "dt"); (case hk => first | with_reducible assumption | exact kit_same))
  | ((with_reducible refine' cd_lens ?hv ?_); (case hv => walk_at "ln"))
  | with_reducible refine cd_len ?_
  | with_reducible refine cd_all ?_
  | with_reducible refine cd_any ?_
  | with_reducible refine cd_int ?_
  | with_reducible refine cd_intb ?_
  | with_reducible refine cd_mx ?_
  | with_reducible refine cd_mn ?_
  | with_reducible refine cd_tuple ?_
  | with_reducible refine cd_lenO ?_)
local macro_rules | `(tactic| walk_at "gEvI") => `(tactic| first
  | with_reducible refine ei_seq ?_
  | with_reducible refine ei_str ?_
  | with_reducible refine ei_rg1 ?_
  | with_reducible refine ei_rg2 ?_
  | with_reducible refine ei_enum ?_
  | with_reducible refine ei_zip ?_
  | with_reducible refine ei_zipA ?_
  | with_reducible refine ei_zipB ?_
  | with_reducible refine ei_zipB3 ?_)
local macro_rules | `(tactic| walk_at "gEvN") => `(tactic| first
  | ((with_reducible refine' evN_listO ?hv ?_); (case hv => exact rfl))
  | ((with_reducible refine' evN_lcO ?hv ?_); (case hv => exact rfl))
  | with_reducible refine evN_lc ?_
  | with_reducible refine evN_sl ?_
  | with_reducible refine evN_op ?_
  | with_reducible refine evN_cb1 ?_
  | with_reducible refine evN_lst ?_)
local macro_rules | `(tactic| walk_at "d1") => `(tactic| first
  | ((with_reducible show EvD _ _ _ _ _); walk_at "gEvD")
  | ((with_reducible show OpD _ _ _ _ _ _); walk_at "gOpD")
  | with_reducible refine ev_nil ?_
  | with_reducible refine ev_cons ?_
  | ((with_reducible show ExD _ _ _ _ _); walk_at "gExD")
  | ((with_reducible show EvT _ _ _ _ _); walk_at "gEvT")
  | with_reducible refine isB_mk ?_
  | walk_at "gite"
  | ((with_reducible show UnD _ _ _ _ _); walk_at "gUnD")
  | ((with_reducible show CbD _ _ _ _ _); walk_at "gCbD")
  | ((with_reducible refine' tg_name ?hi ?_); (case hi => walk_at "dm"))
  | ((with_reducible refine' tg_tup ?hi ?_); (case hi => exact rfl))
  | ((with_reducible refine' tg_unl ?hi ?_); (case hi => exact rfl))
  | with_reducible refine tg_cons ?_
  | with_reducible refine tg_nil ?_
  | ((with_reducible show EvI _ _ _ _ _); walk_at "gEvI")
  | ((with_reducible refine' few_mk ?hl ?_); (case hl => exact Nat.le_of_ble_eq_true rfl))
  | ((with_reducible show EvN _ _ _ _ _); walk_at "gEvN")
  | ((with_reducible refine' on_cat ?hv ?_); (case hv => walk_at "ln"))
  | ((with_reducible refine' on_rep ?hv ?hw ?_); (case hv => walk_at "ln"); (case hw => walk_at "ln"))
  | with_reducible refine cn_list ?_
  | with_reducible refine eo_no ?_
  | with_reducible refine eo_part ?_
  | with_reducible refine seq_l ?_
  | with_reducible refine seq_t ?_
  | with_reducible refine ⟨insD_mk (by decide +kernel), ?_⟩)
local macro_rules | `(tactic| walk_at "dx") => `(tactic| first
  | ((with_reducible show EvD _ _ _ _ _); walk_at "xEvD")
  | ((with_reducible show OpD _ _ _ _ _ _); walk_at "xOpD")
  | ((with_reducible show ExD _ _ _ _ _); walk_at "xExD"))
local macro_rules | `(tactic| walk_at "dX") => `(tactic| repeat (first | walk_at "d1" | walk_at "dx"))
local macro_rules | `(tactic| walk_at "dg") => `(tactic| repeat (walk_at "d1"))
section
set_option maxRecDepth 100000
set_option maxHeartbeats 2000000

abbrev sis_word : Stmt := top 7
theorem scis_word : FnScope ["thing", "letter"] ["thing"] (defScope sis_word) := ⟨rfl, rfl, rfl, by decide +kernel, rfl, by decide +kernel, by decide +kernel⟩
abbrev sis_row : Stmt := top 8
theorem scis_row : FnScope ["thing"] ["thing"] (defScope sis_row) := ⟨rfl, rfl, rfl, by decide +kernel, rfl, by decide +kernel, by decide +kernel⟩
def letters : Str := "abcdefghijklmnopqrstuvwxyz"
/-- a word -/
def isW (z : Str) : Bool := decide (1 ≤ z.length) && (decide (z.length ≤ 8) && z.cps.toList.all fun c => decide (c ∈ letters.cps.toList))
theorem isW_len {z : Str} (h : isW z = true) : z.length < 100000 := by
  unfold isW at h
  rw [Bool.and_eq_true, Bool.and_eq_true] at h
  have := of_decide_eq_true h.2.1
  omega
theorem take_succ {α : Type} {l : List α} {i : Nat} {x : α} (h : l[i]? = some x) : l.take (i + 1) = l.take i ++ [x] := by rw [List.take_add_one, h]; rfl
section
variable {P : Program} {w : World} {K : PySem.W.Frag} {mg : Str → Option Value} {base : Heap}
theorem okD_one (B : Bn mg) (C_law_take : Cal P w K mg base 2 "_law_take" ["_law_state", "_law_many"] (spD K fTake)) (Df : Def K mg "_law_one" s_law_one) : Cal P w K mg base 3 "_law_one" ["_law_state", "_law_things"] (spD K fOne) := by
  refine Cal.ofD Df sc_law_one (fun _ _ _ _ _ _ us hl => match us, hl with | [_, _], _ => rfl) (fun ds Φ h => ?_) (fun fa cdv A outer s H hr => ⟨_, (pss_one (ps_ret (pe_ix (x_seq K) (pv 1) (pe_fn C_law_take hr (by decide) (pa_cons (pv 0) (pa_cons (pe_callB (n_len K) (by rfl) B.len PySem.boot_len (pa_cons (pv 1) pa_nil)) pa_nil))) (fun _ _ => rfl)))), fun S ds Φ h => ?_⟩)
  · obtain ⟨_, _, rfl, _⟩ := h; rfl
  · obtain ⟨x, xs, rfl, hx, h0, h1, k⟩ := h
    walk_at "dg"
    refine ⟨xs, hx, ?_⟩
    walk_at "dg"
    refine ⟨_, rfl, by omega, by omega, fun d hd => ?_⟩
    have hd' : d < xs.length := by omega
    have e : atI xs (d : Int) = some xs[d] := atI_nat (List.getElem?_eq_getElem hd')
    rcases hx with rfl | rfl
    · exact od_ixL e (k _ (List.getElem_mem hd'))
    · exact od_ixT e (k _ (List.getElem_mem hd'))
/-- the constants of the words -/
structure Cw (mg : Str → Option Value) : Prop where
  letters : ∃ t, mg "LETTERS" = some (.str letters t)
  longest : ∃ t, mg "LONGEST" = some (.int 8 t)
def fIsInt (K : PySem.W.Frag) : FD := fun ds Φ => ∃ x t b1 b2, ds = [x] ∧ TyD K x t ∧ PySem.W.kitOne K t (.type "int") = some b1 ∧ PySem.W.kitOne K t (.type "bool") = some b2 ∧ Φ (.bl (b1 && !b2))
theorem fIsInt.int {Φ : D → Prop} {n : Int} (k : Φ (.bl true)) : fIsInt K [.int n] Φ := ⟨_, _, true, false, rfl, .int, kb_int_int, kb_int_bool, k⟩
def fIsRow (K : PySem.W.Frag) : FD := fun ds Φ => ∃ x, ds = [x] ∧ is2 K "list" "tuple" x fun b => Φ (.bl b)
theorem fIsRow.lst {Φ : D → Prop} {xs : List D} (k : Φ (.bl true)) : fIsRow K [.lst xs] Φ := ⟨_, rfl, _, true, false, .lst, kb_list_list, kb_list_tuple, k⟩
theorem fIsRow.tup {Φ : D → Prop} {xs : List D} (k : Φ (.bl true)) : fIsRow K [.tup xs] Φ := ⟨_, rfl, _, false, true, .tup, kb_tuple_list, kb_tuple_tuple, k⟩
theorem fIsRow.seq {Φ : D → Prop} {x : D} {xs : List D} (h : x = .lst xs ∨ x = .tup xs) (k : Φ (.bl true)) : fIsRow K [x] Φ := by
  rcases h with rfl | rfl
  · exact .lst k
  · exact .tup k
theorem okD_is_row (B : Bn mg) (Df : Def K mg "is_row" sis_row) : Cal P w K mg base 1 "is_row" ["thing"] (spD K (fIsRow K)) := by
  refine Cal.ofD Df scis_row (fun _ _ _ _ _ _ us hl => match us, hl with | [_], _ => rfl) (fun ds Φ h => ?_) (fun fa cdv A outer s H hr => ⟨_, (pss_one (ps_ret (pe_callB (n_isiT K) (by rfl) B.isinstance (by decide +kernel) (pa_cons (pv 0) (pa_cons (pe_tup (pa_cons (pe_bltn (v := .ty "list") (by rfl) B.list (by decide +kernel) rfl) (pa_cons (pe_bltn (v := .ty "tuple") (by rfl) B.tuple (by decide +kernel) rfl) pa_nil))) pa_nil))))), fun S ds Φ h => ?_⟩)
  · obtain ⟨_, rfl, _⟩ := h; rfl
  · obtain ⟨x, rfl, h⟩ := h
    walk_at "dg"
    exact h
def fIsWord (K : PySem.W.Frag) : FD := fun ds Φ => ∃ x, ds = [x] ∧ ((∃ z, x = .str z ∧ z.length < 100000 ∧ Φ (.bl (isW z))) ∨ ∃ t, TyD K x t ∧ PySem.W.kitOne K t (.type "str") = some false ∧ Φ (.bl false))
theorem fIsWord.ok {Φ : D → Prop} {z : Str} (h : isW z = true) (k : Φ (.bl true)) : fIsWord K [.str z] Φ := ⟨_, rfl, .inl ⟨z, rfl, isW_len h, by rw [h]; exact k⟩⟩
theorem okD_is_word (B : Bn mg) (W : Cw mg) (Df : Def K mg "is_word" sis_word) : Cal P w K mg base 1 "is_word" ["thing"] (spD K (fIsWord K)) := by
  obtain ⟨⟨tL, cL⟩, ⟨tM, cM⟩⟩ := W
  refine Cal.ofD Df scis_word (fun _ _ _ _ _ _ us hl => match us, hl with | [_], _ => rfl) (fun ds Φ h => ?_) (fun fa cdv A outer s H hr => ⟨_, (pss_cons (ps_if (PW.pt (pw_or (pt_not (pt_val (pe_callB (n_isi K) (by rfl) B.isinstance (by decide +kernel) (pa_cons (pv 0) (pa_cons (pe_bltn (v := .ty "str") (by rfl) B.str (by decide +kernel) rfl) pa_nil))))) (pw_or1 (pt_not (pt_chain op_le op_le pe_int (pe_callB (n_len K) (by rfl) B.len PySem.boot_len (pa_cons (pv 0) pa_nil)) (pe_glob (v := .int 8) rfl cM ⟨_, rfl⟩)))))) (pss_one (ps_ret pe_bl)) pss_nil)
      (pss_one (ps_ret (pe_callB (n_all K rfl) (by rfl) B.all (by decide +kernel) (pa_cons (pe_lc (own := [("letter", 1)]) (g := (gName 1)) rfl scis_word.nd (p_str (pv 0)) (blkOk_by (own := [("letter", 1)]) (N := ["thing", "letter"]) (sc := defScope sis_word) (by decide +kernel)) (fun _ _ _ _ _ => (pg_name (i := 1) scis_word.nd rfl (Or.inl rfl) (.inr rfl))) (fun _ _ _ _ _ => pts_nil) (fun _ _ _ _ _ => (pe_cmpR o_insign (pv 1) (pe_glob (v := .str letters) rfl cL ⟨_, rfl⟩) rfl))) pa_nil))))), fun S ds Φ h => ?_⟩)
  · obtain ⟨_, rfl, _⟩ := h; rfl
  · obtain ⟨x, rfl, ⟨z, rfl, hz, k⟩ | ⟨t, ht, hk, k⟩⟩ := h
    · walk_at "dg"
      refine k_dec (fun h1 => ?_) (fun h1 => ?_)
      · walk_at "dg"
        refine k_ndec (fun h2 => ?_) (fun h2 => ?_)
        · walk_at "dg"
          refine ⟨z, rfl, lc_m z.cps.toList (fun c => .str ⟨#[c]⟩) (fun c => .bl (decide (c ∈ letters.cps.toList))) rfl ?_ (fun c hc => ?_) ?_⟩
          · have e : z.cps.toList.length = z.length := by simp [Str.length]
            omega
          · walk_at "dg"
            rfl
          · rw [show z.cps.toList.map (fun c => D.bl (decide (c ∈ letters.cps.toList))) = dB (z.cps.toList.map fun c => decide (c ∈ letters.cps.toList)) from (List.map_map).symm]
            walk_at "dg"
            have e2 : isW z = ((z.cps.toList.map fun c => decide (c ∈ letters.cps.toList)).all id) := by
              unfold isW
              rw [decide_eq_true (show 1 ≤ z.length by omega), decide_eq_true (show z.length ≤ 8 by omega), Bool.true_and, Bool.true_and, List.all_map]
              rfl
            rw [← e2]
            exact k
        · walk_at "dg"
          have e2 : isW z = false := by
            unfold isW
            rw [decide_eq_false (show ¬ z.length ≤ 8 by omega), Bool.false_and, Bool.and_false]
          rw [e2] at k
          exact k
      · walk_at "dg"
        have e2 : isW z = false := by
          unfold isW
          rw [decide_eq_false (show ¬ 1 ≤ z.length by omega), Bool.false_and]
        rw [e2] at k
        exact k
    · walk_at "dg"
      exact k
end
end
/-! Things that are no integers from 0 to a greatest one. -/
section
set_option maxRecDepth 100000
set_option maxHeartbeats 2000000
section
variable {K : PySem.W.Frag}
end
end
/-! The law's own look whether two things are the same. -/
section
set_option maxRecDepth 100000
set_option maxHeartbeats 2000000

abbrev s_law_same : Stmt := top 24
theorem sc_law_same : FnScope ["_law_found", "_law_due", "_law_a", "_law_b"] ["_law_found", "_law_due"] (defScope s_law_same) := ⟨rfl, rfl, rfl, by decide +kernel, rfl, by decide +kernel, by decide +kernel⟩
/-- a flat thing, or a row of things of a kind -/
def smB (okp : D → Bool) : D → Bool
  | .int _ => true | .bl _ => true | .str _ => true | .non => true | .dk _ ds => ds.all D.isS
  | .lst ds => ds.all okp && decide (ds.length < 100000)
  | .tup ds => ds.all okp && decide (ds.length < 100000)
  | _ => false
def okD : Nat → D → Bool
  | 0 => smB fun _ => false
  | n + 1 => smB (okD n)
def fSm (okp : D → Bool) : FD := fun ds Φ => ∃ x, ds = [x, x] ∧ smB okp x = true ∧ Φ (.bl true)
theorem fSm.mk {okp : D → Bool} {x y : D} {Φ : D → Prop} (e : x = y) (h : smB okp y = true) (k : Φ (.bl true)) : fSm okp [x, y] Φ := ⟨y, by rw [e], h, k⟩
theorem zip_same {α : Type} : ∀ {l : List α} {p : α × α}, p ∈ l.zip l → p.1 = p.2
  | [], _, h => by cases h
  | x :: l, p, h => by
    rw [List.zip_cons_cons] at h
    rcases List.mem_cons.mp h with e | e
    · rw [e]
    · exact zip_same e
theorem all_true {α : Type} (l : List α) : l.map (fun _ => D.bl true) = dB (l.map fun _ => true) := by unfold dB; rw [List.map_map]; rfl
theorem all_rep {α : Type} (l : List α) : (l.map fun _ => true).all id = true := by rw [List.all_map]; exact List.all_eq_true.mpr fun _ _ => rfl
section
variable {P : Program} {w : World} {K : PySem.W.Frag} {mg : Str → Option Value} {base : Heap}
theorem is2.mk {n m : String} {x : D} {Χ : Bool → Prop} {t : Value} {b1 b2 : Bool} (c : Bool) (h1 : TyD K x t) (h2 : PySem.W.kitOne K t (.type n) = some b1) (h3 : PySem.W.kitOne K t (.type m) = some b2) (e : (b1 || b2) = c) (k : Χ c) : is2 K n m x Χ := ⟨t, b1, b2, h1, h2, h3, e ▸ k⟩
theorem is4.mk {n m n' m' : String} {x : D} {Χ : Bool → Prop} {t : Value} {b1 b2 b3 b4 : Bool} (c : Bool) (h1 : TyD K x t) (h2 : PySem.W.kitOne K t (.type n) = some b1) (h3 : PySem.W.kitOne K t (.type m) = some b2) (h4 : PySem.W.kitOne K t (.type n') = some b3) (h5 : PySem.W.kitOne K t (.type m') = some b4) (e : (b1 || (b2 || (b3 || b4))) = c) (k : Χ c) : is4 K n m n' m' x Χ := ⟨t, b1, b2, b3, b4, h1, h2, h3, h4, h5, e ▸ k⟩
theorem od_eqNon {S : Sx} {Φ : D → Prop} (k : Φ (.bl true)) : OpD K S rEq .non .non Φ := fun u w F H s dr h1 h2 Q q => by
  cases h1; cases h2
  exact ⟨rfl, q _ _ F H k rfl (Ag.refl s dr)⟩
theorem same_step (B : Bn mg) {k : Nat} {g : FD} {okp : D → Bool} (C_law_same : Cal P w K mg base k "_law_same" ["_law_found", "_law_due"] (spD K g)) (hg : ∀ x Φ, okp x = true → Φ (.bl true) → g [x, x] Φ) (Df : Def K mg "_law_same" s_law_same) :
    Cal P w K mg base (k + 1) "_law_same" ["_law_found", "_law_due"] (spD K (fSm okp)) := by
  refine Cal.ofD Df sc_law_same (fun _ _ _ _ _ _ us hl => match us, hl with | [_, _], _ => rfl) (fun ds Φ h => ?_) (fun fa cdv A outer s H hr => ⟨_, (pss_cons (ps_if (pt_val (pe_callB (n_isiT K) (by rfl) B.isinstance (by decide +kernel) (pa_cons (pv 1) (pa_cons (pe_tup (pa_cons (pe_bltn (v := .ty "list") (by rfl) B.list (by decide +kernel) rfl) (pa_cons (pe_bltn (v := .ty "tuple") (by rfl) B.tuple (by decide +kernel) rfl) pa_nil))) pa_nil)))) (pss_cons (ps_if (PW.pt (pw_or (pt_cmpR op_ne (pe_callB (n_isi K) (by rfl) B.isinstance (by decide +kernel) (pa_cons (pv 0) (pa_cons (pe_bltn (v := .ty "list") (by rfl) B.list (by decide +kernel) rfl) pa_nil))) (pe_callB (n_isi K) (by rfl) B.isinstance (by decide +kernel) (pa_cons (pv 1) (pa_cons (pe_bltn (v := .ty "list") (by rfl) B.list (by decide +kernel) rfl) pa_nil))) (nomark _)) (pw_or1 (pt_cmpR op_ne (pe_callB (n_isi K) (by rfl) B.isinstance (by decide +kernel) (pa_cons (pv 0) (pa_cons (pe_bltn (v := .ty "tuple") (by rfl) B.tuple (by decide +kernel) rfl) pa_nil))) (pe_callB (n_isi K) (by rfl) B.isinstance (by decide +kernel) (pa_cons (pv 1) (pa_cons (pe_bltn (v := .ty "tuple") (by rfl) B.tuple (by decide +kernel) rfl) pa_nil))) (nomark _))))) (pss_one (ps_ret pe_bl)) pss_nil)
      (pss_one (ps_ret (pe_and (pe_cmpR op_eq (pe_callB (n_len K) (by rfl) B.len PySem.boot_len (pa_cons (pv 0) pa_nil)) (pe_callB (n_len K) (by rfl) B.len PySem.boot_len (pa_cons (pv 1) pa_nil)) (nomark _)) (pe_one (pe_callB (n_all K rfl) (by rfl) B.all (by decide +kernel) (pa_cons (pe_lc (own := [("_law_a", 2), ("_law_b", 3)]) (g := (gTup K 2 (gCons (gName 2) (gCons (gName 3) gNil)))) rfl sc_law_same.nd (q_zipA K B.zip (pa_cons (pv 0) (pa_cons (pv 1) pa_nil))) (blkOk_by (own := [("_law_a", 2), ("_law_b", 3)]) (N := ["_law_found", "_law_due", "_law_a", "_law_b"]) (sc := defScope s_law_same) (by decide +kernel)) (fun _ _ _ _ _ => (pg_tup rfl (pgs_cons (pg_name (i := 2) sc_law_same.nd rfl (Or.inl rfl) (.inr rfl)) (pgs_cons (pg_name (i := 3) sc_law_same.nd rfl (Or.inl rfl) (.inr rfl)) pgs_nil)))) (fun _ _ _ _ _ => pts_nil) (fun _ _ _ _ _ => (pe_fn C_law_same hr (Nat.le_refl _) (pa_cons (pv 2) (pa_cons (pv 3) pa_nil))))) pa_nil))))))) pss_nil)
      (pss_cons (ps_if (pt_val (pe_callB (n_isi K) (by rfl) B.isinstance (by decide +kernel) (pa_cons (pv 1) (pa_cons (pe_bltn (v := .ty "int") (by rfl) B.int (by decide +kernel) rfl) pa_nil)))) (pss_one (ps_ret (pe_and (pe_callB (n_isi K) (by rfl) B.isinstance (by decide +kernel) (pa_cons (pv 0) (pa_cons (pe_bltn (v := .ty "int") (by rfl) B.int (by decide +kernel) rfl) pa_nil))) (pe_and (pe_cmpR op_eq (pe_callB (n_isi K) (by rfl) B.isinstance (by decide +kernel) (pa_cons (pv 0) (pa_cons (pe_bltn (v := .ty "bool") (by rfl) B.bool (by decide +kernel) rfl) pa_nil))) (pe_callB (n_isi K) (by rfl) B.isinstance (by decide +kernel) (pa_cons (pv 1) (pa_cons (pe_bltn (v := .ty "bool") (by rfl) B.bool (by decide +kernel) rfl) pa_nil))) (nomark _)) (pe_one (pe_cmpR (o_or op_eq (o_eqE hr)) (pv 0) (pv 1) (nomark _))))))) pss_nil)
      (pss_one (ps_ret (pe_and (pe_cmpR o_isbl (pe_callB (n_isiT K) (by rfl) B.isinstance (by decide +kernel) (pa_cons (pv 0) (pa_cons (pe_tup (pa_cons (pe_bltn (v := .ty "bool") (by rfl) B.bool (by decide +kernel) rfl) (pa_cons (pe_bltn (v := .ty "int") (by rfl) B.int (by decide +kernel) rfl) (pa_cons (pe_bltn (v := .ty "list") (by rfl) B.list (by decide +kernel) rfl) (pa_cons (pe_bltn (v := .ty "tuple") (by rfl) B.tuple (by decide +kernel) rfl) pa_nil))))) pa_nil))) pe_bl (nomark _)) (pe_one (pe_cmpR (o_or op_eq (o_eqE hr)) (pv 0) (pv 1) (nomark _)))))))), fun S ds Φ h => ?_⟩)
  · obtain ⟨_, rfl, _⟩ := h; rfl
  · obtain ⟨x, rfl, hx, kk⟩ := h
    have row : ∀ ds : List D, (ds.all okp && decide (ds.length < 100000)) = true → (∀ z ∈ ds, okp z = true) ∧ ds.length < 100000 := fun ds h => by
      rw [Bool.and_eq_true] at h
      exact ⟨fun z hz => List.all_eq_true.mp h.1 z hz, of_decide_eq_true h.2⟩
    cases x with
    | int n =>
      walk_at "dg"
      refine is2.mk false .int kb_int_list kb_int_tuple rfl ?_
      walk_at "dg"
      rw [beq_self_eq_true]
      walk_at "dg"
      refine od_orL ?_
      walk_at "dg"
      rw [decide_eq_true rfl]
      exact kk
    | bl b =>
      walk_at "dg"
      refine is2.mk false .bl kb_bool_list kb_bool_tuple rfl ?_
      walk_at "dg"
      rw [beq_self_eq_true]
      walk_at "dg"
      refine od_orL ?_
      walk_at "dg"
      rw [beq_self_eq_true]
      exact kk
    | str z =>
      walk_at "dg"
      refine is2.mk false .str kb_str_list kb_str_tuple rfl ?_
      walk_at "dg"
      refine is4.mk false .str kb_str_bool kb_str_int kb_str_list kb_str_tuple rfl ?_
      walk_at "dg"
      rw [decide_eq_true rfl]
      walk_at "dg"
      refine od_orL ?_
      walk_at "dg"
      rw [decide_eq_true rfl]
      exact kk
    | dk ks vs =>
      walk_at "dg"
      refine is2.mk false .dk kb_dict_list kb_dict_tuple rfl ?_
      walk_at "dg"
      refine is4.mk false .dk kb_dict_bool kb_dict_int kb_dict_list kb_dict_tuple rfl ?_
      walk_at "dg"
      rw [decide_eq_true rfl]
      walk_at "dg"
      exact od_orR (od_eqE hx kk)
    | non =>
      walk_at "dg"
      refine is2.mk false .non kb_NoneType_list kb_NoneType_tuple rfl ?_
      walk_at "dg"
      refine is4.mk false .non kb_NoneType_bool kb_NoneType_int kb_NoneType_list kb_NoneType_tuple rfl ?_
      walk_at "dg"
      rw [decide_eq_true rfl]
      walk_at "dg"
      exact od_orL (od_eqNon kk)
    | lst ds =>
      obtain ⟨h1, h2⟩ := row ds hx
      walk_at "dg"
      refine is2.mk true .lst kb_list_list kb_list_tuple rfl ?_
      walk_at "dg"
      rw [if_neg (show ¬ (!(true == true)) = true by decide)]
      try walk_at "dg"
      rw [if_neg (show ¬ (!(false == false)) = true by decide)]
      walk_at "dg"
      rw [decide_eq_true rfl]
      walk_at "dg"
      refine ⟨ds, ds, .inl rfl, lc_m (ds.zip ds) (fun p => .tup [p.1, p.2]) (fun _ => .bl true) rfl (by rw [List.length_zip]; omega) (fun p hp => ?_) ?_⟩
      · have e := zip_same hp
        obtain ⟨p1, p2⟩ := p
        cases e
        walk_at "dg"
        exact hg p1 _ (h1 _ (List.of_mem_zip hp).1) rfl
      · walk_at "dg"
        rw [all_true]
        refine cd_all ?_
        rw [all_rep]
        exact kk
    | tup ds =>
      obtain ⟨h1, h2⟩ := row ds hx
      walk_at "dg"
      refine is2.mk true .tup kb_tuple_list kb_tuple_tuple rfl ?_
      walk_at "dg"
      rw [if_neg (show ¬ (!(false == false)) = true by decide)]
      try walk_at "dg"
      rw [if_neg (show ¬ (!(true == true)) = true by decide)]
      walk_at "dg"
      rw [decide_eq_true rfl]
      walk_at "dg"
      refine ⟨ds, ds, .inr rfl, lc_m (ds.zip ds) (fun p => .tup [p.1, p.2]) (fun _ => .bl true) rfl (by rw [List.length_zip]; omega) (fun p hp => ?_) ?_⟩
      · have e := zip_same hp
        obtain ⟨p1, p2⟩ := p
        cases e
        walk_at "dg"
        exact hg p1 _ (h1 _ (List.of_mem_zip hp).1) rfl
      · walk_at "dg"
        rw [all_true]
        refine cd_all ?_
        rw [all_rep]
        exact kk
    | _ => cases hx
/-- five levels deep -/
theorem okD_same (B : Bn mg) (Df : Def K mg "_law_same" s_law_same) : Cal P w K mg base 5 "_law_same" ["_law_found", "_law_due"] (spD K (fSm (okD 3))) := by
  have c0 := Cal.none (P := P) (w := w) (base := base) (ps := ["_law_found", "_law_due"]) Df (fun _ _ _ _ _ _ us hl => match us, hl with | [_, _], _ => rfl)
  have c1 := same_step (okp := fun _ => false) B c0 (fun _ _ h => by cases h) Df
  have c2 := same_step (okp := okD 0) B c1 (fun x Φ h k => ⟨x, rfl, h, k⟩) Df
  have c3 := same_step (okp := okD 1) B c2 (fun x Φ h k => ⟨x, rfl, h, k⟩) Df
  have c4 := same_step (okp := okD 2) B c3 (fun x Φ h k => ⟨x, rfl, h, k⟩) Df
  exact same_step (okp := okD 3) B c4 (fun x Φ h k => ⟨x, rfl, h, k⟩) Df
end
end
/-! Works and editions at the level of data. -/
section
set_option maxRecDepth 100000
set_option maxHeartbeats 2000000
/-- passages that a work can have -/
structure Good (ws : List Str) : Prop where
  ne : ws ≠ []
  nd : ws.Nodup
  wd : ∀ x ∈ ws, isW x = true
  le : ws.length ≤ 100
theorem isW_ok {z : Str} (h : isW z = true) : PyData.strOk z = true := by
  unfold isW at h
  rw [Bool.and_eq_true, Bool.and_eq_true] at h
  have h2 := List.all_eq_true.mp h.2.2
  unfold PyData.strOk
  rw [Array.all_eq_true']
  intro c hc
  have h3 := of_decide_eq_true (h2 c (Array.mem_toList_iff.mpr hc))
  have h4 : ∀ d ∈ letters.cps.toList, d < 1114112 := by decide +kernel
  exact decide_eq_true (h4 c h3)
theorem Good.ok {ws : List Str} (G : Good ws) : okS ws := fun x hx => isW_ok (G.wd x hx)
theorem pys_dS (ws : List Str) : D.pys (dS ws) = ws.map PyData.str := by
  induction ws with
  | nil => rfl
  | cons x l ih => show D.py (.str x) :: D.pys (dS l) = _; rw [ih]; rfl
theorem plains_dS (ws : List Str) : D.plains (dS ws) = true := by
  induction ws with
  | nil => rfl
  | cons x l ih => exact ih
theorem shape_tS {ws : List Str} (h : okS ws) : SeqAt.shaped (D.py (.tup (dS ws))) = true := by
  show SeqAt.shaped (.tuple (D.pys (dS ws))) = true
  rw [pys_dS]; exact shaped_t (lay_strs h) (by rw [dep_strs]; decide)
section
variable {K : PySem.W.Frag} {S : Sx} {Φ : D → Prop}
theorem od_eqTS {ws us : List Str} (o1 : okS ws) (o2 : okS us) (k : Φ (.bl (decide (ws = us)))) : OpD K S (rEqD K) (.tup (dS ws)) (.tup (dS us)) Φ := by
  refine od_eqD (plains_dS ws) (plains_dS us) (shape_tS o1) (shape_tS o2) ?_
  show Φ (.bl (PyData.eqvAll (D.pys (dS ws)) (D.pys (dS us))))
  rw [pys_dS, pys_dS, eqv_strs]; exact k
end
/-- where the classes stand, and what the module says of them -/
structure Cs where
  W : Addr
  E : Addr
structure Tw (K : PySem.W.Frag) (mg : Str → Option Value) (Z : Cs) : Prop where
  mgW : mg "Work" = some (.ref Z.W)
  mgE : mg "Edition" = some (.ref Z.E)
  caW : PySem.W.findIn K (.ref Z.W) "__class__" = some (some (.builtin "object.__class__"))
  caE : PySem.W.findIn K (.ref Z.E) "__class__" = some (some (.builtin "object.__class__"))
  cn : PySem.W.specialIn K (.builtin "object.__class__") "__get__" = some (some (.builtin "getset_descriptor.__get__"))
  ct : PySem.W.takesIn K (.builtin "object.__class__") = some true
  cmW : PySem.W.mroIn K Z.W (.type "object") = some true
  cmE : PySem.W.mroIn K Z.E (.type "object") = some true
  sfE : PySem.W.selfFirst K Z.E = true
  clW : Cls K Z.W
  nName : NoAttr K Z.W "name"
  nRows : NoAttr K Z.W "rows"
  clE : Cls K Z.E
  nWork : NoAttr K Z.E "work"
  nNums : NoAttr K Z.E "numbers"
abbrev dW (Z : Cs) (nm : Str) (ws : List Str) : D := .ins Z.W ["name", "rows"] [.str nm, .tup (dS ws)]
abbrev dE (Z : Cs) (nm : Str) (ws : List Str) (ns : List Nat) : D := .ins Z.E ["work", "numbers"] [dW Z nm ws, .tup (dN ns)]
theorem putD_ne {f n : Str} {d x : D} {ns : List Str} {xs : List D} (h : ¬ n = f) : putD f d (n :: ns) (x :: xs) = (n :: (putD f d ns xs).1, x :: (putD f d ns xs).2) := if_neg h
/-- the word with a number -/
def wd (ws : List Str) (n : Nat) : Str := ws.getD n Str.empty
section
variable {K : PySem.W.Frag} {mg : Str → Option Value} {Z : Cs} {S : Sx} {Φ : D → Prop} {nm : Str} {ws : List Str} {ns : List Nat}
theorem fW_name (T : Tw K mg Z) (k : Φ (.str nm)) : UnD K S (rFld K "name") (dW Z nm ws) Φ := ud_fld T.clW T.nName (n := 0) (by decide +kernel) rfl k
theorem fW_rows (T : Tw K mg Z) (k : Φ (.tup (dS ws))) : UnD K S (rFld K "rows") (dW Z nm ws) Φ := ud_fld T.clW T.nRows (n := 1) (by decide +kernel) rfl k
theorem fE_work (T : Tw K mg Z) (k : Φ (dW Z nm ws)) : UnD K S (rFld K "work") (dE Z nm ws ns) Φ := ud_fld T.clE T.nWork (n := 0) (by decide +kernel) rfl k
theorem fE_nums (T : Tw K mg Z) (k : Φ (.tup (dN ns))) : UnD K S (rFld K "numbers") (dE Z nm ws ns) Φ := ud_fld T.clE T.nNums (n := 1) (by decide +kernel) rfl k
end
end
end Lf
namespace Lf
open PySem L2
local macro_rules | `(tactic| walk_at "nq") => `(tactic| first | with_reducible assumption | with_reducible exact Ne.symm (by assumption) | with_reducible exact ne_of_none (by assumption) (by assumption) | with_reducible exact Ne.symm (ne_of_none (by assumption) (by assumption)))
local macro_rules | `(tactic| walk_at "gt") => `(tactic| first | with_reducible assumption | with_reducible exact upd_same | ((with_reducible refine' upd_new ?ha ?hb); (case hb => with_reducible assumption); (case ha => walk_at "gt")) | ((with_reducible refine' upd_old ?ha ?hb); (case hb => walk_at "nq"); (case ha => walk_at "gt")) | ((with_reducible refine' sm_get ?hb ?ha); (case hb => with_reducible assumption); (case ha => walk_at "gt")) | ((with_reducible refine' fr_get ?hb ?ha ?hc); (case hb => with_reducible assumption); (case hc => walk_at "nq"); (case ha => walk_at "gt")))
local macro_rules | `(tactic| walk_at "sl") => `(tactic| first | with_reducible assumption | ((with_reducible refine' sl_of ?ha); (case ha => walk_at "gt")) | ((with_reducible refine' sl_new ?ha ?hb); (case hb => with_reducible assumption); (case ha => walk_at "sl")) | ((with_reducible refine' sl_sm ?hb ?ha); (case hb => with_reducible assumption); (case ha => walk_at "sl")) | ((with_reducible refine' sl_fr ?hb ?hc ?ha); (case hb => with_reducible assumption); (case hc => walk_at "nq"); (case ha => walk_at "sl")))
local macro_rules | `(tactic| walk_at "st") => `(tactic| first | with_reducible assumption | ((with_reducible refine' st_of ?ha); (case ha => walk_at "gt")) | ((with_reducible refine' st_new ?ha ?hb); (case hb => with_reducible assumption); (case ha => walk_at "st")) | ((with_reducible refine' st_sm ?hb ?ha); (case hb => with_reducible assumption); (case ha => walk_at "st")) | ((with_reducible refine' st_fr ?hb ?hc ?ha); (case hb => with_reducible assumption); (case hc => walk_at "nq"); (case ha => walk_at "st")))
local macro_rules | `(tactic| walk_at "sa") => `(tactic| first | with_reducible assumption | ((with_reducible refine' sa_l ?ha); (case ha => walk_at "gt")) | ((with_reducible refine' sa_t ?ha); (case ha => walk_at "gt")) | ((with_reducible refine' sa_new ?ha ?hb); (case hb => with_reducible assumption); (case ha => walk_at "sa")) | ((with_reducible refine' sa_sm ?hb ?ha); (case hb => with_reducible assumption); (case ha => walk_at "sa")) | ((with_reducible refine' sa_fr ?hb ?hc ?ha); (case hb => with_reducible assumption); (case hc => walk_at "nq"); (case ha => walk_at "sa")) | ((with_reducible refine' Or.inl ?ha); (case ha => walk_at "sl")) | ((with_reducible refine' Or.inr ?ha); (case ha => walk_at "st")))
local macro_rules | `(tactic| walk_at "ln") => `(tactic| first | decide | omega | exact Nat.le_of_ble_eq_true rfl | (simp only [List.length_append, List.length_map, List.length_cons, List.length_nil, List.length_flatMap]; omega))
local macro_rules | `(tactic| walk_at "ty") => `(tactic| first | with_reducible assumption | with_reducible exact .base (.int _) | with_reducible exact .base (.str _) | with_reducible exact .base (.bl _) | with_reducible exact .base .non | ((with_reducible refine' TyX.base (TyOf.lst ?ha)); (case ha => walk_at "gt")) | ((with_reducible refine' TyX.base (TyOf.tup ?ha)); (case ha => walk_at "gt")) | ((with_reducible refine' TyX.base (TyOf.dK ?ha)); (case ha => walk_at "gt")) | ((with_reducible refine' ty_new ?ha ?hb); (case hb => with_reducible assumption); (case ha => walk_at "ty")) | ((with_reducible refine' ty_sm ?hb ?ha); (case hb => with_reducible assumption); (case ha => walk_at "ty")))
local macro_rules | `(tactic| walk_at "kb") => `(tactic| first | with_reducible assumption | exact kb_str_str | exact kb_int_str | exact kb_list_str | exact kb_tuple_str | exact kb_bool_str | exact kb_NoneType_str | exact kb_dict_str | exact kb_str_int | exact kb_int_int | exact kb_list_int | exact kb_tuple_int | exact kb_bool_int | exact kb_NoneType_int | exact kb_dict_int | exact kb_str_bool | exact kb_int_bool | exact kb_list_bool | exact kb_tuple_bool | exact kb_bool_bool | exact kb_NoneType_bool | exact kb_dict_bool | exact kb_str_list | exact kb_int_list | exact kb_list_list | exact kb_tuple_list | exact kb_bool_list | exact kb_NoneType_list | exact kb_dict_list | exact kb_str_tuple | exact kb_int_tuple | exact kb_list_tuple | exact kb_tuple_tuple | exact kb_bool_tuple | exact kb_NoneType_tuple | exact kb_dict_tuple | exact kb_str_dict | exact kb_int_dict | exact kb_list_dict | exact kb_tuple_dict | exact kb_bool_dict | exact kb_NoneType_dict | exact kb_dict_dict)
local macro_rules | `(tactic| walk_at "wk") => `(tactic| first | with_reducible assumption | ((with_reducible refine' WkAt.new ?ha ?hb); (case hb => with_reducible assumption); (case ha => walk_at "wk")) | ((with_reducible refine' WkAt.sm ?hb ?ha); (case hb => with_reducible assumption); (case ha => walk_at "wk")) | ((with_reducible refine' WkAt.dr ?hb ?hc ?ha); (case hb => with_reducible assumption); (case hc => with_reducible assumption); (case ha => walk_at "wk")))
local macro_rules | `(tactic| walk_at "ed") => `(tactic| first | with_reducible assumption | ((with_reducible refine' EdAt.new ?ha ?hb); (case hb => with_reducible assumption); (case ha => walk_at "ed")) | ((with_reducible refine' EdAt.sm ?hb ?ha); (case hb => with_reducible assumption); (case ha => walk_at "ed")) | ((with_reducible refine' EdAt.dr ?hb ?hc ?ha); (case hb => with_reducible assumption); (case hc => with_reducible assumption); (case ha => walk_at "ed")))
local macro_rules | `(tactic| walk_at "pl") => `(tactic| first | with_reducible assumption | ((with_reducible refine' PlAt.new ?ha ?hb); (case hb => with_reducible assumption); (case ha => walk_at "pl")) | ((with_reducible refine' PlAt.sm ?hb ?ha); (case hb => with_reducible assumption); (case ha => walk_at "pl")) | ((with_reducible refine' PlAt.dr ?hb ?hc ?ha); (case hb => with_reducible assumption); (case hc => with_reducible assumption); (case ha => walk_at "pl")))
local macro_rules | `(tactic| walk_at "fl") => `(tactic| first | with_reducible assumption | ((with_reducible refine' WkAt.rows ?hT ?hW); (case hT => assumption); (case hW => walk_at "wk")) | ((with_reducible refine' WkAt.name ?hT ?hW); (case hT => assumption); (case hW => walk_at "wk")) | ((with_reducible refine' EdAt.work ?hT ?hW); (case hT => assumption); (case hW => walk_at "ed")) | ((with_reducible refine' EdAt.nums ?hT ?hW); (case hT => assumption); (case hW => walk_at "ed")) | ((with_reducible refine' PlAt.edition ?hT ?hW); (case hT => assumption); (case hW => walk_at "pl")) | ((with_reducible refine' PlAt.count ?hT ?hW); (case hT => assumption); (case hW => walk_at "pl")))
local macro_rules | `(tactic| walk_at "mt") => `(tactic| first | with_reducible assumption | ((with_reducible refine' WkAt.mt ?hn1 ?hn2 ?hW); (case hW => walk_at "wk"); (case hn1 => decide +kernel); (case hn2 => decide +kernel)) | ((with_reducible refine' EdAt.mt ?hn1 ?hn2 ?hW); (case hW => walk_at "ed"); (case hn1 => decide +kernel); (case hn2 => decide +kernel)) | ((with_reducible refine' PlAt.mt ?hn1 ?hn2 ?hW); (case hW => walk_at "pl"); (case hn1 => decide +kernel); (case hn2 => decide +kernel)))
local macro_rules | `(tactic| walk_at "is") => `(tactic| first | with_reducible assumption | ((with_reducible refine' WkAt.is ?hW); (case hW => walk_at "wk")) | ((with_reducible refine' EdAt.is ?hW); (case hW => walk_at "ed")) | ((with_reducible refine' PlAt.is ?hW); (case hW => walk_at "pl")))
local macro_rules | `(tactic| walk_at "ic") => `(tactic| first
  | ((with_reducible show CMul _ _); first | exact Or.inl ⟨by decide, by decide⟩ | exact Or.inr ⟨by decide, by decide⟩ | exact Or.inl ⟨by omega, by omega⟩ | exact Or.inr ⟨by omega, by omega⟩)
  | ((with_reducible show CDiv _ _); first | exact ⟨by decide, by decide⟩ | exact ⟨by omega, by omega⟩)
  | ((with_reducible show CPow _ _); first | exact ⟨by decide, by decide, by decide⟩ | exact ⟨by decide, by decide, by omega⟩)
  | (show (0 : Int) < _; first | decide | omega))
local macro_rules | `(tactic| walk_at "s1") => `(tactic| first
  | with_reducible refine k_seq ?_
  | with_reducible refine k_set ?_
  | with_reducible refine k_asg ?_
  | with_reducible refine k_par ?_
  | with_reducible refine k_par2 ?_
  | with_reducible refine k_drop ?_
  | with_reducible refine k_ret ?_
  | with_reducible refine k_next ?_
  | with_reducible refine k_if ?_
  | ((with_reducible refine' k_aug ?hv ?_); (case hv => exact rfl))
  | with_reducible refine k_ipI ?_
  | with_reducible refine k_gname ?_
  | with_reducible refine k_gsub ?_
  | ((with_reducible refine' k_gtup ?hv ?hw ?_); (case hv => walk_at "st"); (case hw => rfl))
  | with_reducible refine k_gcons ?_
  | with_reducible refine k_gnil ?_
  | with_reducible refine k_test ?_
  | with_reducible refine k_B ?_
  | with_reducible refine k_blE ?_
  | with_reducible refine k_and ?_
  | with_reducible refine k_or ?_
  | with_reducible refine k_not ?_
  | with_reducible refine iteT ?_
  | with_reducible refine iteF ?_
  | with_reducible refine iteNT ?_
  | with_reducible refine iteNF ?_
  | ((with_reducible refine' k_var ?hv ?_); (case hv => exact rfl))
  | with_reducible refine k_c ?_
  | with_reducible refine k_op ?_
  | with_reducible refine k_un ?_
  | with_reducible refine k_U ?_
  | with_reducible refine k_I0 ?_
  | ((with_reducible refine' k_I ?hv ?_); (case hv => walk_at "ic"))
  | with_reducible refine k_eqI ?_
  | with_reducible refine k_neI ?_
  | with_reducible refine k_eqS ?_
  | with_reducible refine k_neS ?_
  | with_reducible refine k_eqB ?_
  | with_reducible refine k_neB ?_
  | with_reducible refine k_for ?_
  | with_reducible refine k_iE ?_
  | with_reducible refine k_iA ?_
  | ((with_reducible refine' k_itl ?hv ?_); (case hv => walk_at "sl"))
  | ((with_reducible refine' k_itt ?hv ?_); (case hv => walk_at "st"))
  | with_reducible refine k_its ?_
  | ((with_reducible refine' k_rg1n ?hv ?_); (case hv => first | decide | omega))
  | ((with_reducible refine' k_rg1 ?hv ?hw ?_); (case hv => first | decide | omega); (case hw => first | decide | omega))
  | ((with_reducible refine' k_inS ?hv ?_); (case hv => walk_at "sa"))
  | ((with_reducible refine' k_inI ?hv ?_); (case hv => walk_at "sa"))
  | ((with_reducible refine' k_ninS ?hv ?_); (case hv => walk_at "sa"))
  | ((with_reducible refine' k_ninI ?hv ?_); (case hv => walk_at "sa"))
  | ((with_reducible refine' k_zipl ?hv ?hw ?_); (case hv => walk_at "sl"); (case hw => walk_at "sl"))
  | with_reducible refine k_nil ?_
  | with_reducible refine k_cons ?_
  | with_reducible refine k_cb ?_
  | with_reducible refine k_call ?_
  | with_reducible refine k_lst ?_
  | with_reducible refine k_tup ?_
  | with_reducible refine k_ifx ?_
  | with_reducible refine k_andv ?_
  | with_reducible refine k_orv ?_
  | with_reducible refine k_notv ?_
  | with_reducible refine k_inti ?_
  | with_reducible refine k_intb ?_
  | with_reducible refine k_sl ?_
  | with_reducible refine k_nopart ?_
  | with_reducible refine k_part ?_
  | with_reducible refine k_parti ?_
  | ((with_reducible refine' k_lenl ?hv ?_); (case hv => walk_at "sl"))
  | ((with_reducible refine' k_lent ?hv ?_); (case hv => walk_at "st"))
  | ((with_reducible refine' k_lens ?hv ?_); (case hv => exact szl (by walk_at "ln")))
  | ((with_reducible refine' k_lena ?hv ?_); (case hv => walk_at "sa"))
  | ((with_reducible refine' k_ixl ?hv ?hn ?_); (case hv => walk_at "sl"); (case hn => first | rfl | assumption))
  | ((with_reducible refine' k_ixt ?hv ?hn ?_); (case hv => walk_at "st"); (case hn => first | rfl | assumption))
  | ((with_reducible refine' k_ixa ?hv ?hn ?_); (case hv => walk_at "sa"); (case hn => first | rfl | assumption))
  | with_reducible refine k_chain ?_
  | ((with_reducible refine' k_isi ?hv ?hw ?_); (case hv => walk_at "ty"); (case hw => walk_at "kb"))
  | ((with_reducible refine' k_isi2 ?hb ?hp ?hv ?hw ?hx ?_); (case hp => walk_at "gt"); (case hv => walk_at "ty"); (case hw => walk_at "kb"); (case hx => walk_at "kb"); (case hb => first | exact or_t | exact or_f))
  | ((with_reducible refine' k_all ?hv ?_); (case hv => walk_at "gt"))
  | ((with_reducible refine' k_any ?hv ?_); (case hv => walk_at "gt"))
  | with_reducible refine k_insign ?_
  | with_reducible refine k_fldR ?_
  | ((with_reducible refine' k_fl ?hv ?_); (case hv => walk_at "fl"))
  | with_reducible refine k_sfld ?_
  | with_reducible refine k_meth ?_
  | ((with_reducible refine' k_mt ?hv ?_); (case hv => walk_at "mt"))
  | with_reducible refine k_make ?_
  | ((with_reducible refine' k_own ?hv ?hw ?_); (case hv => walk_at "is"); (case hw => walk_at "is"))
  | ((with_reducible refine' k_ownin ?hv ?_); (case hv => walk_at "is"))
  | ((with_reducible refine' k_lenO ?hv ?_); (case hv => walk_at "is"))
  | with_reducible refine k_prop ?_
  | ((with_reducible refine' k_pr ?hv ?_); (case hv => walk_at "is"))
  | ((with_reducible refine' k_ownI ?hv ?_); (case hv => walk_at "is"))
  | ((with_reducible refine' k_ownR ?hv ?_); (case hv => walk_at "is"))
  | with_reducible refine k_mx ?_
  | with_reducible refine k_mn ?_
  | with_reducible refine k_lrg ?_
  | with_reducible refine k_rgt ?_
  | with_reducible refine k_rgti ?_
  | with_reducible refine k_bm ?_
  | with_reducible refine k_bm0 ?_
  | with_reducible refine k_tys ?_
  | ((with_reducible refine' k_tyl ?hv ?_); (case hv => walk_at "sl"))
  | ((with_reducible refine' k_ext ?hv ?hw ?hn ?_); (case hv => walk_at "gt"); (case hw => walk_at "gt"); (case hn => walk_at "ln"))
  | ((with_reducible refine' k_app ?hv ?hn ?_); (case hv => walk_at "gt"); (case hn => walk_at "ln"))
  | ((with_reducible refine' k_popat ?hv ?hn ?hw ?_); (case hv => walk_at "gt"); (case hn => with_reducible assumption); (case hw => walk_at "ln"))
  | with_reducible refine k_lc ?_
  | with_reducible refine k_yes0 ?_
  | ((with_reducible show wipe _ _ = wipe _ _ ∧ _); refine ⟨rfl, ?_⟩)
  | ((with_reducible refine' k_adds ?hv ?_); (case hv => walk_at "ln"))
  | ((with_reducible refine' k_st1 ?hv ?_); (case hv => walk_at "gt"))
  | ((with_reducible refine' k_st2 ?hv ?_); (case hv => walk_at "gt"))
  | ((with_reducible refine' k_st3 ?hv ?_); (case hv => walk_at "gt"))
  | ((with_reducible refine' k_setl ?hv ?hn ?_); (case hv => walk_at "gt"); (case hn => rfl)))
local macro_rules | `(tactic| walk_at "put") => `(tactic| ((refine' ⟨_, ?ha, sz ?hb, ?_⟩); (case ha => walk_at "gt"); (case hb => walk_at "ln")))
local macro_rules | `(tactic| walk_at "go") => `(tactic| repeat (walk_at "s1"))
local macro_rules | `(tactic| walk_at "dv") => `(tactic| first | exact rfl | with_reducible assumption)
local macro_rules | `(tactic| walk_at "dt") => `(tactic| first | with_reducible assumption | with_reducible exact .int | with_reducible exact .str | with_reducible exact .bl | with_reducible exact .non | with_reducible exact .lst | with_reducible exact .tup | with_reducible exact .dk | ((with_reducible refine' TyD.ins ?hc); (case hc => with_reducible assumption)))
local macro_rules | `(tactic| walk_at "dm") => `(tactic| first | exact trivial | exact List.mem_cons_self | exact List.mem_cons_of_mem _ List.mem_cons_self | exact List.mem_cons_of_mem _ (List.mem_cons_of_mem _ List.mem_cons_self))
local macro_rules | `(tactic| walk_at "dy") => `(tactic| first | exact Or.inl rfl | exact Or.inr rfl)
local macro_rules | `(tactic| walk_at "xExD") => `(tactic| first
  | ((with_reducible refine' ex_re ?hX ?_); (case hX => assumption))
  | ((with_reducible refine' ex_re2 ?hX ?_); (case hX => assumption))
  | ((with_reducible refine' ex_rz ?hX ?_); (case hX => assumption)))
local macro_rules | `(tactic| walk_at "xOpD") => `(tactic| first
  | ((with_reducible refine' od_ownX ?hX ?_); (case hX => assumption))
  | ((with_reducible refine' od_ownIX ?hX ?_); (case hX => assumption)))
local macro_rules | `(tactic| walk_at "xEvD") => `(tactic| first
  | ((with_reducible refine' ev_callT ?hX ?_); (case hX => assumption))
  | ((with_reducible refine' ev_callX ?hX ?_); (case hX => assumption))
  | ((with_reducible refine' ev_methX ?hX ?_); (case hX => assumption))
  | ((with_reducible refine' ev_makeX ?hX ?_); (case hX => assumption))
  | ((with_reducible refine' ev_kwX ?hX ?_); (case hX => assumption))
  | ((with_reducible refine' ev_mkKwX ?hX ?_); (case hX => assumption)))
local macro_rules | `(tactic| walk_at "gEvD") => `(tactic| first
  | ((with_reducible refine' ev_var ?hv ?_); (case hv => exact rfl))
  | ((with_reducible refine' ev_varO ?hv ?_); (case hv => exact rfl))
  | with_reducible refine ev_ci ?_
  | with_reducible refine ev_cs ?_
  | with_reducible refine ev_cb ?_
  | with_reducible refine ev_cn ?_
  | ((with_reducible refine' ev_kt ?h ?_); (case h => with_reducible assumption))
  | with_reducible refine ev_cr ?_
  | with_reducible refine ev_ct ?_
  | with_reducible refine ev_new (evN_op (r := rCat) ?_)
  | with_reducible refine ev_new (evN_op (r := rRep) ?_)
  | ((with_reducible refine' ev_ixO ?hv ?_); (case hv => exact rfl))
  | with_reducible refine ev_op ?_
  | with_reducible refine ev_un ?_
  | with_reducible refine ev_isi2 ?_
  | with_reducible refine ev_isi4 ?_
  | ((with_reducible refine' ev_new (evN_listO ?hv ?_)); (case hv => exact rfl))
  | with_reducible refine ev_new (evN_cb1 (f := rListOf _) ?_)
  | ((with_reducible refine' ev_lenO ?hv ?_); (case hv => exact rfl))
  | with_reducible refine ev_cb1 ?_
  | with_reducible refine ev_lst ?_
  | with_reducible refine ev_dnew ?_
  | with_reducible refine ev_tup ?_
  | with_reducible refine ev_if ?_
  | with_reducible refine ev_and ?_
  | with_reducible refine ev_or ?_
  | with_reducible refine ev_not ?_
  | with_reducible refine ev_chain ?_
  | ((with_reducible refine' ev_new (evN_lcO ?hv ?_)); (case hv => exact rfl))
  | with_reducible refine ev_new (evN_lc ?_)
  | with_reducible refine ev_new (evN_sl ?_)
  | with_reducible refine ev_slT ?_
  | ((with_reducible refine' ev_fldS (n := 0) ?hv ?hc ?hn ?h1 ?h2 ?_); (case hv => exact rfl); (case hc => with_reducible assumption); (case hn => with_reducible assumption); (case h1 => decide +kernel); (case h2 => exact rfl))
  | ((with_reducible refine' ev_fldS (n := 1) ?hv ?hc ?hn ?h1 ?h2 ?_); (case hv => exact rfl); (case hc => with_reducible assumption); (case hn => with_reducible assumption); (case h1 => decide +kernel); (case h2 => exact rfl))
  | ((with_reducible refine' ev_fldS (n := 2) ?hv ?hc ?hn ?h1 ?h2 ?_); (case hv => exact rfl); (case hc => with_reducible assumption); (case hn => with_reducible assumption); (case h1 => decide +kernel); (case h2 => exact rfl))
  | ((with_reducible refine' ev_fldS (n := 3) ?hv ?hc ?hn ?h1 ?h2 ?_); (case hv => exact rfl); (case hc => with_reducible assumption); (case hn => with_reducible assumption); (case h1 => decide +kernel); (case h2 => exact rfl))
  | with_reducible refine ev_fld ?_
  | with_reducible refine ev_call ?_
  | with_reducible refine ev_kw ?_
  | with_reducible refine ev_mkKw ?_
  | with_reducible refine ev_meth ?_
  | with_reducible refine ev_prop ?_
  | with_reducible refine ev_make ?_)
local macro_rules | `(tactic| walk_at "gOpD") => `(tactic| first
  | with_reducible refine od_int ?_
  | with_reducible refine od_bl ?_
  | ((with_reducible refine' od_I ?hv ?_); (case hv => walk_at "ic"))
  | with_reducible refine od_ip ?_
  | with_reducible refine od_eqI ?_
  | with_reducible refine od_neI ?_
  | with_reducible refine od_eqS ?_
  | with_reducible refine od_neS ?_
  | with_reducible refine od_eqB ?_
  | with_reducible refine od_neB ?_
  | with_reducible refine od_isbl ?_
  | ((with_reducible refine' od_ixl ?hv ?_); (case hv => walk_at "dv"))
  | ((with_reducible refine' od_ixt ?hv ?_); (case hv => walk_at "dv"))
  | ((with_reducible refine' od_ixL ?hv ?_); (case hv => walk_at "dv"))
  | ((with_reducible refine' od_ixT ?hv ?_); (case hv => walk_at "dv"))
  | ((with_reducible refine' od_inN ?hv ?_); (case hv => walk_at "dy"))
  | ((with_reducible refine' od_inI ?hv ?_); (case hv => walk_at "dy"))
  | ((with_reducible refine' od_inS ?hv ?_); (case hv => walk_at "dy"))
  | with_reducible refine od_sign ?_
  | ((with_reducible refine' od_adds ?hv ?_); (case hv => walk_at "ln"))
  | with_reducible refine od_own ?_
  | with_reducible refine od_ownI ?_
  | with_reducible refine od_ownR ?_
  | with_reducible refine od_ownin ?_)
local macro_rules | `(tactic| walk_at "gExD") => `(tactic| first
  | with_reducible refine ex_seq ?_
  | ((with_reducible refine' ex_new (te := tLst tNil) ?hi ?_); (case hi => exact Nat.le_of_ble_eq_true rfl))
  | ((with_reducible refine' ex_newO ?hi ?_); (case hi => exact Nat.le_of_ble_eq_true rfl))
  | with_reducible refine ex_set ?_
  | with_reducible refine ex_asg ?_
  | ((with_reducible refine' ex_par ?hi ?_); (case hi => decide))
  | with_reducible refine ex_par3 ?_
  | ((with_reducible refine' ex_retO ?hv ?_); (case hv => exact rfl))
  | with_reducible refine ex_ret ?_
  | with_reducible refine ex_retN ?_
  | with_reducible refine ex_next ?_
  | with_reducible refine ex_break ?_
  | with_reducible refine ex_cont ?_
  | with_reducible refine ex_ifB ?_
  | ((with_reducible refine' ex_aug ?hv ?_); (case hv => exact rfl))
  | ((with_reducible refine' ex_app ?hv ?hl ?_); (case hv => exact rfl); (case hl => walk_at "ln"))
  | ((with_reducible refine' ex_insO ?hv ?hl ?_); (case hv => exact rfl); (case hl => walk_at "ln"))
  | ((with_reducible refine' ex_fld ?hv ?hc ?hn ?hl ?_); (case hv => exact rfl); (case hc => with_reducible assumption); (case hn => with_reducible assumption); (case hl => exact Nat.le_of_ble_eq_true rfl))
  | ((with_reducible refine' ex_extO ?hv ?_); (case hv => exact rfl))
  | ((with_reducible refine' ex_clrO ?hv ?_); (case hv => exact rfl))
  | with_reducible refine ex_drop ?_
  | with_reducible refine ex_for ?_)
local macro_rules | `(tactic| walk_at "gEvT") => `(tactic| first
  | with_reducible refine et_test ?_
  | with_reducible refine et_B ?_
  | with_reducible refine et_and ?_
  | with_reducible refine et_or ?_
  | with_reducible refine et_not ?_
  | with_reducible refine et_yes ?_)
local macro_rules | `(tactic| walk_at "gite") => `(tactic| first
  | with_reducible refine iteT ?_
  | with_reducible refine iteF ?_
  | with_reducible refine iteNT ?_
  | with_reducible refine iteNF ?_)
local macro_rules | `(tactic| walk_at "gUnD") => `(tactic| first
  | with_reducible refine ud_U ?_
  | ((with_reducible refine' fW_name ?hT ?_); (case hT => assumption))
  | ((with_reducible refine' fW_rows ?hT ?_); (case hT => assumption))
  | ((with_reducible refine' fE_work ?hT ?_); (case hT => assumption))
  | ((with_reducible refine' fE_nums ?hT ?_); (case hT => assumption))
  | ((with_reducible refine' fP_edition ?hT ?_); (case hT => assumption))
  | ((with_reducible refine' fP_count ?hT ?_); (case hT => assumption))
  | ((with_reducible refine' fK_work ?hT ?_); (case hT => assumption))
  | ((with_reducible refine' fK_rows ?hT ?_); (case hT => assumption))
  | ((with_reducible refine' fK_told ?hT ?_); (case hT => assumption))
  | ((with_reducible refine' fS_rule ?hT ?_); (case hT => assumption))
  | ((with_reducible refine' fS_tables ?hT ?_); (case hT => assumption))
  | ((with_reducible refine' fS_spots ?hT ?_); (case hT => assumption))
  | ((with_reducible refine' fS_held ?hT ?_); (case hT => assumption))
  | ((with_reducible refine' fS_stamps ?hT ?_); (case hT => assumption))
  | ((with_reducible refine' fS_row ?hT ?_); (case hT => assumption))
  | ((with_reducible refine' fS_top ?hT ?_); (case hT => assumption))
  | ((with_reducible refine' fS_come ?hT ?_); (case hT => assumption))
  | ((with_reducible refine' fR_parts ?hT ?_); (case hT => assumption))
  | ((with_reducible refine' fR_way ?hT ?_); (case hT => assumption)))
local macro_rules | `(tactic| walk_at "gCbD") => `(tactic| first
  | ((with_reducible refine' cd_isi ?ht ?hk ?_); (case ht => walk_at "dt"); (case hk => walk_at "kb"))
  | ((with_reducible refine' cd_isiO ?ht ?hk ?_); (case ht => walk_at "dt"); (case hk => first | with_reducible assumption | exact kit_same))
  | ((with_reducible refine' cd_lens ?hv ?_); (case hv => walk_at "ln"))
  | with_reducible refine cd_len ?_
  | with_reducible refine cd_all ?_
  | with_reducible refine cd_any ?_
  | with_reducible refine cd_int ?_
  | with_reducible refine cd_intb ?_
  | with_reducible refine cd_mx ?_
  | with_reducible refine cd_mn ?_
  | with_reducible refine cd_tuple ?_
  | with_reducible refine cd_lenO ?_)
local macro_rules | `(tactic| walk_at "gEvI") => `(tactic| first
  | with_reducible refine ei_seq ?_
  | with_reducible refine ei_str ?_
  | with_reducible refine ei_rg1 ?_
  | with_reducible refine ei_rg2 ?_
  | with_reducible refine ei_enum ?_
  | with_reducible refine ei_zip ?_
  | with_reducible refine ei_zipA ?_
  | with_reducible refine ei_zipB ?_
  | with_reducible refine ei_zipB3 ?_)
local macro_rules | `(tactic| walk_at "gEvN") => `(tactic| first
  | ((with_reducible refine' evN_listO ?hv ?_); (case hv => exact rfl))
  | ((with_reducible refine' evN_lcO ?hv ?_); (case hv => exact rfl))
  | with_reducible refine evN_lc ?_
  | with_reducible refine evN_sl ?_
  | with_reducible refine evN_op ?_
  | with_reducible refine evN_cb1 ?_
  | with_reducible refine evN_lst ?_)
local macro_rules | `(tactic| walk_at "d1") => `(tactic| first
  | ((with_reducible show EvD _ _ _ _ _); walk_at "gEvD")
  | ((with_reducible show OpD _ _ _ _ _ _); walk_at "gOpD")
  | with_reducible refine ev_nil ?_
  | with_reducible refine ev_cons ?_
  | ((with_reducible show ExD _ _ _ _ _); walk_at "gExD")
  | ((with_reducible show EvT _ _ _ _ _); walk_at "gEvT")
  | with_reducible refine isB_mk ?_
  | walk_at "gite"
  | ((with_reducible show UnD _ _ _ _ _); walk_at "gUnD")
  | ((with_reducible show CbD _ _ _ _ _); walk_at "gCbD")
  | ((with_reducible refine' tg_name ?hi ?_); (case hi => walk_at "dm"))
  | ((with_reducible refine' tg_tup ?hi ?_); (case hi => exact rfl))
  | ((with_reducible refine' tg_unl ?hi ?_); (case hi => exact rfl))
  | with_reducible refine tg_cons ?_
  | with_reducible refine tg_nil ?_
  | ((with_reducible show EvI _ _ _ _ _); walk_at "gEvI")
  | ((with_reducible refine' few_mk ?hl ?_); (case hl => exact Nat.le_of_ble_eq_true rfl))
  | ((with_reducible show EvN _ _ _ _ _); walk_at "gEvN")
  | ((with_reducible refine' on_cat ?hv ?_); (case hv => walk_at "ln"))
  | ((with_reducible refine' on_rep ?hv ?hw ?_); (case hv => walk_at "ln"); (case hw => walk_at "ln"))
  | with_reducible refine cn_list ?_
  | with_reducible refine eo_no ?_
  | with_reducible refine eo_part ?_
  | with_reducible refine seq_l ?_
  | with_reducible refine seq_t ?_
  | with_reducible refine ⟨insD_mk (by decide +kernel), ?_⟩)
local macro_rules | `(tactic| walk_at "dx") => `(tactic| first
  | ((with_reducible show EvD _ _ _ _ _); walk_at "xEvD")
  | ((with_reducible show OpD _ _ _ _ _ _); walk_at "xOpD")
  | ((with_reducible show ExD _ _ _ _ _); walk_at "xExD"))
local macro_rules | `(tactic| walk_at "dX") => `(tactic| repeat (first | walk_at "d1" | walk_at "dx"))
local macro_rules | `(tactic| walk_at "dg") => `(tactic| repeat (walk_at "d1"))
section
set_option maxRecDepth 100000
set_option maxHeartbeats 2000000

section
variable {P : Program} {w : World} {K : PySem.W.Frag} {mg : Str → Option Value} {base : Heap} {Z : Cs}
end
end
/-! The words of a law. -/
end Lf
namespace Lf
open PySem L2
local macro_rules | `(tactic| walk_at "nq") => `(tactic| first | with_reducible assumption | with_reducible exact Ne.symm (by assumption) | with_reducible exact ne_of_none (by assumption) (by assumption) | with_reducible exact Ne.symm (ne_of_none (by assumption) (by assumption)))
local macro_rules | `(tactic| walk_at "gt") => `(tactic| first | with_reducible assumption | with_reducible exact upd_same | ((with_reducible refine' upd_new ?ha ?hb); (case hb => with_reducible assumption); (case ha => walk_at "gt")) | ((with_reducible refine' upd_old ?ha ?hb); (case hb => walk_at "nq"); (case ha => walk_at "gt")) | ((with_reducible refine' sm_get ?hb ?ha); (case hb => with_reducible assumption); (case ha => walk_at "gt")) | ((with_reducible refine' fr_get ?hb ?ha ?hc); (case hb => with_reducible assumption); (case hc => walk_at "nq"); (case ha => walk_at "gt")))
local macro_rules | `(tactic| walk_at "sl") => `(tactic| first | with_reducible assumption | ((with_reducible refine' sl_of ?ha); (case ha => walk_at "gt")) | ((with_reducible refine' sl_new ?ha ?hb); (case hb => with_reducible assumption); (case ha => walk_at "sl")) | ((with_reducible refine' sl_sm ?hb ?ha); (case hb => with_reducible assumption); (case ha => walk_at "sl")) | ((with_reducible refine' sl_fr ?hb ?hc ?ha); (case hb => with_reducible assumption); (case hc => walk_at "nq"); (case ha => walk_at "sl")))
local macro_rules | `(tactic| walk_at "st") => `(tactic| first | with_reducible assumption | ((with_reducible refine' st_of ?ha); (case ha => walk_at "gt")) | ((with_reducible refine' st_new ?ha ?hb); (case hb => with_reducible assumption); (case ha => walk_at "st")) | ((with_reducible refine' st_sm ?hb ?ha); (case hb => with_reducible assumption); (case ha => walk_at "st")) | ((with_reducible refine' st_fr ?hb ?hc ?ha); (case hb => with_reducible assumption); (case hc => walk_at "nq"); (case ha => walk_at "st")))
local macro_rules | `(tactic| walk_at "sa") => `(tactic| first | with_reducible assumption | ((with_reducible refine' sa_l ?ha); (case ha => walk_at "gt")) | ((with_reducible refine' sa_t ?ha); (case ha => walk_at "gt")) | ((with_reducible refine' sa_new ?ha ?hb); (case hb => with_reducible assumption); (case ha => walk_at "sa")) | ((with_reducible refine' sa_sm ?hb ?ha); (case hb => with_reducible assumption); (case ha => walk_at "sa")) | ((with_reducible refine' sa_fr ?hb ?hc ?ha); (case hb => with_reducible assumption); (case hc => walk_at "nq"); (case ha => walk_at "sa")) | ((with_reducible refine' Or.inl ?ha); (case ha => walk_at "sl")) | ((with_reducible refine' Or.inr ?ha); (case ha => walk_at "st")))
local macro_rules | `(tactic| walk_at "ln") => `(tactic| first | decide | omega | exact Nat.le_of_ble_eq_true rfl | (simp only [List.length_append, List.length_map, List.length_cons, List.length_nil, List.length_flatMap]; omega))
local macro_rules | `(tactic| walk_at "ty") => `(tactic| first | with_reducible assumption | with_reducible exact .base (.int _) | with_reducible exact .base (.str _) | with_reducible exact .base (.bl _) | with_reducible exact .base .non | ((with_reducible refine' TyX.base (TyOf.lst ?ha)); (case ha => walk_at "gt")) | ((with_reducible refine' TyX.base (TyOf.tup ?ha)); (case ha => walk_at "gt")) | ((with_reducible refine' TyX.base (TyOf.dK ?ha)); (case ha => walk_at "gt")) | ((with_reducible refine' ty_new ?ha ?hb); (case hb => with_reducible assumption); (case ha => walk_at "ty")) | ((with_reducible refine' ty_sm ?hb ?ha); (case hb => with_reducible assumption); (case ha => walk_at "ty")))
local macro_rules | `(tactic| walk_at "kb") => `(tactic| first | with_reducible assumption | exact kb_str_str | exact kb_int_str | exact kb_list_str | exact kb_tuple_str | exact kb_bool_str | exact kb_NoneType_str | exact kb_dict_str | exact kb_str_int | exact kb_int_int | exact kb_list_int | exact kb_tuple_int | exact kb_bool_int | exact kb_NoneType_int | exact kb_dict_int | exact kb_str_bool | exact kb_int_bool | exact kb_list_bool | exact kb_tuple_bool | exact kb_bool_bool | exact kb_NoneType_bool | exact kb_dict_bool | exact kb_str_list | exact kb_int_list | exact kb_list_list | exact kb_tuple_list | exact kb_bool_list | exact kb_NoneType_list | exact kb_dict_list | exact kb_str_tuple | exact kb_int_tuple | exact kb_list_tuple | exact kb_tuple_tuple | exact kb_bool_tuple | exact kb_NoneType_tuple | exact kb_dict_tuple | exact kb_str_dict | exact kb_int_dict | exact kb_list_dict | exact kb_tuple_dict | exact kb_bool_dict | exact kb_NoneType_dict | exact kb_dict_dict)
local macro_rules | `(tactic| walk_at "wk") => `(tactic| first | with_reducible assumption | ((with_reducible refine' WkAt.new ?ha ?hb); (case hb => with_reducible assumption); (case ha => walk_at "wk")) | ((with_reducible refine' WkAt.sm ?hb ?ha); (case hb => with_reducible assumption); (case ha => walk_at "wk")) | ((with_reducible refine' WkAt.dr ?hb ?hc ?ha); (case hb => with_reducible assumption); (case hc => with_reducible assumption); (case ha => walk_at "wk")))
local macro_rules | `(tactic| walk_at "ed") => `(tactic| first | with_reducible assumption | ((with_reducible refine' EdAt.new ?ha ?hb); (case hb => with_reducible assumption); (case ha => walk_at "ed")) | ((with_reducible refine' EdAt.sm ?hb ?ha); (case hb => with_reducible assumption); (case ha => walk_at "ed")) | ((with_reducible refine' EdAt.dr ?hb ?hc ?ha); (case hb => with_reducible assumption); (case hc => with_reducible assumption); (case ha => walk_at "ed")))
local macro_rules | `(tactic| walk_at "pl") => `(tactic| first | with_reducible assumption | ((with_reducible refine' PlAt.new ?ha ?hb); (case hb => with_reducible assumption); (case ha => walk_at "pl")) | ((with_reducible refine' PlAt.sm ?hb ?ha); (case hb => with_reducible assumption); (case ha => walk_at "pl")) | ((with_reducible refine' PlAt.dr ?hb ?hc ?ha); (case hb => with_reducible assumption); (case hc => with_reducible assumption); (case ha => walk_at "pl")))
local macro_rules | `(tactic| walk_at "fl") => `(tactic| first | with_reducible assumption | ((with_reducible refine' WkAt.rows ?hT ?hW); (case hT => assumption); (case hW => walk_at "wk")) | ((with_reducible refine' WkAt.name ?hT ?hW); (case hT => assumption); (case hW => walk_at "wk")) | ((with_reducible refine' EdAt.work ?hT ?hW); (case hT => assumption); (case hW => walk_at "ed")) | ((with_reducible refine' EdAt.nums ?hT ?hW); (case hT => assumption); (case hW => walk_at "ed")) | ((with_reducible refine' PlAt.edition ?hT ?hW); (case hT => assumption); (case hW => walk_at "pl")) | ((with_reducible refine' PlAt.count ?hT ?hW); (case hT => assumption); (case hW => walk_at "pl")))
local macro_rules | `(tactic| walk_at "mt") => `(tactic| first | with_reducible assumption | ((with_reducible refine' WkAt.mt ?hn1 ?hn2 ?hW); (case hW => walk_at "wk"); (case hn1 => decide +kernel); (case hn2 => decide +kernel)) | ((with_reducible refine' EdAt.mt ?hn1 ?hn2 ?hW); (case hW => walk_at "ed"); (case hn1 => decide +kernel); (case hn2 => decide +kernel)) | ((with_reducible refine' PlAt.mt ?hn1 ?hn2 ?hW); (case hW => walk_at "pl"); (case hn1 => decide +kernel); (case hn2 => decide +kernel)))
local macro_rules | `(tactic| walk_at "is") => `(tactic| first | with_reducible assumption | ((with_reducible refine' WkAt.is ?hW); (case hW => walk_at "wk")) | ((with_reducible refine' EdAt.is ?hW); (case hW => walk_at "ed")) | ((with_reducible refine' PlAt.is ?hW); (case hW => walk_at "pl")))
local macro_rules | `(tactic| walk_at "ic") => `(tactic| first
  | ((with_reducible show CMul _ _); first | exact Or.inl ⟨by decide, by decide⟩ | exact Or.inr ⟨by decide, by decide⟩ | exact Or.inl ⟨by omega, by omega⟩ | exact Or.inr ⟨by omega, by omega⟩)
  | ((with_reducible show CDiv _ _); first | exact ⟨by decide, by decide⟩ | exact ⟨by omega, by omega⟩)
  | ((with_reducible show CPow _ _); first | exact ⟨by decide, by decide, by decide⟩ | exact ⟨by decide, by decide, by omega⟩)
  | (show (0 : Int) < _; first | decide | omega))
local macro_rules | `(tactic| walk_at "s1") => `(tactic| first
  | with_reducible refine k_seq ?_
  | with_reducible refine k_set ?_
  | with_reducible refine k_asg ?_
  | with_reducible refine k_par ?_
  | with_reducible refine k_par2 ?_
  | with_reducible refine k_drop ?_
  | with_reducible refine k_ret ?_
  | with_reducible refine k_next ?_
  | with_reducible refine k_if ?_
  | ((with_reducible refine' k_aug ?hv ?_); (case hv => exact rfl))
  | with_reducible refine k_ipI ?_
  | with_reducible refine k_gname ?_
  | with_reducible refine k_gsub ?_
  | ((with_reducible refine' k_gtup ?hv ?hw ?_); (case hv => walk_at "st"); (case hw => rfl))
  | with_reducible refine k_gcons ?_
  | with_reducible refine k_gnil ?_
  | with_reducible refine k_test ?_
  | with_reducible refine k_B ?_
  | with_reducible refine k_blE ?_
  | with_reducible refine k_and ?_
  | with_reducible refine k_or ?_
  | with_reducible refine k_not ?_
  | with_reducible refine iteT ?_
  | with_reducible refine iteF ?_
  | with_reducible refine iteNT ?_
  | with_reducible refine iteNF ?_
  | ((with_reducible refine' k_var ?hv ?_); (case hv => exact rfl))
  | with_reducible refine k_c ?_
  | with_reducible refine k_op ?_
  | with_reducible refine k_un ?_
  | with_reducible refine k_U ?_
  | with_reducible refine k_I0 ?_
  | ((with_reducible refine' k_I ?hv ?_); (case hv => walk_at "ic"))
  | with_reducible refine k_eqI ?_
  | with_reducible refine k_neI ?_
  | with_reducible refine k_eqS ?_
  | with_reducible refine k_neS ?_
  | with_reducible refine k_eqB ?_
  | with_reducible refine k_neB ?_
  | with_reducible refine k_for ?_
  | with_reducible refine k_iE ?_
  | with_reducible refine k_iA ?_
  | ((with_reducible refine' k_itl ?hv ?_); (case hv => walk_at "sl"))
  | ((with_reducible refine' k_itt ?hv ?_); (case hv => walk_at "st"))
  | with_reducible refine k_its ?_
  | ((with_reducible refine' k_rg1n ?hv ?_); (case hv => first | decide | omega))
  | ((with_reducible refine' k_rg1 ?hv ?hw ?_); (case hv => first | decide | omega); (case hw => first | decide | omega))
  | ((with_reducible refine' k_inS ?hv ?_); (case hv => walk_at "sa"))
  | ((with_reducible refine' k_inI ?hv ?_); (case hv => walk_at "sa"))
  | ((with_reducible refine' k_ninS ?hv ?_); (case hv => walk_at "sa"))
  | ((with_reducible refine' k_ninI ?hv ?_); (case hv => walk_at "sa"))
  | ((with_reducible refine' k_zipl ?hv ?hw ?_); (case hv => walk_at "sl"); (case hw => walk_at "sl"))
  | with_reducible refine k_nil ?_
  | with_reducible refine k_cons ?_
  | with_reducible refine k_cb ?_
  | with_reducible refine k_call ?_
  | with_reducible refine k_lst ?_
  | with_reducible refine k_tup ?_
  | with_reducible refine k_ifx ?_
  | with_reducible refine k_andv ?_
  | with_reducible refine k_orv ?_
  | with_reducible refine k_notv ?_
  | with_reducible refine k_inti ?_
  | with_reducible refine k_intb ?_
  | with_reducible refine k_sl ?_
  | with_reducible refine k_nopart ?_
  | with_reducible refine k_part ?_
  | with_reducible refine k_parti ?_
  | ((with_reducible refine' k_lenl ?hv ?_); (case hv => walk_at "sl"))
  | ((with_reducible refine' k_lent ?hv ?_); (case hv => walk_at "st"))
  | ((with_reducible refine' k_lens ?hv ?_); (case hv => exact szl (by walk_at "ln")))
  | ((with_reducible refine' k_lena ?hv ?_); (case hv => walk_at "sa"))
  | ((with_reducible refine' k_ixl ?hv ?hn ?_); (case hv => walk_at "sl"); (case hn => first | rfl | assumption))
  | ((with_reducible refine' k_ixt ?hv ?hn ?_); (case hv => walk_at "st"); (case hn => first | rfl | assumption))
  | ((with_reducible refine' k_ixa ?hv ?hn ?_); (case hv => walk_at "sa"); (case hn => first | rfl | assumption))
  | with_reducible refine k_chain ?_
  | ((with_reducible refine' k_isi ?hv ?hw ?_); (case hv => walk_at "ty"); (case hw => walk_at "kb"))
  | ((with_reducible refine' k_isi2 ?hb ?hp ?hv ?hw ?hx ?_); (case hp => walk_at "gt"); (case hv => walk_at "ty"); (case hw => walk_at "kb"); (case hx => walk_at "kb"); (case hb => first | exact or_t | exact or_f))
  | ((with_reducible refine' k_all ?hv ?_); (case hv => walk_at "gt"))
  | ((with_reducible refine' k_any ?hv ?_); (case hv => walk_at "gt"))
  | with_reducible refine k_insign ?_
  | with_reducible refine k_fldR ?_
  | ((with_reducible refine' k_fl ?hv ?_); (case hv => walk_at "fl"))
  | with_reducible refine k_sfld ?_
  | with_reducible refine k_meth ?_
  | ((with_reducible refine' k_mt ?hv ?_); (case hv => walk_at "mt"))
  | with_reducible refine k_make ?_
  | ((with_reducible refine' k_own ?hv ?hw ?_); (case hv => walk_at "is"); (case hw => walk_at "is"))
  | ((with_reducible refine' k_ownin ?hv ?_); (case hv => walk_at "is"))
  | ((with_reducible refine' k_lenO ?hv ?_); (case hv => walk_at "is"))
  | with_reducible refine k_prop ?_
  | ((with_reducible refine' k_pr ?hv ?_); (case hv => walk_at "is"))
  | ((with_reducible refine' k_ownI ?hv ?_); (case hv => walk_at "is"))
  | ((with_reducible refine' k_ownR ?hv ?_); (case hv => walk_at "is"))
  | with_reducible refine k_mx ?_
  | with_reducible refine k_mn ?_
  | with_reducible refine k_lrg ?_
  | with_reducible refine k_rgt ?_
  | with_reducible refine k_rgti ?_
  | with_reducible refine k_bm ?_
  | with_reducible refine k_bm0 ?_
  | with_reducible refine k_tys ?_
  | ((with_reducible refine' k_tyl ?hv ?_); (case hv => walk_at "sl"))
  | ((with_reducible refine' k_ext ?hv ?hw ?hn ?_); (case hv => walk_at "gt"); (case hw => walk_at "gt"); (case hn => walk_at "ln"))
  | ((with_reducible refine' k_app ?hv ?hn ?_); (case hv => walk_at "gt"); (case hn => walk_at "ln"))
  | ((with_reducible refine' k_popat ?hv ?hn ?hw ?_); (case hv => walk_at "gt"); (case hn => with_reducible assumption); (case hw => walk_at "ln"))
  | with_reducible refine k_lc ?_
  | with_reducible refine k_yes0 ?_
  | ((with_reducible show wipe _ _ = wipe _ _ ∧ _); refine ⟨rfl, ?_⟩)
  | ((with_reducible refine' k_adds ?hv ?_); (case hv => walk_at "ln"))
  | ((with_reducible refine' k_st1 ?hv ?_); (case hv => walk_at "gt"))
  | ((with_reducible refine' k_st2 ?hv ?_); (case hv => walk_at "gt"))
  | ((with_reducible refine' k_st3 ?hv ?_); (case hv => walk_at "gt"))
  | ((with_reducible refine' k_setl ?hv ?hn ?_); (case hv => walk_at "gt"); (case hn => rfl)))
local macro_rules | `(tactic| walk_at "put") => `(tactic| ((refine' ⟨_, ?ha, sz ?hb, ?_⟩); (case ha => walk_at "gt"); (case hb => walk_at "ln")))
local macro_rules | `(tactic| walk_at "go") => `(tactic| repeat (walk_at "s1"))
section
set_option maxRecDepth 100000
set_option maxHeartbeats 2000000

abbrev s_law_all_words : Stmt := top 25
theorem sc_law_all_words : FnScope ["_law_found", "_law_x", "_law_y"] [] (defScope s_law_all_words) := ⟨rfl, rfl, rfl, by decide +kernel, rfl, by decide +kernel, by decide +kernel⟩
abbrev s_law_some_words : Stmt := top 26
theorem sc_law_some_words : FnScope ["_law_state", "_law_many", "_law_left", "_law_found", "_law_k"] ["_law_state", "_law_many"] (defScope s_law_some_words) := ⟨rfl, rfl, rfl, by decide +kernel, rfl, by decide +kernel, by decide +kernel⟩
def aw0 : List Str := ["a", "b", "k", "zz", "abcdefgh"]
def awL : List Nat := (Str.ofString "abcdef").cps.toList
def awR : List Nat := (Str.ofString "ghijklmnop").cps.toList
def awRow (c : Nat) : List Str := awR.map fun d => (⟨#[c]⟩ : Str) ++ (⟨#[d]⟩ : Str)
def allWords : List Str := aw0 ++ awL.flatMap awRow
theorem all_nodup : allWords.Nodup := by decide +kernel
theorem all_len : allWords.length = 65 := by decide +kernel
section
variable {P : Program} {w : World} {K : PySem.W.Frag} {mg : Str → Option Value} {base : Heap}
def spAllWords : Sp := fun vs H Q _ => vs = [] ∧ ∀ l H', Same H H' → H l = none → H' l = some (.lst (allWords.map V.str)) → Q (.ref l) H'
theorem ok_all_words (D : Def K mg "_law_all_words" s_law_all_words) : Cal P w K mg base 1 "_law_all_words" [] spAllWords := by
  refine Cal.of D sc_law_all_words (fun _ _ _ _ _ _ us hl => match us, hl with | [], _ => rfl) (fun vs H Q E h => ?_) (fun f cdv A outer s H vs Q E hr h => ?_)
  · obtain ⟨rfl, _⟩ := h; rfl
  · obtain ⟨rfl, k⟩ := h
    refine ⟨_, (pss_cons (ps_set (i := 0) sc_law_all_words.nd rfl (Or.inl rfl) (pe_lst (pa_cons pe_str (pa_cons pe_str (pa_cons pe_str (pa_cons pe_str (pa_cons pe_str pa_nil)))))))
      (pss_cons (ps_for PassesOwn.never rfl (p_str pe_str) (pg_name (i := 1) sc_law_all_words.nd rfl (Or.inr rfl)) (pss_one (ps_expr (e_bm K PySem.F.plainAttrs_list PySem.F.slot_list_extend PySem.F.type_list_extend mt_extend (pv 0) (pa_cons (pe_lc (own := [("_law_y", 2)]) (g := (gName 2)) rfl sc_law_all_words.nd (p_str pe_str) (blkOk_by (own := [("_law_y", 2)]) (N := ["_law_found", "_law_x", "_law_y"]) (sc := defScope s_law_all_words) (by decide +kernel)) (fun _ _ _ _ _ => (pg_name (i := 2) sc_law_all_words.nd rfl (Or.inl rfl) (.inr rfl))) (fun _ _ _ _ _ => pts_nil) (fun _ _ _ _ _ => (pe_op o_adds (pv 1) (pv 2)))) pa_nil)))))
      (pss_one (ps_ret (pv 0))))), ?_⟩
    walk_at "go"
    refine ⟨Nat.le_of_ble_eq_true rfl, fun l nl => ?_⟩
    walk_at "go"
    refine for_w (walk_str (z := "abcdef")) (fun i σ' H' => ∃ v1 v2, σ' = [some (.ref l), v1, v2] ∧ Same H H' ∧ H' l = some (.lst ((aw0 ++ (awL.take i).flatMap awRow).map V.str))) ⟨_, _, rfl, Same.new (Same.refl H) nl, upd_same⟩ (fun _ _ _ _ _ => trivial) ?_ ?_
    · rintro i x σ' H1 H2 hi ⟨v1, v2, rfl, S1, h1⟩ ⟨rfl, c, hc, rfl⟩
      have hi6 : i < 6 := hi
      have hc' : awL[i]? = some c := by simpa [awL] using hc
      walk_at "go"
      refine lc_w (walk_str (z := "ghijklmnop")) (fun D j H' => Same H2 H' ∧ H' D = some (.lst (((awR.take j).map fun d => (⟨#[c]⟩ : Str) ++ (⟨#[d]⟩ : Str)).map V.str))) (fun D nD => ⟨Same.new (Same.refl _) nD, upd_same⟩) (fun _ _ _ _ _ _ => trivial) ?_ ?_
      · rintro D j y H3 H4 nD hj ⟨S3, h3⟩ ⟨rfl, d, hd, rfl⟩
        have hj10 : j < 10 := hj
        have hd' : awR[j]? = some d := by simpa [awR] using hd
        walk_at "go"
        have e := List.take_add_one (l := awR) (i := j)
        rw [hd'] at e
        have hlen : (awR.take j).length ≤ 10 := Nat.le_trans (List.length_take_le _ _) (by omega)
        refine ⟨_, h3, sz (by rw [List.length_map, List.length_map]; omega), Same.mut S3 nD, ?_⟩
        rw [upd_same, e]
        simp
      · rintro D H3 nD ⟨S3, h3⟩
        have e10 : (awR.take (Str.ofString "ghijklmnop").cps.size) = awR := by decide +kernel
        rw [e10] at h3
        have h1' := S3 _ _ h1
        have hlen : (List.map V.str (aw0 ++ (List.take i awL).flatMap awRow)).length + (List.map V.str (List.map (fun d => (⟨#[c]⟩ : Str) ++ (⟨#[d]⟩ : Str)) awR)).length < 100000 := by
          rw [List.length_map, List.length_map, List.length_map, List.length_append]
          have : ((awL.take i).flatMap awRow).length ≤ 60 := by
            have : i = 0 ∨ i = 1 ∨ i = 2 ∨ i = 3 ∨ i = 4 ∨ i = 5 := by omega
            rcases this with h | h | h | h | h | h <;> subst h <;> decide +kernel
          have h5 : aw0.length = 5 := rfl
          have h10 : awR.length = 10 := by decide +kernel
          omega
        walk_at "go"
        refine ⟨_, _, rfl, ?_, ?_⟩
        · exact Same.mut (S1.trans S3) nl
        · rw [upd_same, List.take_add_one, hc']
          simp [awRow]
    · rintro σ' H1 ⟨v1, v2, rfl, S1, h1⟩
      have e6 : (awL.take (Str.ofString "abcdef").cps.size) = awL := by decide +kernel
      rw [e6] at h1
      walk_at "go"
      exact k l H1 S1 nl h1

theorem map_erase {α β : Type} {f : α → β} : ∀ (l : List α) (n : Nat), (l.map f).eraseIdx n = (l.eraseIdx n).map f
  | [], n => rfl
  | a :: l, 0 => rfl
  | a :: l, n + 1 => by
    show f a :: (l.map f).eraseIdx n = f a :: (l.eraseIdx n).map f
    rw [map_erase l n]
theorem perm_erase {α : Type} : ∀ (l : List α) (n : Nat) (h : n < l.length), (l[n] :: l.eraseIdx n).Perm l
  | [], n, h => absurd h (Nat.not_lt_zero n)
  | a :: l, 0, h => List.Perm.refl _
  | a :: l, n + 1, h => by
    have h' : n < l.length := Nat.lt_of_succ_lt_succ h
    show (l[n] :: a :: l.eraseIdx n).Perm (a :: l)
    exact (List.Perm.swap a l[n] _).trans ((perm_erase l n h').cons a)
/-- n of the words, no two alike -/
def Words (ws : List Str) (n : Nat) : Prop := ws.length = n ∧ ∃ rest, (ws ++ rest).Perm allWords
theorem Words.nodup {ws : List Str} {n : Nat} (h : Words ws n) : ws.Nodup := by
  obtain ⟨_, rest, p⟩ := h
  exact (List.nodup_append.mp (p.nodup_iff.mpr all_nodup)).1
theorem Words.mem {ws : List Str} {n : Nat} (h : Words ws n) {x : Str} (hx : x ∈ ws) : x ∈ allWords := by
  obtain ⟨_, rest, p⟩ := h
  exact p.mem_iff.mp (List.mem_append_left _ hx)
def spSomeWords : Sp := fun vs H Q _ => ∃ (S : Ds) (n : Nat), vs = [.ref S.st, .int (n : Nat)] ∧ Dr H S ∧ n ≤ 60 ∧
  ∀ ws l H', Words ws n → Fr S.st H H' → H l = none → Dr H' S → H' l = some (.lst (ws.map V.str)) → Q (.ref l) H'
theorem ok_some_words (B : Bn mg) (C_law_all_words : Cal P w K mg base 1 "_law_all_words" [] spAllWords) (C_law_take : Cal P w K mg base 2 "_law_take" ["_law_state", "_law_many"] spTake) (D : Def K mg "_law_some_words" s_law_some_words) :
    Cal P w K mg base 3 "_law_some_words" ["_law_state", "_law_many"] spSomeWords := by
  refine Cal.of D sc_law_some_words (fun _ _ _ _ _ _ us hl => match us, hl with | [_, _], _ => rfl) (fun vs H Q E h => ?_) (fun f cdv A outer s H vs Q E hr h => ?_)
  · obtain ⟨_, _, rfl, _⟩ := h; rfl
  · obtain ⟨S, n, rfl, D0, hn, k⟩ := h
    refine ⟨_, (pss_cons (ps_par (i := 2) (j := 3) (by rfl) sc_law_some_words.nd rfl rfl (by decide) rfl rfl (pa_cons (pe_fn0 C_law_all_words hr (by decide)) (pa_cons (pe_lst pa_nil) pa_nil)) (by rfl))
      (pss_cons (ps_for PassesOwn.never rfl (p_range1 B.range (pa_cons (pv 1) pa_nil)) (pg_name (i := 4) sc_law_some_words.nd rfl (Or.inl rfl)) (pss_one (ps_expr (e_bm K PySem.F.plainAttrs_list PySem.F.slot_list_append PySem.F.type_list_append mt_append (pv 3) (pa_cons (e_bm K PySem.F.plainAttrs_list PySem.F.slot_list_pop PySem.F.type_list_pop mt_popAt (pv 2) (pa_cons (pe_fn C_law_take hr (by decide) (pa_cons (pv 0) (pa_cons (pe_callB (n_len K) (by rfl) B.len PySem.boot_len (pa_cons (pv 2) pa_nil)) pa_nil))) pa_nil)) pa_nil)))))
      (pss_one (ps_ret (pv 3))))), ?_⟩
    walk_at "go"
    refine ⟨rfl, fun l0 H1 S1 n0 h0 => ?_⟩
    walk_at "go"
    refine ⟨Nat.le_of_ble_eq_true rfl, fun l1 n1 => ?_⟩
    have n1' : H l1 = none := S1.free n1
    have ne01 : l0 ≠ l1 := ne_of_none h0 n1
    have ns0 : l0 ≠ S.st := D0.ne n0
    have ns1 : l1 ≠ S.st := D0.ne n1'
    walk_at "go"
    refine for_w walk_range (fun i σ' H' => ∃ got rest v, σ' = [some (.ref S.st), some (.int (n : Nat)), some (.ref l0), some (.ref l1), v] ∧ Fr S.st H H' ∧ Dr H' S ∧ H' l1 = some (.lst (got.map V.str)) ∧ H' l0 = some (.lst (rest.map V.str)) ∧ (got ++ rest).Perm allWords ∧ got.length = i)
      ⟨[], allWords, none, rfl, Fr.new (Lf.Same.fr S1) n1, (D0.same S1).new n1, upd_same, upd_new h0 n1, List.Perm.refl _, rfl⟩ (fun _ _ _ _ _ => trivial) ?_ ?_
    · rintro i x σ' H2 H3 hi ⟨got, rest, v, rfl, F2, D2, g1, g0, hp, hg⟩ ⟨rfl, rfl⟩
      have hl : got.length + rest.length = 65 := by
        have := hp.length_eq
        rw [List.length_append, all_len] at this
        exact this
      have hlr : (rest.map V.str).length = rest.length := List.length_map _
      walk_at "go"
      refine ⟨S, _, rfl, D2, by omega, by omega, fun d H4 hd F4 D4 => ?_⟩
      have hd' : d < rest.length := by omega
      have e : (rest.map V.str)[d]? = some (.str rest[d]) := by
        rw [List.getElem?_map, List.getElem?_eq_getElem hd']; rfl
      have g0' := F4 _ _ ns0 g0
      have g1' := F4 _ _ ns1 g1
      walk_at "go"
      refine ⟨got ++ [rest[d]], rest.eraseIdx d, _, rfl, Fr.mut (Fr.mut (F2.trans F4) n0) n1', (D4.mut D0 n0).mut D0 n1', ?_, ?_, ?_, ?_⟩
      · rw [upd_same, List.map_append]; rfl
      · rw [upd_ne ne01, upd_same, map_erase]
      · refine List.Perm.trans ?_ hp
        rw [List.append_assoc]
        exact List.Perm.append_left _ (perm_erase _ _ hd')
      · rw [List.length_append, hg]; rfl
    · rintro σ' H2 ⟨got, rest, v, rfl, F2, D2, g1, g0, hp, hg⟩
      walk_at "go"
      exact k got l1 H2 ⟨hg, rest, hp⟩ F2 n1' D2 g1
end
end
/-! Editions are made; the law's own makers; at the level of data. -/
end Lf
namespace Lf
open PySem L2
local macro_rules | `(tactic| walk_at "nq") => `(tactic| first | with_reducible assumption | with_reducible exact Ne.symm (by assumption) | with_reducible exact ne_of_none (by assumption) (by assumption) | with_reducible exact Ne.symm (ne_of_none (by assumption) (by assumption)))
local macro_rules | `(tactic| walk_at "gt") => `(tactic| first | with_reducible assumption | with_reducible exact upd_same | ((with_reducible refine' upd_new ?ha ?hb); (case hb => with_reducible assumption); (case ha => walk_at "gt")) | ((with_reducible refine' upd_old ?ha ?hb); (case hb => walk_at "nq"); (case ha => walk_at "gt")) | ((with_reducible refine' sm_get ?hb ?ha); (case hb => with_reducible assumption); (case ha => walk_at "gt")) | ((with_reducible refine' fr_get ?hb ?ha ?hc); (case hb => with_reducible assumption); (case hc => walk_at "nq"); (case ha => walk_at "gt")))
local macro_rules | `(tactic| walk_at "sl") => `(tactic| first | with_reducible assumption | ((with_reducible refine' sl_of ?ha); (case ha => walk_at "gt")) | ((with_reducible refine' sl_new ?ha ?hb); (case hb => with_reducible assumption); (case ha => walk_at "sl")) | ((with_reducible refine' sl_sm ?hb ?ha); (case hb => with_reducible assumption); (case ha => walk_at "sl")) | ((with_reducible refine' sl_fr ?hb ?hc ?ha); (case hb => with_reducible assumption); (case hc => walk_at "nq"); (case ha => walk_at "sl")))
local macro_rules | `(tactic| walk_at "st") => `(tactic| first | with_reducible assumption | ((with_reducible refine' st_of ?ha); (case ha => walk_at "gt")) | ((with_reducible refine' st_new ?ha ?hb); (case hb => with_reducible assumption); (case ha => walk_at "st")) | ((with_reducible refine' st_sm ?hb ?ha); (case hb => with_reducible assumption); (case ha => walk_at "st")) | ((with_reducible refine' st_fr ?hb ?hc ?ha); (case hb => with_reducible assumption); (case hc => walk_at "nq"); (case ha => walk_at "st")))
local macro_rules | `(tactic| walk_at "sa") => `(tactic| first | with_reducible assumption | ((with_reducible refine' sa_l ?ha); (case ha => walk_at "gt")) | ((with_reducible refine' sa_t ?ha); (case ha => walk_at "gt")) | ((with_reducible refine' sa_new ?ha ?hb); (case hb => with_reducible assumption); (case ha => walk_at "sa")) | ((with_reducible refine' sa_sm ?hb ?ha); (case hb => with_reducible assumption); (case ha => walk_at "sa")) | ((with_reducible refine' sa_fr ?hb ?hc ?ha); (case hb => with_reducible assumption); (case hc => walk_at "nq"); (case ha => walk_at "sa")) | ((with_reducible refine' Or.inl ?ha); (case ha => walk_at "sl")) | ((with_reducible refine' Or.inr ?ha); (case ha => walk_at "st")))
local macro_rules | `(tactic| walk_at "ln") => `(tactic| first | decide | omega | exact Nat.le_of_ble_eq_true rfl | (simp only [List.length_append, List.length_map, List.length_cons, List.length_nil, List.length_flatMap]; omega))
local macro_rules | `(tactic| walk_at "ty") => `(tactic| first | with_reducible assumption | with_reducible exact .base (.int _) | with_reducible exact .base (.str _) | with_reducible exact .base (.bl _) | with_reducible exact .base .non | ((with_reducible refine' TyX.base (TyOf.lst ?ha)); (case ha => walk_at "gt")) | ((with_reducible refine' TyX.base (TyOf.tup ?ha)); (case ha => walk_at "gt")) | ((with_reducible refine' TyX.base (TyOf.dK ?ha)); (case ha => walk_at "gt")) | ((with_reducible refine' ty_new ?ha ?hb); (case hb => with_reducible assumption); (case ha => walk_at "ty")) | ((with_reducible refine' ty_sm ?hb ?ha); (case hb => with_reducible assumption); (case ha => walk_at "ty")))
local macro_rules | `(tactic| walk_at "kb") => `(tactic| first | with_reducible assumption | exact kb_str_str | exact kb_int_str | exact kb_list_str | exact kb_tuple_str | exact kb_bool_str | exact kb_NoneType_str | exact kb_dict_str | exact kb_str_int | exact kb_int_int | exact kb_list_int | exact kb_tuple_int | exact kb_bool_int | exact kb_NoneType_int | exact kb_dict_int | exact kb_str_bool | exact kb_int_bool | exact kb_list_bool | exact kb_tuple_bool | exact kb_bool_bool | exact kb_NoneType_bool | exact kb_dict_bool | exact kb_str_list | exact kb_int_list | exact kb_list_list | exact kb_tuple_list | exact kb_bool_list | exact kb_NoneType_list | exact kb_dict_list | exact kb_str_tuple | exact kb_int_tuple | exact kb_list_tuple | exact kb_tuple_tuple | exact kb_bool_tuple | exact kb_NoneType_tuple | exact kb_dict_tuple | exact kb_str_dict | exact kb_int_dict | exact kb_list_dict | exact kb_tuple_dict | exact kb_bool_dict | exact kb_NoneType_dict | exact kb_dict_dict)
local macro_rules | `(tactic| walk_at "wk") => `(tactic| first | with_reducible assumption | ((with_reducible refine' WkAt.new ?ha ?hb); (case hb => with_reducible assumption); (case ha => walk_at "wk")) | ((with_reducible refine' WkAt.sm ?hb ?ha); (case hb => with_reducible assumption); (case ha => walk_at "wk")) | ((with_reducible refine' WkAt.dr ?hb ?hc ?ha); (case hb => with_reducible assumption); (case hc => with_reducible assumption); (case ha => walk_at "wk")))
local macro_rules | `(tactic| walk_at "ed") => `(tactic| first | with_reducible assumption | ((with_reducible refine' EdAt.new ?ha ?hb); (case hb => with_reducible assumption); (case ha => walk_at "ed")) | ((with_reducible refine' EdAt.sm ?hb ?ha); (case hb => with_reducible assumption); (case ha => walk_at "ed")) | ((with_reducible refine' EdAt.dr ?hb ?hc ?ha); (case hb => with_reducible assumption); (case hc => with_reducible assumption); (case ha => walk_at "ed")))
local macro_rules | `(tactic| walk_at "pl") => `(tactic| first | with_reducible assumption | ((with_reducible refine' PlAt.new ?ha ?hb); (case hb => with_reducible assumption); (case ha => walk_at "pl")) | ((with_reducible refine' PlAt.sm ?hb ?ha); (case hb => with_reducible assumption); (case ha => walk_at "pl")) | ((with_reducible refine' PlAt.dr ?hb ?hc ?ha); (case hb => with_reducible assumption); (case hc => with_reducible assumption); (case ha => walk_at "pl")))
local macro_rules | `(tactic| walk_at "fl") => `(tactic| first | with_reducible assumption | ((with_reducible refine' WkAt.rows ?hT ?hW); (case hT => assumption); (case hW => walk_at "wk")) | ((with_reducible refine' WkAt.name ?hT ?hW); (case hT => assumption); (case hW => walk_at "wk")) | ((with_reducible refine' EdAt.work ?hT ?hW); (case hT => assumption); (case hW => walk_at "ed")) | ((with_reducible refine' EdAt.nums ?hT ?hW); (case hT => assumption); (case hW => walk_at "ed")) | ((with_reducible refine' PlAt.edition ?hT ?hW); (case hT => assumption); (case hW => walk_at "pl")) | ((with_reducible refine' PlAt.count ?hT ?hW); (case hT => assumption); (case hW => walk_at "pl")))
local macro_rules | `(tactic| walk_at "mt") => `(tactic| first | with_reducible assumption | ((with_reducible refine' WkAt.mt ?hn1 ?hn2 ?hW); (case hW => walk_at "wk"); (case hn1 => decide +kernel); (case hn2 => decide +kernel)) | ((with_reducible refine' EdAt.mt ?hn1 ?hn2 ?hW); (case hW => walk_at "ed"); (case hn1 => decide +kernel); (case hn2 => decide +kernel)) | ((with_reducible refine' PlAt.mt ?hn1 ?hn2 ?hW); (case hW => walk_at "pl"); (case hn1 => decide +kernel); (case hn2 => decide +kernel)))
local macro_rules | `(tactic| walk_at "is") => `(tactic| first | with_reducible assumption | ((with_reducible refine' WkAt.is ?hW); (case hW => walk_at "wk")) | ((with_reducible refine' EdAt.is ?hW); (case hW => walk_at "ed")) | ((with_reducible refine' PlAt.is ?hW); (case hW => walk_at "pl")))
local macro_rules | `(tactic| walk_at "ic") => `(tactic| first
  | ((with_reducible show CMul _ _); first | exact Or.inl ⟨by decide, by decide⟩ | exact Or.inr ⟨by decide, by decide⟩ | exact Or.inl ⟨by omega, by omega⟩ | exact Or.inr ⟨by omega, by omega⟩)
  | ((with_reducible show CDiv _ _); first | exact ⟨by decide, by decide⟩ | exact ⟨by omega, by omega⟩)
  | ((with_reducible show CPow _ _); first | exact ⟨by decide, by decide, by decide⟩ | exact ⟨by decide, by decide, by omega⟩)
  | (show (0 : Int) < _; first | decide | omega))
local macro_rules | `(tactic| walk_at "s1") => `(tactic| first
  | with_reducible refine k_seq ?_
  | with_reducible refine k_set ?_
  | with_reducible refine k_asg ?_
  | with_reducible refine k_par ?_
  | with_reducible refine k_par2 ?_
  | with_reducible refine k_drop ?_
  | with_reducible refine k_ret ?_
  | with_reducible refine k_next ?_
  | with_reducible refine k_if ?_
  | ((with_reducible refine' k_aug ?hv ?_); (case hv => exact rfl))
  | with_reducible refine k_ipI ?_
  | with_reducible refine k_gname ?_
  | with_reducible refine k_gsub ?_
  | ((with_reducible refine' k_gtup ?hv ?hw ?_); (case hv => walk_at "st"); (case hw => rfl))
  | with_reducible refine k_gcons ?_
  | with_reducible refine k_gnil ?_
  | with_reducible refine k_test ?_
  | with_reducible refine k_B ?_
  | with_reducible refine k_blE ?_
  | with_reducible refine k_and ?_
  | with_reducible refine k_or ?_
  | with_reducible refine k_not ?_
  | with_reducible refine iteT ?_
  | with_reducible refine iteF ?_
  | with_reducible refine iteNT ?_
  | with_reducible refine iteNF ?_
  | ((with_reducible refine' k_var ?hv ?_); (case hv => exact rfl))
  | with_reducible refine k_c ?_
  | with_reducible refine k_op ?_
  | with_reducible refine k_un ?_
  | with_reducible refine k_U ?_
  | with_reducible refine k_I0 ?_
  | ((with_reducible refine' k_I ?hv ?_); (case hv => walk_at "ic"))
  | with_reducible refine k_eqI ?_
  | with_reducible refine k_neI ?_
  | with_reducible refine k_eqS ?_
  | with_reducible refine k_neS ?_
  | with_reducible refine k_eqB ?_
  | with_reducible refine k_neB ?_
  | with_reducible refine k_for ?_
  | with_reducible refine k_iE ?_
  | with_reducible refine k_iA ?_
  | ((with_reducible refine' k_itl ?hv ?_); (case hv => walk_at "sl"))
  | ((with_reducible refine' k_itt ?hv ?_); (case hv => walk_at "st"))
  | with_reducible refine k_its ?_
  | ((with_reducible refine' k_rg1n ?hv ?_); (case hv => first | decide | omega))
  | ((with_reducible refine' k_rg1 ?hv ?hw ?_); (case hv => first | decide | omega); (case hw => first | decide | omega))
  | ((with_reducible refine' k_inS ?hv ?_); (case hv => walk_at "sa"))
  | ((with_reducible refine' k_inI ?hv ?_); (case hv => walk_at "sa"))
  | ((with_reducible refine' k_ninS ?hv ?_); (case hv => walk_at "sa"))
  | ((with_reducible refine' k_ninI ?hv ?_); (case hv => walk_at "sa"))
  | ((with_reducible refine' k_zipl ?hv ?hw ?_); (case hv => walk_at "sl"); (case hw => walk_at "sl"))
  | with_reducible refine k_nil ?_
  | with_reducible refine k_cons ?_
  | with_reducible refine k_cb ?_
  | with_reducible refine k_call ?_
  | with_reducible refine k_lst ?_
  | with_reducible refine k_tup ?_
  | with_reducible refine k_ifx ?_
  | with_reducible refine k_andv ?_
  | with_reducible refine k_orv ?_
  | with_reducible refine k_notv ?_
  | with_reducible refine k_inti ?_
  | with_reducible refine k_intb ?_
  | with_reducible refine k_sl ?_
  | with_reducible refine k_nopart ?_
  | with_reducible refine k_part ?_
  | with_reducible refine k_parti ?_
  | ((with_reducible refine' k_lenl ?hv ?_); (case hv => walk_at "sl"))
  | ((with_reducible refine' k_lent ?hv ?_); (case hv => walk_at "st"))
  | ((with_reducible refine' k_lens ?hv ?_); (case hv => exact szl (by walk_at "ln")))
  | ((with_reducible refine' k_lena ?hv ?_); (case hv => walk_at "sa"))
  | ((with_reducible refine' k_ixl ?hv ?hn ?_); (case hv => walk_at "sl"); (case hn => first | rfl | assumption))
  | ((with_reducible refine' k_ixt ?hv ?hn ?_); (case hv => walk_at "st"); (case hn => first | rfl | assumption))
  | ((with_reducible refine' k_ixa ?hv ?hn ?_); (case hv => walk_at "sa"); (case hn => first | rfl | assumption))
  | with_reducible refine k_chain ?_
  | ((with_reducible refine' k_isi ?hv ?hw ?_); (case hv => walk_at "ty"); (case hw => walk_at "kb"))
  | ((with_reducible refine' k_isi2 ?hb ?hp ?hv ?hw ?hx ?_); (case hp => walk_at "gt"); (case hv => walk_at "ty"); (case hw => walk_at "kb"); (case hx => walk_at "kb"); (case hb => first | exact or_t | exact or_f))
  | ((with_reducible refine' k_all ?hv ?_); (case hv => walk_at "gt"))
  | ((with_reducible refine' k_any ?hv ?_); (case hv => walk_at "gt"))
  | with_reducible refine k_insign ?_
  | with_reducible refine k_fldR ?_
  | ((with_reducible refine' k_fl ?hv ?_); (case hv => walk_at "fl"))
  | with_reducible refine k_sfld ?_
  | with_reducible refine k_meth ?_
  | ((with_reducible refine' k_mt ?hv ?_); (case hv => walk_at "mt"))
  | with_reducible refine k_make ?_
  | ((with_reducible refine' k_own ?hv ?hw ?_); (case hv => walk_at "is"); (case hw => walk_at "is"))
  | ((with_reducible refine' k_ownin ?hv ?_); (case hv => walk_at "is"))
  | ((with_reducible refine' k_lenO ?hv ?_); (case hv => walk_at "is"))
  | with_reducible refine k_prop ?_
  | ((with_reducible refine' k_pr ?hv ?_); (case hv => walk_at "is"))
  | ((with_reducible refine' k_ownI ?hv ?_); (case hv => walk_at "is"))
  | ((with_reducible refine' k_ownR ?hv ?_); (case hv => walk_at "is"))
  | with_reducible refine k_mx ?_
  | with_reducible refine k_mn ?_
  | with_reducible refine k_lrg ?_
  | with_reducible refine k_rgt ?_
  | with_reducible refine k_rgti ?_
  | with_reducible refine k_bm ?_
  | with_reducible refine k_bm0 ?_
  | with_reducible refine k_tys ?_
  | ((with_reducible refine' k_tyl ?hv ?_); (case hv => walk_at "sl"))
  | ((with_reducible refine' k_ext ?hv ?hw ?hn ?_); (case hv => walk_at "gt"); (case hw => walk_at "gt"); (case hn => walk_at "ln"))
  | ((with_reducible refine' k_app ?hv ?hn ?_); (case hv => walk_at "gt"); (case hn => walk_at "ln"))
  | ((with_reducible refine' k_popat ?hv ?hn ?hw ?_); (case hv => walk_at "gt"); (case hn => with_reducible assumption); (case hw => walk_at "ln"))
  | with_reducible refine k_lc ?_
  | with_reducible refine k_yes0 ?_
  | ((with_reducible show wipe _ _ = wipe _ _ ∧ _); refine ⟨rfl, ?_⟩)
  | ((with_reducible refine' k_adds ?hv ?_); (case hv => walk_at "ln"))
  | ((with_reducible refine' k_st1 ?hv ?_); (case hv => walk_at "gt"))
  | ((with_reducible refine' k_st2 ?hv ?_); (case hv => walk_at "gt"))
  | ((with_reducible refine' k_st3 ?hv ?_); (case hv => walk_at "gt"))
  | ((with_reducible refine' k_setl ?hv ?hn ?_); (case hv => walk_at "gt"); (case hn => rfl)))
local macro_rules | `(tactic| walk_at "put") => `(tactic| ((refine' ⟨_, ?ha, sz ?hb, ?_⟩); (case ha => walk_at "gt"); (case hb => walk_at "ln")))
local macro_rules | `(tactic| walk_at "go") => `(tactic| repeat (walk_at "s1"))
local macro_rules | `(tactic| walk_at "dv") => `(tactic| first | exact rfl | with_reducible assumption)
local macro_rules | `(tactic| walk_at "dt") => `(tactic| first | with_reducible assumption | with_reducible exact .int | with_reducible exact .str | with_reducible exact .bl | with_reducible exact .non | with_reducible exact .lst | with_reducible exact .tup | with_reducible exact .dk | ((with_reducible refine' TyD.ins ?hc); (case hc => with_reducible assumption)))
local macro_rules | `(tactic| walk_at "dm") => `(tactic| first | exact trivial | exact List.mem_cons_self | exact List.mem_cons_of_mem _ List.mem_cons_self | exact List.mem_cons_of_mem _ (List.mem_cons_of_mem _ List.mem_cons_self))
local macro_rules | `(tactic| walk_at "dy") => `(tactic| first | exact Or.inl rfl | exact Or.inr rfl)
local macro_rules | `(tactic| walk_at "xExD") => `(tactic| first
  | ((with_reducible refine' ex_re ?hX ?_); (case hX => assumption))
  | ((with_reducible refine' ex_re2 ?hX ?_); (case hX => assumption))
  | ((with_reducible refine' ex_rz ?hX ?_); (case hX => assumption)))
local macro_rules | `(tactic| walk_at "xOpD") => `(tactic| first
  | ((with_reducible refine' od_ownX ?hX ?_); (case hX => assumption))
  | ((with_reducible refine' od_ownIX ?hX ?_); (case hX => assumption)))
local macro_rules | `(tactic| walk_at "xEvD") => `(tactic| first
  | ((with_reducible refine' ev_callT ?hX ?_); (case hX => assumption))
  | ((with_reducible refine' ev_callX ?hX ?_); (case hX => assumption))
  | ((with_reducible refine' ev_methX ?hX ?_); (case hX => assumption))
  | ((with_reducible refine' ev_makeX ?hX ?_); (case hX => assumption))
  | ((with_reducible refine' ev_kwX ?hX ?_); (case hX => assumption))
  | ((with_reducible refine' ev_mkKwX ?hX ?_); (case hX => assumption)))
local macro_rules | `(tactic| walk_at "gEvD") => `(tactic| first
  | ((with_reducible refine' ev_var ?hv ?_); (case hv => exact rfl))
  | ((with_reducible refine' ev_varO ?hv ?_); (case hv => exact rfl))
  | with_reducible refine ev_ci ?_
  | with_reducible refine ev_cs ?_
  | with_reducible refine ev_cb ?_
  | with_reducible refine ev_cn ?_
  | ((with_reducible refine' ev_kt ?h ?_); (case h => with_reducible assumption))
  | with_reducible refine ev_cr ?_
  | with_reducible refine ev_ct ?_
  | with_reducible refine ev_new (evN_op (r := rCat) ?_)
  | with_reducible refine ev_new (evN_op (r := rRep) ?_)
  | ((with_reducible refine' ev_ixO ?hv ?_); (case hv => exact rfl))
  | with_reducible refine ev_op ?_
  | with_reducible refine ev_un ?_
  | with_reducible refine ev_isi2 ?_
  | with_reducible refine ev_isi4 ?_
  | ((with_reducible refine' ev_new (evN_listO ?hv ?_)); (case hv => exact rfl))
  | with_reducible refine ev_new (evN_cb1 (f := rListOf _) ?_)
  | ((with_reducible refine' ev_lenO ?hv ?_); (case hv => exact rfl))
  | with_reducible refine ev_cb1 ?_
  | with_reducible refine ev_lst ?_
  | with_reducible refine ev_dnew ?_
  | with_reducible refine ev_tup ?_
  | with_reducible refine ev_if ?_
  | with_reducible refine ev_and ?_
  | with_reducible refine ev_or ?_
  | with_reducible refine ev_not ?_
  | with_reducible refine ev_chain ?_
  | ((with_reducible refine' ev_new (evN_lcO ?hv ?_)); (case hv => exact rfl))
  | with_reducible refine ev_new (evN_lc ?_)
  | with_reducible refine ev_new (evN_sl ?_)
  | with_reducible refine ev_slT ?_
  | ((with_reducible refine' ev_fldS (n := 0) ?hv ?hc ?hn ?h1 ?h2 ?_); (case hv => exact rfl); (case hc => with_reducible assumption); (case hn => with_reducible assumption); (case h1 => decide +kernel); (case h2 => exact rfl))
  | ((with_reducible refine' ev_fldS (n := 1) ?hv ?hc ?hn ?h1 ?h2 ?_); (case hv => exact rfl); (case hc => with_reducible assumption); (case hn => with_reducible assumption); (case h1 => decide +kernel); (case h2 => exact rfl))
  | ((with_reducible refine' ev_fldS (n := 2) ?hv ?hc ?hn ?h1 ?h2 ?_); (case hv => exact rfl); (case hc => with_reducible assumption); (case hn => with_reducible assumption); (case h1 => decide +kernel); (case h2 => exact rfl))
  | ((with_reducible refine' ev_fldS (n := 3) ?hv ?hc ?hn ?h1 ?h2 ?_); (case hv => exact rfl); (case hc => with_reducible assumption); (case hn => with_reducible assumption); (case h1 => decide +kernel); (case h2 => exact rfl))
  | with_reducible refine ev_fld ?_
  | with_reducible refine ev_call ?_
  | with_reducible refine ev_kw ?_
  | with_reducible refine ev_mkKw ?_
  | with_reducible refine ev_meth ?_
  | with_reducible refine ev_prop ?_
  | with_reducible refine ev_make ?_)
local macro_rules | `(tactic| walk_at "gOpD") => `(tactic| first
  | with_reducible refine od_int ?_
  | with_reducible refine od_bl ?_
  | ((with_reducible refine' od_I ?hv ?_); (case hv => walk_at "ic"))
  | with_reducible refine od_ip ?_
  | with_reducible refine od_eqI ?_
  | with_reducible refine od_neI ?_
  | with_reducible refine od_eqS ?_
  | with_reducible refine od_neS ?_
  | with_reducible refine od_eqB ?_
  | with_reducible refine od_neB ?_
  | with_reducible refine od_isbl ?_
  | ((with_reducible refine' od_ixl ?hv ?_); (case hv => walk_at "dv"))
  | ((with_reducible refine' od_ixt ?hv ?_); (case hv => walk_at "dv"))
  | ((with_reducible refine' od_ixL ?hv ?_); (case hv => walk_at "dv"))
  | ((with_reducible refine' od_ixT ?hv ?_); (case hv => walk_at "dv"))
  | ((with_reducible refine' od_inN ?hv ?_); (case hv => walk_at "dy"))
  | ((with_reducible refine' od_inI ?hv ?_); (case hv => walk_at "dy"))
  | ((with_reducible refine' od_inS ?hv ?_); (case hv => walk_at "dy"))
  | with_reducible refine od_sign ?_
  | ((with_reducible refine' od_adds ?hv ?_); (case hv => walk_at "ln"))
  | with_reducible refine od_own ?_
  | with_reducible refine od_ownI ?_
  | with_reducible refine od_ownR ?_
  | with_reducible refine od_ownin ?_)
local macro_rules | `(tactic| walk_at "gExD") => `(tactic| first
  | with_reducible refine ex_seq ?_
  | ((with_reducible refine' ex_new (te := tLst tNil) ?hi ?_); (case hi => exact Nat.le_of_ble_eq_true rfl))
  | ((with_reducible refine' ex_newO ?hi ?_); (case hi => exact Nat.le_of_ble_eq_true rfl))
  | with_reducible refine ex_set ?_
  | with_reducible refine ex_asg ?_
  | ((with_reducible refine' ex_par ?hi ?_); (case hi => decide))
  | with_reducible refine ex_par3 ?_
  | ((with_reducible refine' ex_retO ?hv ?_); (case hv => exact rfl))
  | with_reducible refine ex_ret ?_
  | with_reducible refine ex_retN ?_
  | with_reducible refine ex_next ?_
  | with_reducible refine ex_break ?_
  | with_reducible refine ex_cont ?_
  | with_reducible refine ex_ifB ?_
  | ((with_reducible refine' ex_aug ?hv ?_); (case hv => exact rfl))
  | ((with_reducible refine' ex_app ?hv ?hl ?_); (case hv => exact rfl); (case hl => walk_at "ln"))
  | ((with_reducible refine' ex_insO ?hv ?hl ?_); (case hv => exact rfl); (case hl => walk_at "ln"))
  | ((with_reducible refine' ex_fld ?hv ?hc ?hn ?hl ?_); (case hv => exact rfl); (case hc => with_reducible assumption); (case hn => with_reducible assumption); (case hl => exact Nat.le_of_ble_eq_true rfl))
  | ((with_reducible refine' ex_extO ?hv ?_); (case hv => exact rfl))
  | ((with_reducible refine' ex_clrO ?hv ?_); (case hv => exact rfl))
  | with_reducible refine ex_drop ?_
  | with_reducible refine ex_for ?_)
local macro_rules | `(tactic| walk_at "gEvT") => `(tactic| first
  | with_reducible refine et_test ?_
  | with_reducible refine et_B ?_
  | with_reducible refine et_and ?_
  | with_reducible refine et_or ?_
  | with_reducible refine et_not ?_
  | with_reducible refine et_yes ?_)
local macro_rules | `(tactic| walk_at "gite") => `(tactic| first
  | with_reducible refine iteT ?_
  | with_reducible refine iteF ?_
  | with_reducible refine iteNT ?_
  | with_reducible refine iteNF ?_)
local macro_rules | `(tactic| walk_at "gUnD") => `(tactic| first
  | with_reducible refine ud_U ?_
  | ((with_reducible refine' fW_name ?hT ?_); (case hT => assumption))
  | ((with_reducible refine' fW_rows ?hT ?_); (case hT => assumption))
  | ((with_reducible refine' fE_work ?hT ?_); (case hT => assumption))
  | ((with_reducible refine' fE_nums ?hT ?_); (case hT => assumption))
  | ((with_reducible refine' fP_edition ?hT ?_); (case hT => assumption))
  | ((with_reducible refine' fP_count ?hT ?_); (case hT => assumption))
  | ((with_reducible refine' fK_work ?hT ?_); (case hT => assumption))
  | ((with_reducible refine' fK_rows ?hT ?_); (case hT => assumption))
  | ((with_reducible refine' fK_told ?hT ?_); (case hT => assumption))
  | ((with_reducible refine' fS_rule ?hT ?_); (case hT => assumption))
  | ((with_reducible refine' fS_tables ?hT ?_); (case hT => assumption))
  | ((with_reducible refine' fS_spots ?hT ?_); (case hT => assumption))
  | ((with_reducible refine' fS_held ?hT ?_); (case hT => assumption))
  | ((with_reducible refine' fS_stamps ?hT ?_); (case hT => assumption))
  | ((with_reducible refine' fS_row ?hT ?_); (case hT => assumption))
  | ((with_reducible refine' fS_top ?hT ?_); (case hT => assumption))
  | ((with_reducible refine' fS_come ?hT ?_); (case hT => assumption))
  | ((with_reducible refine' fR_parts ?hT ?_); (case hT => assumption))
  | ((with_reducible refine' fR_way ?hT ?_); (case hT => assumption)))
local macro_rules | `(tactic| walk_at "gCbD") => `(tactic| first
  | ((with_reducible refine' cd_isi ?ht ?hk ?_); (case ht => walk_at "dt"); (case hk => walk_at "kb"))
  | ((with_reducible refine' cd_isiO ?ht ?hk ?_); (case ht => walk_at "dt"); (case hk => first | with_reducible assumption | exact kit_same))
  | ((with_reducible refine' cd_lens ?hv ?_); (case hv => walk_at "ln"))
  | with_reducible refine cd_len ?_
  | with_reducible refine cd_all ?_
  | with_reducible refine cd_any ?_
  | with_reducible refine cd_int ?_
  | with_reducible refine cd_intb ?_
  | with_reducible refine cd_mx ?_
  | with_reducible refine cd_mn ?_
  | with_reducible refine cd_tuple ?_
  | with_reducible refine cd_lenO ?_)
local macro_rules | `(tactic| walk_at "gEvI") => `(tactic| first
  | with_reducible refine ei_seq ?_
  | with_reducible refine ei_str ?_
  | with_reducible refine ei_rg1 ?_
  | with_reducible refine ei_rg2 ?_
  | with_reducible refine ei_enum ?_
  | with_reducible refine ei_zip ?_
  | with_reducible refine ei_zipA ?_
  | with_reducible refine ei_zipB ?_
  | with_reducible refine ei_zipB3 ?_)
local macro_rules | `(tactic| walk_at "gEvN") => `(tactic| first
  | ((with_reducible refine' evN_listO ?hv ?_); (case hv => exact rfl))
  | ((with_reducible refine' evN_lcO ?hv ?_); (case hv => exact rfl))
  | with_reducible refine evN_lc ?_
  | with_reducible refine evN_sl ?_
  | with_reducible refine evN_op ?_
  | with_reducible refine evN_cb1 ?_
  | with_reducible refine evN_lst ?_)
local macro_rules | `(tactic| walk_at "d1") => `(tactic| first
  | ((with_reducible show EvD _ _ _ _ _); walk_at "gEvD")
  | ((with_reducible show OpD _ _ _ _ _ _); walk_at "gOpD")
  | with_reducible refine ev_nil ?_
  | with_reducible refine ev_cons ?_
  | ((with_reducible show ExD _ _ _ _ _); walk_at "gExD")
  | ((with_reducible show EvT _ _ _ _ _); walk_at "gEvT")
  | with_reducible refine isB_mk ?_
  | walk_at "gite"
  | ((with_reducible show UnD _ _ _ _ _); walk_at "gUnD")
  | ((with_reducible show CbD _ _ _ _ _); walk_at "gCbD")
  | ((with_reducible refine' tg_name ?hi ?_); (case hi => walk_at "dm"))
  | ((with_reducible refine' tg_tup ?hi ?_); (case hi => exact rfl))
  | ((with_reducible refine' tg_unl ?hi ?_); (case hi => exact rfl))
  | with_reducible refine tg_cons ?_
  | with_reducible refine tg_nil ?_
  | ((with_reducible show EvI _ _ _ _ _); walk_at "gEvI")
  | ((with_reducible refine' few_mk ?hl ?_); (case hl => exact Nat.le_of_ble_eq_true rfl))
  | ((with_reducible show EvN _ _ _ _ _); walk_at "gEvN")
  | ((with_reducible refine' on_cat ?hv ?_); (case hv => walk_at "ln"))
  | ((with_reducible refine' on_rep ?hv ?hw ?_); (case hv => walk_at "ln"); (case hw => walk_at "ln"))
  | with_reducible refine cn_list ?_
  | with_reducible refine eo_no ?_
  | with_reducible refine eo_part ?_
  | with_reducible refine seq_l ?_
  | with_reducible refine seq_t ?_
  | with_reducible refine ⟨insD_mk (by decide +kernel), ?_⟩)
local macro_rules | `(tactic| walk_at "dx") => `(tactic| first
  | ((with_reducible show EvD _ _ _ _ _); walk_at "xEvD")
  | ((with_reducible show OpD _ _ _ _ _ _); walk_at "xOpD")
  | ((with_reducible show ExD _ _ _ _ _); walk_at "xExD"))
local macro_rules | `(tactic| walk_at "dX") => `(tactic| repeat (first | walk_at "d1" | walk_at "dx"))
local macro_rules | `(tactic| walk_at "dg") => `(tactic| repeat (walk_at "d1"))
section
set_option maxRecDepth 100000
set_option maxHeartbeats 2000000

theorem all_isW : ∀ x ∈ allWords, isW x = true := by decide +kernel
theorem Words.good {ws : List Str} {n : Nat} (h : Words ws n) (h1 : 1 ≤ n) (h2 : n ≤ 60) : Good ws :=
  ⟨fun e => by have := h.1; rw [e] at this; simp at this; omega, h.nodup, fun x hx => all_isW x (h.mem hx), by have := h.1; omega⟩
section
variable {P : Program} {w : World} {K : PySem.W.Frag} {mg : Str → Option Value} {base : Heap} {Z : Cs}
/-! ### the law's makers -/
def fSomeWords : FD := fun ds Φ => ∃ n : Nat, ds = [.drw, .int (n : Int)] ∧ n ≤ 60 ∧ ∀ ws, Words ws n → Φ (.lst (dS ws))
theorem sp_some {vs : List V} {H : Hp} {Q : VK} {E : XK} (h : spD K fSomeWords vs H Q E) : spSomeWords vs H Q E := by
  obtain ⟨S, F, ds, Φ, s, dr, hd, ⟨n, rfl, h1, h3⟩, q⟩ := h
  obtain ⟨v, _, rfl, ⟨z, ez, rfl⟩, v2, _, rfl, h5, e⟩ := hd
  cases e; cases h5
  have dz := (dr.1.1 z ez).1
  refine ⟨z, n, rfl, dz, h1, fun ws l H' hw f hn d' hl => ?_⟩
  have nF : F l = none := s.free hn
  have g := (ag_draw ez s dr f d' (tabs_fr dr.1.2.1 dz f)).frz dr (.of hn) nF hl (fun s' e => by rw [ez] at e; cases e; exact dz.ne hn)
  exact q _ (.lst (dS ws)) _ H' (h3 ws hw) ⟨l, _, rfl, upd_same, dats_dS.mpr rfl⟩ g
theorem Cal.some (C : Cal P w K mg base 3 "_law_some_words" ["_law_state", "_law_many"] spSomeWords) : Cal P w K mg base 3 "_law_some_words" ["_law_state", "_law_many"] (spD K fSomeWords) := C.imp (Nat.le_refl _) fun vs H Q E h => sp_some h
theorem rgN_get {n i : Nat} {d : D} (h : (rgN n)[i]? = some d) : i < n ∧ d = .int (i : Int) := by
  unfold rgN at h
  obtain ⟨k, hk, rfl⟩ := dN_get h
  have hi : i < n := by have := (List.getElem?_eq_some_iff.mp hk).1; rw [List.length_range] at this; exact this
  rw [List.getElem?_range hi] at hk
  cases hk
  exact ⟨hi, rfl⟩
end
end
/-! One's own lists: taking out, setting, two at once. The law's drawn rows. -/
section
set_option maxRecDepth 100000
set_option maxHeartbeats 2000000

section
variable {K : PySem.W.Frag} {S : Sx} {ρ : List Sl} {Φ : D → Prop} {Ψ : List D → Prop} {Χ : Bool → Prop} {O : Oc} {ta tb tc te ti : TE} {i j : Nat} {d x y : D} {ds es : List D}
end
/-! rows of rows of numbers -/
def dNN (l : List (List Nat)) : List D := l.map fun ns => .lst (dN ns)
section
variable {K : PySem.W.Frag} {S : Sx} {Φ : D → Prop}
end
section
variable {P : Program} {w : World} {K : PySem.W.Frag} {mg : Str → Option Value} {base : Heap}
end
end
/-! Cells of one's own: marks, rows of rows taken as one's own, methods of frozen things. -/
section
set_option maxRecDepth 100000
set_option maxHeartbeats 2000000
/-- a statement, an expression that the walk stops at -/
@[irreducible] def tMkS (t : TS) : TS := t
@[irreducible] def tMkE (t : TE) : TE := t
theorem ps_mkS {X : Cx} {st : Stmt} {t : TS} (h : PS X st t) : PS X st (tMkS t) := by unfold tMkS; exact h
section
variable {K : PySem.W.Frag} {S : Sx} {ρ : List Sl} {Φ : D → Prop} {Ψ : List D → Prop} {Χ : Bool → Prop} {O : Oc} {ta tb tc te to ti : TE} {tr : TA} {tt tu : TT} {t u : TS} {g : TG} {wi : TI} {i j w k n : Nat} {d x y dw : D} {ds xs : List D} {γ γ1 γ2 γr : Gh} {a : Addr} {c c' : Cl} {m : Bool} {Θ : D → Gh → List Sl → Prop}
theorem ex_mkS (h : ExD K S t ρ O) : ExD K S (tMkS t) ρ O := by unfold tMkS; exact h
/-- the cells of a slot are let go -/
theorem ex_forget (i : Nat) (h0 : ρ[i]? = some (.obj m d γ)) (k : ExD K S t (ρ.set i (.val d)) O) : ExD K S t ρ O := fun F0 H0 σ F H e o ag d0 E f => by
  obtain ⟨v, h1, h2, _⟩ := e.obj h0
  have s1 : σ.set i (some v) = σ := setL_same h1
  have e2 := e.set (i := i) h2
  have o2 := o.set (i := i) (d := d) (v := v)
  rw [s1] at e2 o2
  exact k F0 H0 σ F H e2 o2 ag d0 E f
/-- x.extend(e), x one's own list -/
theorem ex_extO (h0 : ρ[i]? = some (.own ds)) (h : EvD K S te ρ fun y => ∃ es, y = .lst es ∧ ds.length + es.length < 100000 ∧ O.nx (ρ.set i (.own (ds ++ es)))) : ExD K S (tDrop (tBM K "list" rExtend (tVar i) (tCons te tNil))) ρ O := fun F0 H0 σ F H e o a d0 E f => by
  obtain ⟨p, vs, h1, ⟨nF, ns⟩, h2, h3⟩ := e.own h0
  refine ⟨.ref p, h1, .inl ⟨rfl, vs, sl_of h2⟩, h σ F H e a.ok a.dr _ fun w y F1 H1 ⟨es, hy, hl, hO⟩ dy g1 => ?_⟩
  subst hy
  obtain ⟨b, us, rfl, b1, b2⟩ := dy
  obtain ⟨p', vs', h1', ⟨nF', ns'⟩, h2', h3'⟩ := (e.ag g1).own h0
  rw [h1] at h1'
  cases h1'
  refine ⟨p, b, vs', us, rfl, rfl, h2', g1.ok _ _ b1, by rw [h3'.length, b2.length]; exact Nat.le_of_lt (Nat.lt_of_lt_of_le hl (by decide)), ?_⟩
  exact f.nx σ _ F1 _ hO ((e.ag g1).mut h1 h0 rfl ⟨p, _, rfl, ⟨nF', ns'⟩, upd_same, h3'.app b2⟩) (o.mut h0 rfl) ((a.trans g1 d0).mut d0 (by rw [h2']; trivial) (o i _ _ p h0 rfl h1 rfl) nF' ns')
end
end
/-! Cells of one's own: rows of new lists, freezing. -/
section
set_option maxRecDepth 100000
set_option maxHeartbeats 2000000
/-- lists of one's own and the list of them -/
def rowsG (a : Addr) (bs : List Addr) (L : List (List D)) : Gh := (a, .l (bs.map pD)) :: bs.zip (L.map Cl.l)
theorem rowsG_fst {a : Addr} {bs : List Addr} {L : List (List D)} (h : bs.length = L.length) : (rowsG a bs L).map Prod.fst = a :: bs := by
  unfold rowsG
  rw [List.map_cons, List.map_fst_zip]
  rw [List.length_map, h]
  exact Nat.le_refl _
theorem rowsG_at {a b : Addr} {bs : List Addr} {L : List (List D)} {k : Nat} {ds : List D} (h1 : bs[k]? = some b) (h2 : L[k]? = some ds) : (rowsG a bs L)[k + 1]? = some (b, .l ds) := by
  unfold rowsG
  rw [List.getElem?_cons_succ]
  exact List.getElem?_zip_eq_some.mpr ⟨h1, by rw [List.getElem?_map, h2]; rfl⟩
section
variable {K : PySem.W.Frag} {S : Sx} {ρ : List Sl} {Φ : D → Prop} {Ψ : List D → Prop} {Χ : Bool → Prop} {O : Oc} {ta tb tc te to ti : TE} {tr : TA} {tt tu : TT} {t u : TS} {g : TG} {wi : TI} {i j w k n : Nat} {d x y dw : D} {ds xs : List D} {γ γ1 γ2 γr : Gh} {a : Addr} {c c' : Cl} {m : Bool} {Θ : D → Gh → List Sl → Prop}
theorem GhOk.rows {F H : Hp} {bs : List Addr} {L : List (List D)} (ha : Prv S F a) (h1 : H a = some (.lst (bs.map V.ref))) (g : GhOk K S F H (bs.zip (L.map Cl.l))) (hl : bs.length = L.length) (n : a ∉ bs) : GhOk K S F H (rowsG a bs L) := by
  refine ⟨?_, fun b c hm => ?_⟩
  · rw [rowsG_fst hl, List.nodup_cons]
    refine ⟨n, ?_⟩
    have := g.nd
    rw [List.map_fst_zip (by rw [List.length_map, hl]; exact Nat.le_refl _)] at this
    exact this
  · rcases List.mem_cons.mp hm with z | z
    · cases z
      exact ⟨ha, _, h1, _, rfl, (dats_map fun x v => Iff.rfl).mpr rfl⟩
    · exact g.ok b c z
theorem Rds.ptrs {L : List (List D)} : ∀ {bs : List Addr}, bs.length = L.length → (∀ (k : Nat) (b : Addr) (ds : List D), bs[k]? = some b → L[k]? = some ds → HasC ρ b (.l ds)) → Rds K ρ (bs.map pD) (L.map D.lst) := by
  induction L with
  | nil =>
    intro bs h _
    rw [List.length_eq_zero_iff.mp h]
    exact Rds.nil
  | cons ds L ih =>
    intro bs h hc
    cases bs with
    | nil => cases h
    | cons b bs =>
      exact Rds.cons (Rd.cl (hc 0 b ds (Eq.refl _) (Eq.refl _)) Rds.rfl) (ih (by simpa using h) fun k b' ds' h1 h2 => hc (k + 1) b' ds' (by simpa using h1) (by simpa using h2))
theorem Rd.rows {bs : List Addr} {L : List (List D)} (h : bs.length = L.length) : Rd K [.obj true (pD a) (rowsG a bs L)] (pD a) (.lst (L.map D.lst)) :=
  Rd.cl (.of 0 (Eq.refl _) List.mem_cons_self) (Rds.ptrs h fun k b ds h1 h2 => .of 0 (Eq.refl _) (List.mem_of_getElem? (rowsG_at h1 h2)))
end
end
/-! Expressions whose answers and cells are all new; comprehensions of such. -/
section
set_option maxRecDepth 100000
set_option maxHeartbeats 2000000
open PySem PySem.Spec PyProof.Rows L2
/-- te tells d, whose cells γ are new -/
def EvF (K : PySem.W.Frag) (S : Sx) (te : TE) (ρ : List Sl) (Θ : D → Gh → Prop) : Prop := ∀ (σ : L2.St) (F H : Hp), EnvOk K S F H σ ρ → Same F H → DrI S F H → ∀ Q : VK,
  (∀ v d γ F' H', Θ d γ → Dat K S F' d v → GhOk K S F' H' γ → (∀ a, a ∈ γ.map Prod.fst → Nt H a) → Ag S F H F' H' → Q v H') → te σ H Q
section
variable {K : PySem.W.Frag} {S : Sx} {ρ : List Sl} {te : TE} {tr : TA} {tt : TT} {g : TG} {wi : TI} {Θ : D → Gh → Prop}
theorem evx_ofF {Θ : D → Gh → List Sl → Prop} (h : EvF K S te ρ fun d γ => Θ d γ ρ) : EvX K S te ρ Θ := fun F0 H0 σ F H e o ag d0 Q q =>
  h σ F H e ag.ok ag.dr _ fun v d γ F1 H1 hd dd qg nn g1 => q v d γ ρ F1 H1 hd dd (e.ag g1) o ⟨qg, fun b z => ag.backN (nn b z), fun b z j s hj x hx l => e.fresh (nn b z) j s hj x hx l⟩ (ag.trans g1 d0)
theorem evf_new (h : EvN K S te ρ fun ds => ∀ a, Θ (pD a) [(a, .l ds)]) : EvF K S te ρ Θ := fun σ F H e s dr Q q =>
  h σ F H e s dr _ fun a vs ds F1 H1 hd n nF hl dd g1 => q (.ref a) (pD a) [(a, .l ds)] F1 H1 (hd a) rfl ⟨by simp, fun b c hm => by
    cases List.mem_singleton.mp hm
    exact ⟨⟨nF, dr.1.ne n⟩, _, hl, vs, rfl, dd⟩⟩ (fun b z => by
    rw [show b = a from List.mem_singleton.mp z]
    exact n) g1
theorem evf_call {f : FC} (h : EvA K S tr ρ fun xs => f xs [] Θ) : EvF K S (tCall (spC K f) [] E0 tr) ρ Θ := fun σ F H e s dr Q q =>
  h σ F H e s dr _ fun vs xs F1 H1 hf dd g1 => by
    rw [List.append_nil]
    refine ⟨S, F1, xs, [], _, g1.ok, g1.dr, g1.st, dd, .nil, hf, fun u d γ' F' H' hΘ du qg nn g2 => ?_⟩
    have g2' : Ag S F1 H1 F' H' := g2
    have nn' : ∀ a, a ∈ γ'.map Prod.fst → Nt H1 a := nn
    exact q u d γ' F' H' hΘ du qg (fun b z => g1.backN (nn' b z)) (g1.trans g2' dr)
/-- a comprehension of new things -/
theorem evf_lc {vs : List Nat} (h : EvI K S wi ρ fun its => ∃ I : Nat → List D → Gh → Prop, I 0 [] [] ∧ (∀ i d acc γ, its[i]? = some d → I i acc γ → acc.length < 100000 ∧ TgD K S g (· ∈ vs) d (wipeS ρ vs) fun ρ2 => EvT K S tt ρ2 fun b => if b = true then EvF K S te ρ2 fun y γ1 => I (i + 1) (acc ++ [y]) (γ ++ γ1) else I (i + 1) acc γ) ∧ ∀ acc γ, I its.length acc γ → ∀ a, Θ (pD a) ((a, .l acc) :: γ)) : EvF K S (tLc wi g tt te vs) ρ Θ := fun σ F H e s dr Q q => by
  refine h σ F H e s dr _ fun J its F1 H1 ⟨I, i0, is, ie⟩ g1 ⟨Y, w, hY⟩ => ?_
  intro D nD
  have e1 := e.ag g1
  have nF1 : F1 D = none := g1.ok.free nD
  have nS := g1.dr.ne nD
  refine lc_it w (fun i H' => ∃ (acc : List Lf.D) (γ : Gh) (us : List V) (F' : Hp), I i acc γ ∧ H' D = some (.lst us) ∧ F' D = none ∧ Dats K S F' acc us ∧ GhOk K S F' H' γ ∧ (∀ b ∈ γ.map Prod.fst, Nt H1 b ∧ b ≠ D) ∧ Ag S F1 H1 F' H') ⟨[], [], [], F1, i0, upd_same, nF1, rfl, .nil, fun b hb => (nomatch hb), (Ag.refl g1.ok g1.dr).newH g1.dr nD⟩ ?_ ?_ ?_
  · rintro i H' _ ⟨_, _, _, _, _, _, _, _, _, _, a⟩
    exact a.fs.trans a.ok
  · rintro i x H2 H3 hi ⟨acc, γ, us, F2, hI, hD, nF2, hds, hgh, hbs, a2⟩ y
    obtain ⟨d, F3, hd, dd, g3⟩ := hY i H2 x H3 F2 hi a2.fs a2.ok a2.dr y
    obtain ⟨hl, hT⟩ := is i d acc γ hd hI
    have a3 := a2.trans g3 g1.dr
    have e3 : EnvOk K S F3 H3 (wipe σ vs) (wipeS ρ vs) := (e1.ag a3).wipe vs
    have hD3 := g3.keep (fun s e => (nS s e).1) hD
    have nF3 := g3.keepF hD nF2
    refine hT x _ F3 H3 e3 dd g3.ok _ fun σ4 ρ4 hx e4 o4 k4 => ⟨wipe_same (k4.1.trans (wipe_length σ vs)) k4.2.1, ?_⟩
    · refine hx σ4 F3 H3 e4 g3.ok g3.dr _ fun b F4 H4 hb g4 => ?_
      have hD4 := g4.keep (fun s e => (nS s e).1) hD3
      have nF4 := g4.keepF hD3 nF3
      have a4 := a3.trans g4 g1.dr
      cases b with
      | true =>
        show te σ4 H4 _
        refine hb σ4 F4 H4 (e4.ag g4) g4.ok g4.dr _ fun v y γ1 F5 H5 hy dy qg nn g5 => ?_
        have hD5 := g5.keep (fun s e => (nS s e).1) hD4
        have nF5 := g5.keepF hD4 nF4
        have a5 := a4.trans g5 g1.dr
        have hgh4 := (hgh.ag g3).ag g4
        have hgh5 := hgh4.ag g5
        have npD : ∀ p, p ∈ γ1.map Prod.fst → p ≠ D := fun p hp z => by subst z; exact nn _ hp _ hD4 noT_l
        have napp : ∀ p, p ∈ γ.map Prod.fst → p ∈ γ1.map Prod.fst → False := fun p hp hp1 => by
          obtain ⟨⟨p', c⟩, hm, rfl⟩ := List.mem_map.mp hp
          obtain ⟨_, u, e6, q6⟩ := hgh4.ok p' c hm
          exact nn _ hp1 u e6 q6.no
        have hds5 := Dats.mono (g5.fs) _ (Dats.mono g4.fs _ (Dats.mono g3.fs _ hds))
        refine ⟨us, hD5, by rw [hds.length]; exact Nat.lt_of_lt_of_le hl (by decide), acc ++ [y], γ ++ γ1, us ++ [v], F5, hy, upd_same, nF5, hds5.app ⟨v, _, rfl, dy, rfl⟩, ?_, ?_, a5.mut g1.dr (by rw [hD5]; trivial) (.of nD) nF5 nS⟩
        · refine GhOk.mut (hgh5.app qg napp) fun z => ?_
          rw [List.map_append] at z
          rcases List.mem_append.mp z with z | z
          · exact (hbs D z).2 rfl
          · exact npD D z rfl
        · intro b hb'
          rw [List.map_append] at hb'
          rcases List.mem_append.mp hb' with z | z
          · exact hbs b z
          · exact ⟨a4.backN (nn b z), npD b z⟩
      | false => exact ⟨acc, γ, us, F4, hb, hD4, nF4, Dats.mono g4.fs _ (Dats.mono g3.fs _ hds), (hgh.ag g3).ag g4, hbs, a4⟩
  · rintro H2 ⟨acc, γ, us, F2, hI, hD, nF2, hds, hgh, hbs, a2⟩
    refine q (.ref D) (pD D) ((D, .l acc) :: γ) F2 H2 (ie acc γ hI D) rfl ?_ ?_ (g1.trans a2 dr)
    · refine GhOk.app (γ1 := [(D, .l acc)]) ⟨by simp, fun b c hm => ?_⟩ hgh fun a z1 z2 => ?_
      · cases List.mem_singleton.mp hm
        exact ⟨⟨nF2, nS⟩, _, hD, us, rfl, hds⟩
      · rw [show a = D from List.mem_singleton.mp z1] at z2
        exact (hbs D z2).2 rfl
    · intro b hb
      rcases List.mem_cons.mp hb with z | z
      · rw [z]; exact g1.backN (.of nD)
      · exact g1.backN (hbs b z).1
end
end
/-! Cells of one's own: what is in hand goes to a slot; cells that are let go; fields that are set with new things. -/
section
set_option maxRecDepth 100000
set_option maxHeartbeats 2000000
section
variable {K : PySem.W.Frag} {S : Sx} {ρ : List Sl} {Φ : D → Prop} {Ψ : List D → Prop} {Χ : Bool → Prop} {O : Oc} {ta tb tc te to ti : TE} {tr : TA} {tt tu : TT} {t u : TS} {g : TG} {wi : TI} {i j w k n : Nat} {d x y dw : D} {ds xs : List D} {γ γ0 γ1 γ2 γh : Gh} {a : Addr} {c c' : Cl} {m : Bool} {Θ : D → Gh → List Sl → Prop}
theorem EnvOk.take {F H H0 : Hp} {σ : L2.St} (e : EnvOk K S F H σ ρ) (o : OwnNew H0 σ ρ) (hw : ρ[w]? = some (.obj true dw γ)) (q : InHand K S F H H0 σ ρ γh) : EnvOk K S F H σ (ρ.set w (.obj true dw (γ ++ γh))) ∧ OwnNew H0 σ (ρ.set w (.obj true dw (γ ++ γh))) := by
  obtain ⟨u, b1, b2, b3⟩ := e.obj hw
  have s2 : σ.set w (some u) = σ := setL_same b1
  have split : ∀ b, (Sl.obj true dw (γ ++ γh)).loc (some u) b → b ∈ γ.map Prod.fst ∨ b ∈ γh.map Prod.fst := fun b z => by
    have z' : b ∈ (γ ++ γh).map Prod.fst := z
    rw [List.map_append] at z'
    exact List.mem_append.mp z'
  have e2 := EnvOk.newG (i := w) (s₀ := .obj true dw (γ ++ γh)) (v := u) e (fun l s y b n h4 h5 l1 l2 => by
    rcases split b l2 with z | z
    · exact e.sep w l _ s _ y b (Ne.symm n) hw h4 rfl b1 h5 z l1
    · exact q.2.2 b z l s h4 y h5 l1) ⟨_, rfl, b2, b3.app q.1 fun b z1 z2 => q.2.2 b z2 w _ hw _ b1 z1⟩
  have o2 := OwnNew.newG (i := w) (s₀ := .obj true dw (γ ++ γh)) (v := u) o (fun _ b z => by
    rcases split b z with z | z
    · exact o w _ _ b hw rfl b1 z
    · exact q.2.1 b z)
  rw [s2] at e2 o2
  exact ⟨e2, o2⟩
/-- what is in hand stays so behind a change of a slot's cell -/
theorem InHand.setC {F H H0 : Hp} {σ : L2.St} {o : HO} (q : InHand K S F H H0 σ ρ γh) (e : EnvOk K S F H σ ρ) (hw : ρ[w]? = some (.obj true dw γ)) (hk : γ[k]? = some (a, c)) : InHand K S F (upd H a o) H0 σ (ρ.set w (.obj true dw (γ.set k (a, c')))) γh := by
  obtain ⟨u, b1, b2, b3⟩ := e.obj hw
  have hin : a ∈ γ.map Prod.fst := List.mem_map.mpr ⟨_, List.mem_of_getElem? hk, rfl⟩
  refine ⟨q.1.mut fun z => q.2.2 a z w _ hw _ b1 hin, q.2.1, fun b hb l s hl x hx z => ?_⟩
  by_cases y : w = l
  · subst y
    rw [List.getElem?_set_self (List.getElem?_eq_some_iff.mp hw).1] at hl
    cases hl
    rw [b1] at hx
    cases hx
    have z' : b ∈ (γ.set k (a, c')).map Prod.fst := z
    rw [gh_addrs hk] at z'
    exact q.2.2 b hb w _ hw _ b1 z'
  · rw [List.getElem?_set_ne y] at hl
    exact q.2.2 b hb l s hl x hx z
theorem InHand.ag {F H H0 F' H' : Hp} {σ : L2.St} (q : InHand K S F H H0 σ ρ γh) (g : Ag S F H F' H') : InHand K S F' H' H0 σ ρ γh := ⟨q.1.ag g, q.2.1, q.2.2⟩
end
end
/-! Calls that are handed new things. -/
section
set_option maxRecDepth 100000
set_option maxHeartbeats 2000000
open PySem PySem.Spec PyProof.Rows L2
section
variable {K : PySem.W.Frag} {S : Sx} {ρ : List Sl} {O : Oc} {te t1 t2 : TE} {tr : TA} {t : TS}
/-- f(x, e), e new: its cells are handed over -/
theorem evf_call2 {f : FC} {Θ : D → Gh → Prop} (h : EvD K S t1 ρ fun x => EvF K S t2 ρ fun y γ => f [x, y] γ Θ) : EvF K S (tCall (spC K f) [] E0 (tCons t1 (tCons t2 tNil))) ρ Θ := fun σ F H e s dr Q q =>
  h σ F H e s dr _ fun u x F1 H1 h2 dx g1 => h2 σ F1 H1 (e.ag g1) g1.ok g1.dr _ fun v y γ F2 H2 hf dy qg nn g2 => by
    have g := g1.trans g2 dr
    have old : ∀ b, b ∈ γ.map Prod.fst → Nt H b := fun b z => g1.backN (nn b z)
    refine ⟨S, F2, [x, y], γ, _, g.ok, DrI.less g dr qg old, g.st, ⟨_, _, rfl, Dat.mono g2.fs _ dx, _, _, rfl, dy, rfl⟩, qg, hf, fun w d γ' F' H' hΘ dd q2 n2 g3 => q w d γ' F' H' hΘ dd q2 (fun b z => ?_) (g.less old dr g3)⟩
    rcases lessG_nt (n2 b z) with z | z
    · exact old b z
    · exact g.backN z
/-- f(e), e in hand, the cells of the slot w handed over as well -/
theorem evx_callT (w : Nat) {f : FC} {Θ : D → Gh → List Sl → Prop} (h : EvX K S te ρ fun y γh ρ1 => ∃ dw γ1, ρ1[w]? = some (.obj true dw γ1) ∧ f [y] (γ1 ++ γh) fun d γ' => Θ d [] (ρ1.set w (.obj true dw γ'))) : EvX K S (tCall (spC K f) [] E0 (tCons te tNil)) ρ Θ := fun F0 H0 σ F H e o ag d0 Q q =>
  h F0 H0 σ F H e o ag d0 _ fun v y γh ρ1 F1 H1 ⟨dw, γ1, hw, hf⟩ dy e1 o1 q1 a1 => by
    obtain ⟨e2, o2⟩ := e1.take o1 hw q1
    have hwl : w < ρ1.length := (List.getElem?_eq_some_iff.mp hw).1
    have hw2 : (ρ1.set w (.obj true dw (γ1 ++ γh)))[w]? = some (.obj true dw ((γ1 ++ γh) ++ [])) := by rw [List.append_nil]; exact List.getElem?_set_self hwl
    obtain ⟨v', h1, h2, h3⟩ := e2.obj hw2
    have h3' : GhOk K S F1 H1 (γ1 ++ γh) := by rw [List.append_nil] at h3; exact h3
    refine ⟨S, F1, [y], γ1 ++ γh, _, a1.ok, DrI.less a1 d0 h3' (fun b z => o2 w _ _ b hw2 rfl h1 (by show b ∈ ((γ1 ++ γh) ++ []).map Prod.fst; rw [List.append_nil]; exact z)), a1.st, ⟨_, _, rfl, dy, rfl⟩, h3', hf, ?_⟩
    intro u d γ' F' H' hΘ du qg nn g2
    obtain ⟨r1, r2, r3, r4⟩ := back_call (stay := γ') (hand := []) e2 o2 a1 d0 hw2 (by rw [List.append_nil]; exact qg) (by rw [List.append_nil]; exact nn) g2
    rw [List.append_nil, List.set_set] at r1 r2 r3
    exact q u d [] _ F' H' hΘ du r1 r2 r3 r4
end
end
/-! The law's own cuts and kernels, sizes of works. -/
end Lf
namespace Lf
open PySem L2
local macro_rules | `(tactic| walk_at "nq") => `(tactic| first | with_reducible assumption | with_reducible exact Ne.symm (by assumption) | with_reducible exact ne_of_none (by assumption) (by assumption) | with_reducible exact Ne.symm (ne_of_none (by assumption) (by assumption)))
local macro_rules | `(tactic| walk_at "gt") => `(tactic| first | with_reducible assumption | with_reducible exact upd_same | ((with_reducible refine' upd_new ?ha ?hb); (case hb => with_reducible assumption); (case ha => walk_at "gt")) | ((with_reducible refine' upd_old ?ha ?hb); (case hb => walk_at "nq"); (case ha => walk_at "gt")) | ((with_reducible refine' sm_get ?hb ?ha); (case hb => with_reducible assumption); (case ha => walk_at "gt")) | ((with_reducible refine' fr_get ?hb ?ha ?hc); (case hb => with_reducible assumption); (case hc => walk_at "nq"); (case ha => walk_at "gt")))
local macro_rules | `(tactic| walk_at "sl") => `(tactic| first | with_reducible assumption | ((with_reducible refine' sl_of ?ha); (case ha => walk_at "gt")) | ((with_reducible refine' sl_new ?ha ?hb); (case hb => with_reducible assumption); (case ha => walk_at "sl")) | ((with_reducible refine' sl_sm ?hb ?ha); (case hb => with_reducible assumption); (case ha => walk_at "sl")) | ((with_reducible refine' sl_fr ?hb ?hc ?ha); (case hb => with_reducible assumption); (case hc => walk_at "nq"); (case ha => walk_at "sl")))
local macro_rules | `(tactic| walk_at "st") => `(tactic| first | with_reducible assumption | ((with_reducible refine' st_of ?ha); (case ha => walk_at "gt")) | ((with_reducible refine' st_new ?ha ?hb); (case hb => with_reducible assumption); (case ha => walk_at "st")) | ((with_reducible refine' st_sm ?hb ?ha); (case hb => with_reducible assumption); (case ha => walk_at "st")) | ((with_reducible refine' st_fr ?hb ?hc ?ha); (case hb => with_reducible assumption); (case hc => walk_at "nq"); (case ha => walk_at "st")))
local macro_rules | `(tactic| walk_at "sa") => `(tactic| first | with_reducible assumption | ((with_reducible refine' sa_l ?ha); (case ha => walk_at "gt")) | ((with_reducible refine' sa_t ?ha); (case ha => walk_at "gt")) | ((with_reducible refine' sa_new ?ha ?hb); (case hb => with_reducible assumption); (case ha => walk_at "sa")) | ((with_reducible refine' sa_sm ?hb ?ha); (case hb => with_reducible assumption); (case ha => walk_at "sa")) | ((with_reducible refine' sa_fr ?hb ?hc ?ha); (case hb => with_reducible assumption); (case hc => walk_at "nq"); (case ha => walk_at "sa")) | ((with_reducible refine' Or.inl ?ha); (case ha => walk_at "sl")) | ((with_reducible refine' Or.inr ?ha); (case ha => walk_at "st")))
local macro_rules | `(tactic| walk_at "ln") => `(tactic| first | decide | omega | exact Nat.le_of_ble_eq_true rfl | (simp only [List.length_append, List.length_map, List.length_cons, List.length_nil, List.length_flatMap]; omega))
local macro_rules | `(tactic| walk_at "ty") => `(tactic| first | with_reducible assumption | with_reducible exact .base (.int _) | with_reducible exact .base (.str _) | with_reducible exact .base (.bl _) | with_reducible exact .base .non | ((with_reducible refine' TyX.base (TyOf.lst ?ha)); (case ha => walk_at "gt")) | ((with_reducible refine' TyX.base (TyOf.tup ?ha)); (case ha => walk_at "gt")) | ((with_reducible refine' TyX.base (TyOf.dK ?ha)); (case ha => walk_at "gt")) | ((with_reducible refine' ty_new ?ha ?hb); (case hb => with_reducible assumption); (case ha => walk_at "ty")) | ((with_reducible refine' ty_sm ?hb ?ha); (case hb => with_reducible assumption); (case ha => walk_at "ty")))
local macro_rules | `(tactic| walk_at "kb") => `(tactic| first | with_reducible assumption | exact kb_str_str | exact kb_int_str | exact kb_list_str | exact kb_tuple_str | exact kb_bool_str | exact kb_NoneType_str | exact kb_dict_str | exact kb_str_int | exact kb_int_int | exact kb_list_int | exact kb_tuple_int | exact kb_bool_int | exact kb_NoneType_int | exact kb_dict_int | exact kb_str_bool | exact kb_int_bool | exact kb_list_bool | exact kb_tuple_bool | exact kb_bool_bool | exact kb_NoneType_bool | exact kb_dict_bool | exact kb_str_list | exact kb_int_list | exact kb_list_list | exact kb_tuple_list | exact kb_bool_list | exact kb_NoneType_list | exact kb_dict_list | exact kb_str_tuple | exact kb_int_tuple | exact kb_list_tuple | exact kb_tuple_tuple | exact kb_bool_tuple | exact kb_NoneType_tuple | exact kb_dict_tuple | exact kb_str_dict | exact kb_int_dict | exact kb_list_dict | exact kb_tuple_dict | exact kb_bool_dict | exact kb_NoneType_dict | exact kb_dict_dict)
local macro_rules | `(tactic| walk_at "wk") => `(tactic| first | with_reducible assumption | ((with_reducible refine' WkAt.new ?ha ?hb); (case hb => with_reducible assumption); (case ha => walk_at "wk")) | ((with_reducible refine' WkAt.sm ?hb ?ha); (case hb => with_reducible assumption); (case ha => walk_at "wk")) | ((with_reducible refine' WkAt.dr ?hb ?hc ?ha); (case hb => with_reducible assumption); (case hc => with_reducible assumption); (case ha => walk_at "wk")))
local macro_rules | `(tactic| walk_at "ed") => `(tactic| first | with_reducible assumption | ((with_reducible refine' EdAt.new ?ha ?hb); (case hb => with_reducible assumption); (case ha => walk_at "ed")) | ((with_reducible refine' EdAt.sm ?hb ?ha); (case hb => with_reducible assumption); (case ha => walk_at "ed")) | ((with_reducible refine' EdAt.dr ?hb ?hc ?ha); (case hb => with_reducible assumption); (case hc => with_reducible assumption); (case ha => walk_at "ed")))
local macro_rules | `(tactic| walk_at "pl") => `(tactic| first | with_reducible assumption | ((with_reducible refine' PlAt.new ?ha ?hb); (case hb => with_reducible assumption); (case ha => walk_at "pl")) | ((with_reducible refine' PlAt.sm ?hb ?ha); (case hb => with_reducible assumption); (case ha => walk_at "pl")) | ((with_reducible refine' PlAt.dr ?hb ?hc ?ha); (case hb => with_reducible assumption); (case hc => with_reducible assumption); (case ha => walk_at "pl")))
local macro_rules | `(tactic| walk_at "fl") => `(tactic| first | with_reducible assumption | ((with_reducible refine' WkAt.rows ?hT ?hW); (case hT => assumption); (case hW => walk_at "wk")) | ((with_reducible refine' WkAt.name ?hT ?hW); (case hT => assumption); (case hW => walk_at "wk")) | ((with_reducible refine' EdAt.work ?hT ?hW); (case hT => assumption); (case hW => walk_at "ed")) | ((with_reducible refine' EdAt.nums ?hT ?hW); (case hT => assumption); (case hW => walk_at "ed")) | ((with_reducible refine' PlAt.edition ?hT ?hW); (case hT => assumption); (case hW => walk_at "pl")) | ((with_reducible refine' PlAt.count ?hT ?hW); (case hT => assumption); (case hW => walk_at "pl")))
local macro_rules | `(tactic| walk_at "mt") => `(tactic| first | with_reducible assumption | ((with_reducible refine' WkAt.mt ?hn1 ?hn2 ?hW); (case hW => walk_at "wk"); (case hn1 => decide +kernel); (case hn2 => decide +kernel)) | ((with_reducible refine' EdAt.mt ?hn1 ?hn2 ?hW); (case hW => walk_at "ed"); (case hn1 => decide +kernel); (case hn2 => decide +kernel)) | ((with_reducible refine' PlAt.mt ?hn1 ?hn2 ?hW); (case hW => walk_at "pl"); (case hn1 => decide +kernel); (case hn2 => decide +kernel)))
local macro_rules | `(tactic| walk_at "is") => `(tactic| first | with_reducible assumption | ((with_reducible refine' WkAt.is ?hW); (case hW => walk_at "wk")) | ((with_reducible refine' EdAt.is ?hW); (case hW => walk_at "ed")) | ((with_reducible refine' PlAt.is ?hW); (case hW => walk_at "pl")))
local macro_rules | `(tactic| walk_at "ic") => `(tactic| first
  | ((with_reducible show CMul _ _); first | exact Or.inl ⟨by decide, by decide⟩ | exact Or.inr ⟨by decide, by decide⟩ | exact Or.inl ⟨by omega, by omega⟩ | exact Or.inr ⟨by omega, by omega⟩)
  | ((with_reducible show CDiv _ _); first | exact ⟨by decide, by decide⟩ | exact ⟨by omega, by omega⟩)
  | ((with_reducible show CPow _ _); first | exact ⟨by decide, by decide, by decide⟩ | exact ⟨by decide, by decide, by omega⟩)
  | (show (0 : Int) < _; first | decide | omega))
local macro_rules | `(tactic| walk_at "s1") => `(tactic| first
  | with_reducible refine k_seq ?_
  | with_reducible refine k_set ?_
  | with_reducible refine k_asg ?_
  | with_reducible refine k_par ?_
  | with_reducible refine k_par2 ?_
  | with_reducible refine k_drop ?_
  | with_reducible refine k_ret ?_
  | with_reducible refine k_next ?_
  | with_reducible refine k_if ?_
  | ((with_reducible refine' k_aug ?hv ?_); (case hv => exact rfl))
  | with_reducible refine k_ipI ?_
  | with_reducible refine k_gname ?_
  | with_reducible refine k_gsub ?_
  | ((with_reducible refine' k_gtup ?hv ?hw ?_); (case hv => walk_at "st"); (case hw => rfl))
  | with_reducible refine k_gcons ?_
  | with_reducible refine k_gnil ?_
  | with_reducible refine k_test ?_
  | with_reducible refine k_B ?_
  | with_reducible refine k_blE ?_
  | with_reducible refine k_and ?_
  | with_reducible refine k_or ?_
  | with_reducible refine k_not ?_
  | with_reducible refine iteT ?_
  | with_reducible refine iteF ?_
  | with_reducible refine iteNT ?_
  | with_reducible refine iteNF ?_
  | ((with_reducible refine' k_var ?hv ?_); (case hv => exact rfl))
  | with_reducible refine k_c ?_
  | with_reducible refine k_op ?_
  | with_reducible refine k_un ?_
  | with_reducible refine k_U ?_
  | with_reducible refine k_I0 ?_
  | ((with_reducible refine' k_I ?hv ?_); (case hv => walk_at "ic"))
  | with_reducible refine k_eqI ?_
  | with_reducible refine k_neI ?_
  | with_reducible refine k_eqS ?_
  | with_reducible refine k_neS ?_
  | with_reducible refine k_eqB ?_
  | with_reducible refine k_neB ?_
  | with_reducible refine k_for ?_
  | with_reducible refine k_iE ?_
  | with_reducible refine k_iA ?_
  | ((with_reducible refine' k_itl ?hv ?_); (case hv => walk_at "sl"))
  | ((with_reducible refine' k_itt ?hv ?_); (case hv => walk_at "st"))
  | with_reducible refine k_its ?_
  | ((with_reducible refine' k_rg1n ?hv ?_); (case hv => first | decide | omega))
  | ((with_reducible refine' k_rg1 ?hv ?hw ?_); (case hv => first | decide | omega); (case hw => first | decide | omega))
  | ((with_reducible refine' k_inS ?hv ?_); (case hv => walk_at "sa"))
  | ((with_reducible refine' k_inI ?hv ?_); (case hv => walk_at "sa"))
  | ((with_reducible refine' k_ninS ?hv ?_); (case hv => walk_at "sa"))
  | ((with_reducible refine' k_ninI ?hv ?_); (case hv => walk_at "sa"))
  | ((with_reducible refine' k_zipl ?hv ?hw ?_); (case hv => walk_at "sl"); (case hw => walk_at "sl"))
  | with_reducible refine k_nil ?_
  | with_reducible refine k_cons ?_
  | with_reducible refine k_cb ?_
  | with_reducible refine k_call ?_
  | with_reducible refine k_lst ?_
  | with_reducible refine k_tup ?_
  | with_reducible refine k_ifx ?_
  | with_reducible refine k_andv ?_
  | with_reducible refine k_orv ?_
  | with_reducible refine k_notv ?_
  | with_reducible refine k_inti ?_
  | with_reducible refine k_intb ?_
  | with_reducible refine k_sl ?_
  | with_reducible refine k_nopart ?_
  | with_reducible refine k_part ?_
  | with_reducible refine k_parti ?_
  | ((with_reducible refine' k_lenl ?hv ?_); (case hv => walk_at "sl"))
  | ((with_reducible refine' k_lent ?hv ?_); (case hv => walk_at "st"))
  | ((with_reducible refine' k_lens ?hv ?_); (case hv => exact szl (by walk_at "ln")))
  | ((with_reducible refine' k_lena ?hv ?_); (case hv => walk_at "sa"))
  | ((with_reducible refine' k_ixl ?hv ?hn ?_); (case hv => walk_at "sl"); (case hn => first | rfl | assumption))
  | ((with_reducible refine' k_ixt ?hv ?hn ?_); (case hv => walk_at "st"); (case hn => first | rfl | assumption))
  | ((with_reducible refine' k_ixa ?hv ?hn ?_); (case hv => walk_at "sa"); (case hn => first | rfl | assumption))
  | with_reducible refine k_chain ?_
  | ((with_reducible refine' k_isi ?hv ?hw ?_); (case hv => walk_at "ty"); (case hw => walk_at "kb"))
  | ((with_reducible refine' k_isi2 ?hb ?hp ?hv ?hw ?hx ?_); (case hp => walk_at "gt"); (case hv => walk_at "ty"); (case hw => walk_at "kb"); (case hx => walk_at "kb"); (case hb => first | exact or_t | exact or_f))
  | ((with_reducible refine' k_all ?hv ?_); (case hv => walk_at "gt"))
  | ((with_reducible refine' k_any ?hv ?_); (case hv => walk_at "gt"))
  | with_reducible refine k_insign ?_
  | with_reducible refine k_fldR ?_
  | ((with_reducible refine' k_fl ?hv ?_); (case hv => walk_at "fl"))
  | with_reducible refine k_sfld ?_
  | with_reducible refine k_meth ?_
  | ((with_reducible refine' k_mt ?hv ?_); (case hv => walk_at "mt"))
  | with_reducible refine k_make ?_
  | ((with_reducible refine' k_own ?hv ?hw ?_); (case hv => walk_at "is"); (case hw => walk_at "is"))
  | ((with_reducible refine' k_ownin ?hv ?_); (case hv => walk_at "is"))
  | ((with_reducible refine' k_lenO ?hv ?_); (case hv => walk_at "is"))
  | with_reducible refine k_prop ?_
  | ((with_reducible refine' k_pr ?hv ?_); (case hv => walk_at "is"))
  | ((with_reducible refine' k_ownI ?hv ?_); (case hv => walk_at "is"))
  | ((with_reducible refine' k_ownR ?hv ?_); (case hv => walk_at "is"))
  | with_reducible refine k_mx ?_
  | with_reducible refine k_mn ?_
  | with_reducible refine k_lrg ?_
  | with_reducible refine k_rgt ?_
  | with_reducible refine k_rgti ?_
  | with_reducible refine k_bm ?_
  | with_reducible refine k_bm0 ?_
  | with_reducible refine k_tys ?_
  | ((with_reducible refine' k_tyl ?hv ?_); (case hv => walk_at "sl"))
  | ((with_reducible refine' k_ext ?hv ?hw ?hn ?_); (case hv => walk_at "gt"); (case hw => walk_at "gt"); (case hn => walk_at "ln"))
  | ((with_reducible refine' k_app ?hv ?hn ?_); (case hv => walk_at "gt"); (case hn => walk_at "ln"))
  | ((with_reducible refine' k_popat ?hv ?hn ?hw ?_); (case hv => walk_at "gt"); (case hn => with_reducible assumption); (case hw => walk_at "ln"))
  | with_reducible refine k_lc ?_
  | with_reducible refine k_yes0 ?_
  | ((with_reducible show wipe _ _ = wipe _ _ ∧ _); refine ⟨rfl, ?_⟩)
  | ((with_reducible refine' k_adds ?hv ?_); (case hv => walk_at "ln"))
  | ((with_reducible refine' k_st1 ?hv ?_); (case hv => walk_at "gt"))
  | ((with_reducible refine' k_st2 ?hv ?_); (case hv => walk_at "gt"))
  | ((with_reducible refine' k_st3 ?hv ?_); (case hv => walk_at "gt"))
  | ((with_reducible refine' k_setl ?hv ?hn ?_); (case hv => walk_at "gt"); (case hn => rfl)))
local macro_rules | `(tactic| walk_at "put") => `(tactic| ((refine' ⟨_, ?ha, sz ?hb, ?_⟩); (case ha => walk_at "gt"); (case hb => walk_at "ln")))
local macro_rules | `(tactic| walk_at "go") => `(tactic| repeat (walk_at "s1"))
local macro_rules | `(tactic| walk_at "dv") => `(tactic| first | exact rfl | with_reducible assumption)
local macro_rules | `(tactic| walk_at "dt") => `(tactic| first | with_reducible assumption | with_reducible exact .int | with_reducible exact .str | with_reducible exact .bl | with_reducible exact .non | with_reducible exact .lst | with_reducible exact .tup | with_reducible exact .dk | ((with_reducible refine' TyD.ins ?hc); (case hc => with_reducible assumption)))
local macro_rules | `(tactic| walk_at "dm") => `(tactic| first | exact trivial | exact List.mem_cons_self | exact List.mem_cons_of_mem _ List.mem_cons_self | exact List.mem_cons_of_mem _ (List.mem_cons_of_mem _ List.mem_cons_self))
local macro_rules | `(tactic| walk_at "dy") => `(tactic| first | exact Or.inl rfl | exact Or.inr rfl)
local macro_rules | `(tactic| walk_at "xExD") => `(tactic| first
  | ((with_reducible refine' ex_re ?hX ?_); (case hX => assumption))
  | ((with_reducible refine' ex_re2 ?hX ?_); (case hX => assumption))
  | ((with_reducible refine' ex_rz ?hX ?_); (case hX => assumption)))
local macro_rules | `(tactic| walk_at "xOpD") => `(tactic| first
  | ((with_reducible refine' od_ownX ?hX ?_); (case hX => assumption))
  | ((with_reducible refine' od_ownIX ?hX ?_); (case hX => assumption)))
local macro_rules | `(tactic| walk_at "xEvD") => `(tactic| first
  | ((with_reducible refine' ev_callT ?hX ?_); (case hX => assumption))
  | ((with_reducible refine' ev_callX ?hX ?_); (case hX => assumption))
  | ((with_reducible refine' ev_methX ?hX ?_); (case hX => assumption))
  | ((with_reducible refine' ev_makeX ?hX ?_); (case hX => assumption))
  | ((with_reducible refine' ev_kwX ?hX ?_); (case hX => assumption))
  | ((with_reducible refine' ev_mkKwX ?hX ?_); (case hX => assumption)))
local macro_rules | `(tactic| walk_at "gEvD") => `(tactic| first
  | ((with_reducible refine' ev_var ?hv ?_); (case hv => exact rfl))
  | ((with_reducible refine' ev_varO ?hv ?_); (case hv => exact rfl))
  | with_reducible refine ev_ci ?_
  | with_reducible refine ev_cs ?_
  | with_reducible refine ev_cb ?_
  | with_reducible refine ev_cn ?_
  | ((with_reducible refine' ev_kt ?h ?_); (case h => with_reducible assumption))
  | with_reducible refine ev_cr ?_
  | with_reducible refine ev_ct ?_
  | with_reducible refine ev_new (evN_op (r := rCat) ?_)
  | with_reducible refine ev_new (evN_op (r := rRep) ?_)
  | ((with_reducible refine' ev_ixO ?hv ?_); (case hv => exact rfl))
  | with_reducible refine ev_op ?_
  | with_reducible refine ev_un ?_
  | with_reducible refine ev_isi2 ?_
  | with_reducible refine ev_isi4 ?_
  | ((with_reducible refine' ev_new (evN_listO ?hv ?_)); (case hv => exact rfl))
  | with_reducible refine ev_new (evN_cb1 (f := rListOf _) ?_)
  | ((with_reducible refine' ev_lenO ?hv ?_); (case hv => exact rfl))
  | with_reducible refine ev_cb1 ?_
  | with_reducible refine ev_lst ?_
  | with_reducible refine ev_dnew ?_
  | with_reducible refine ev_tup ?_
  | with_reducible refine ev_if ?_
  | with_reducible refine ev_and ?_
  | with_reducible refine ev_or ?_
  | with_reducible refine ev_not ?_
  | with_reducible refine ev_chain ?_
  | ((with_reducible refine' ev_new (evN_lcO ?hv ?_)); (case hv => exact rfl))
  | with_reducible refine ev_new (evN_lc ?_)
  | with_reducible refine ev_new (evN_sl ?_)
  | with_reducible refine ev_slT ?_
  | ((with_reducible refine' ev_fldS (n := 0) ?hv ?hc ?hn ?h1 ?h2 ?_); (case hv => exact rfl); (case hc => with_reducible assumption); (case hn => with_reducible assumption); (case h1 => decide +kernel); (case h2 => exact rfl))
  | ((with_reducible refine' ev_fldS (n := 1) ?hv ?hc ?hn ?h1 ?h2 ?_); (case hv => exact rfl); (case hc => with_reducible assumption); (case hn => with_reducible assumption); (case h1 => decide +kernel); (case h2 => exact rfl))
  | ((with_reducible refine' ev_fldS (n := 2) ?hv ?hc ?hn ?h1 ?h2 ?_); (case hv => exact rfl); (case hc => with_reducible assumption); (case hn => with_reducible assumption); (case h1 => decide +kernel); (case h2 => exact rfl))
  | ((with_reducible refine' ev_fldS (n := 3) ?hv ?hc ?hn ?h1 ?h2 ?_); (case hv => exact rfl); (case hc => with_reducible assumption); (case hn => with_reducible assumption); (case h1 => decide +kernel); (case h2 => exact rfl))
  | with_reducible refine ev_fld ?_
  | with_reducible refine ev_call ?_
  | with_reducible refine ev_kw ?_
  | with_reducible refine ev_mkKw ?_
  | with_reducible refine ev_meth ?_
  | with_reducible refine ev_prop ?_
  | with_reducible refine ev_make ?_)
local macro_rules | `(tactic| walk_at "gOpD") => `(tactic| first
  | with_reducible refine od_int ?_
  | with_reducible refine od_bl ?_
  | ((with_reducible refine' od_I ?hv ?_); (case hv => walk_at "ic"))
  | with_reducible refine od_ip ?_
  | with_reducible refine od_eqI ?_
  | with_reducible refine od_neI ?_
  | with_reducible refine od_eqS ?_
  | with_reducible refine od_neS ?_
  | with_reducible refine od_eqB ?_
  | with_reducible refine od_neB ?_
  | with_reducible refine od_isbl ?_
  | ((with_reducible refine' od_ixl ?hv ?_); (case hv => walk_at "dv"))
  | ((with_reducible refine' od_ixt ?hv ?_); (case hv => walk_at "dv"))
  | ((with_reducible refine' od_ixL ?hv ?_); (case hv => walk_at "dv"))
  | ((with_reducible refine' od_ixT ?hv ?_); (case hv => walk_at "dv"))
  | ((with_reducible refine' od_inN ?hv ?_); (case hv => walk_at "dy"))
  | ((with_reducible refine' od_inI ?hv ?_); (case hv => walk_at "dy"))
  | ((with_reducible refine' od_inS ?hv ?_); (case hv => walk_at "dy"))
  | with_reducible refine od_sign ?_
  | ((with_reducible refine' od_adds ?hv ?_); (case hv => walk_at "ln"))
  | with_reducible refine od_own ?_
  | with_reducible refine od_ownI ?_
  | with_reducible refine od_ownR ?_
  | with_reducible refine od_ownin ?_)
local macro_rules | `(tactic| walk_at "gExD") => `(tactic| first
  | with_reducible refine ex_seq ?_
  | ((with_reducible refine' ex_new (te := tLst tNil) ?hi ?_); (case hi => exact Nat.le_of_ble_eq_true rfl))
  | ((with_reducible refine' ex_newO ?hi ?_); (case hi => exact Nat.le_of_ble_eq_true rfl))
  | with_reducible refine ex_set ?_
  | with_reducible refine ex_asg ?_
  | ((with_reducible refine' ex_par ?hi ?_); (case hi => decide))
  | with_reducible refine ex_par3 ?_
  | ((with_reducible refine' ex_retO ?hv ?_); (case hv => exact rfl))
  | with_reducible refine ex_ret ?_
  | with_reducible refine ex_retN ?_
  | with_reducible refine ex_next ?_
  | with_reducible refine ex_break ?_
  | with_reducible refine ex_cont ?_
  | with_reducible refine ex_ifB ?_
  | ((with_reducible refine' ex_aug ?hv ?_); (case hv => exact rfl))
  | ((with_reducible refine' ex_app ?hv ?hl ?_); (case hv => exact rfl); (case hl => walk_at "ln"))
  | ((with_reducible refine' ex_insO ?hv ?hl ?_); (case hv => exact rfl); (case hl => walk_at "ln"))
  | ((with_reducible refine' ex_fld ?hv ?hc ?hn ?hl ?_); (case hv => exact rfl); (case hc => with_reducible assumption); (case hn => with_reducible assumption); (case hl => exact Nat.le_of_ble_eq_true rfl))
  | ((with_reducible refine' ex_extO ?hv ?_); (case hv => exact rfl))
  | ((with_reducible refine' ex_clrO ?hv ?_); (case hv => exact rfl))
  | with_reducible refine ex_drop ?_
  | with_reducible refine ex_for ?_)
local macro_rules | `(tactic| walk_at "gEvT") => `(tactic| first
  | with_reducible refine et_test ?_
  | with_reducible refine et_B ?_
  | with_reducible refine et_and ?_
  | with_reducible refine et_or ?_
  | with_reducible refine et_not ?_
  | with_reducible refine et_yes ?_)
local macro_rules | `(tactic| walk_at "gite") => `(tactic| first
  | with_reducible refine iteT ?_
  | with_reducible refine iteF ?_
  | with_reducible refine iteNT ?_
  | with_reducible refine iteNF ?_)
local macro_rules | `(tactic| walk_at "gUnD") => `(tactic| first
  | with_reducible refine ud_U ?_
  | ((with_reducible refine' fW_name ?hT ?_); (case hT => assumption))
  | ((with_reducible refine' fW_rows ?hT ?_); (case hT => assumption))
  | ((with_reducible refine' fE_work ?hT ?_); (case hT => assumption))
  | ((with_reducible refine' fE_nums ?hT ?_); (case hT => assumption))
  | ((with_reducible refine' fP_edition ?hT ?_); (case hT => assumption))
  | ((with_reducible refine' fP_count ?hT ?_); (case hT => assumption))
  | ((with_reducible refine' fK_work ?hT ?_); (case hT => assumption))
  | ((with_reducible refine' fK_rows ?hT ?_); (case hT => assumption))
  | ((with_reducible refine' fK_told ?hT ?_); (case hT => assumption))
  | ((with_reducible refine' fS_rule ?hT ?_); (case hT => assumption))
  | ((with_reducible refine' fS_tables ?hT ?_); (case hT => assumption))
  | ((with_reducible refine' fS_spots ?hT ?_); (case hT => assumption))
  | ((with_reducible refine' fS_held ?hT ?_); (case hT => assumption))
  | ((with_reducible refine' fS_stamps ?hT ?_); (case hT => assumption))
  | ((with_reducible refine' fS_row ?hT ?_); (case hT => assumption))
  | ((with_reducible refine' fS_top ?hT ?_); (case hT => assumption))
  | ((with_reducible refine' fS_come ?hT ?_); (case hT => assumption))
  | ((with_reducible refine' fR_parts ?hT ?_); (case hT => assumption))
  | ((with_reducible refine' fR_way ?hT ?_); (case hT => assumption)))
local macro_rules | `(tactic| walk_at "gCbD") => `(tactic| first
  | ((with_reducible refine' cd_isi ?ht ?hk ?_); (case ht => walk_at "dt"); (case hk => walk_at "kb"))
  | ((with_reducible refine' cd_isiO ?ht ?hk ?_); (case ht => walk_at "dt"); (case hk => first | with_reducible assumption | exact kit_same))
  | ((with_reducible refine' cd_lens ?hv ?_); (case hv => walk_at "ln"))
  | with_reducible refine cd_len ?_
  | with_reducible refine cd_all ?_
  | with_reducible refine cd_any ?_
  | with_reducible refine cd_int ?_
  | with_reducible refine cd_intb ?_
  | with_reducible refine cd_mx ?_
  | with_reducible refine cd_mn ?_
  | with_reducible refine cd_tuple ?_
  | with_reducible refine cd_lenO ?_)
local macro_rules | `(tactic| walk_at "gEvI") => `(tactic| first
  | with_reducible refine ei_seq ?_
  | with_reducible refine ei_str ?_
  | with_reducible refine ei_rg1 ?_
  | with_reducible refine ei_rg2 ?_
  | with_reducible refine ei_enum ?_
  | with_reducible refine ei_zip ?_
  | with_reducible refine ei_zipA ?_
  | with_reducible refine ei_zipB ?_
  | with_reducible refine ei_zipB3 ?_)
local macro_rules | `(tactic| walk_at "gEvN") => `(tactic| first
  | ((with_reducible refine' evN_listO ?hv ?_); (case hv => exact rfl))
  | ((with_reducible refine' evN_lcO ?hv ?_); (case hv => exact rfl))
  | with_reducible refine evN_lc ?_
  | with_reducible refine evN_sl ?_
  | with_reducible refine evN_op ?_
  | with_reducible refine evN_cb1 ?_
  | with_reducible refine evN_lst ?_)
local macro_rules | `(tactic| walk_at "d1") => `(tactic| first
  | ((with_reducible show EvD _ _ _ _ _); walk_at "gEvD")
  | ((with_reducible show OpD _ _ _ _ _ _); walk_at "gOpD")
  | with_reducible refine ev_nil ?_
  | with_reducible refine ev_cons ?_
  | ((with_reducible show ExD _ _ _ _ _); walk_at "gExD")
  | ((with_reducible show EvT _ _ _ _ _); walk_at "gEvT")
  | with_reducible refine isB_mk ?_
  | walk_at "gite"
  | ((with_reducible show UnD _ _ _ _ _); walk_at "gUnD")
  | ((with_reducible show CbD _ _ _ _ _); walk_at "gCbD")
  | ((with_reducible refine' tg_name ?hi ?_); (case hi => walk_at "dm"))
  | ((with_reducible refine' tg_tup ?hi ?_); (case hi => exact rfl))
  | ((with_reducible refine' tg_unl ?hi ?_); (case hi => exact rfl))
  | with_reducible refine tg_cons ?_
  | with_reducible refine tg_nil ?_
  | ((with_reducible show EvI _ _ _ _ _); walk_at "gEvI")
  | ((with_reducible refine' few_mk ?hl ?_); (case hl => exact Nat.le_of_ble_eq_true rfl))
  | ((with_reducible show EvN _ _ _ _ _); walk_at "gEvN")
  | ((with_reducible refine' on_cat ?hv ?_); (case hv => walk_at "ln"))
  | ((with_reducible refine' on_rep ?hv ?hw ?_); (case hv => walk_at "ln"); (case hw => walk_at "ln"))
  | with_reducible refine cn_list ?_
  | with_reducible refine eo_no ?_
  | with_reducible refine eo_part ?_
  | with_reducible refine seq_l ?_
  | with_reducible refine seq_t ?_
  | with_reducible refine ⟨insD_mk (by decide +kernel), ?_⟩)
local macro_rules | `(tactic| walk_at "dx") => `(tactic| first
  | ((with_reducible show EvD _ _ _ _ _); walk_at "xEvD")
  | ((with_reducible show OpD _ _ _ _ _ _); walk_at "xOpD")
  | ((with_reducible show ExD _ _ _ _ _); walk_at "xExD"))
local macro_rules | `(tactic| walk_at "dX") => `(tactic| repeat (first | walk_at "d1" | walk_at "dx"))
local macro_rules | `(tactic| walk_at "dg") => `(tactic| repeat (walk_at "d1"))
section
set_option maxRecDepth 100000
set_option maxHeartbeats 2000000

section
variable {K : PySem.W.Frag} {S : Sx} {ρ : List Sl} {Φ : D → Prop} {ta tb : TE}
theorem q_out : ("q" : Str) ∉ allWords := by decide +kernel
theorem Words.q {ws : List Str} {n : Nat} (h : Words ws n) : ("q" : Str) ∉ ws := fun z => q_out (h.mem z)
/-- an if-expression whose arms answer alike -/
theorem ite_ev {c : Prop} [Decidable c] (d : D) (h : if c then EvD K S ta ρ fun x => x = d else EvD K S tb ρ fun x => x = d) (k : Φ d) : if c then EvD K S ta ρ Φ else EvD K S tb ρ Φ := by
  by_cases q : c
  · rw [if_pos q] at h
    rw [if_pos q]
    exact h.imp fun x e => by rw [e]; exact k
  · rw [if_neg q] at h
    rw [if_neg q]
    exact h.imp fun x e => by rw [e]; exact k
end
section
variable {P : Program} {w : World} {K : PySem.W.Frag} {mg : Str → Option Value} {base : Heap} {Z : Cs}
end
end
/-! d.update(e); sum(lists, []). -/
section
set_option maxRecDepth 100000
set_option maxHeartbeats 2000000
open PySem PySem.Spec PyProof.Rows L2
section
variable {prog : Program} {w : World} {A : Around} {E : Value → Shared → Prop} {s : Shared}
end
end
/-! Dicts: frozen ones, one's own. -/
section
set_option maxRecDepth 100000
set_option maxHeartbeats 2000000
section
variable {K : PySem.W.Frag} {S : Sx} {ρ : List Sl} {Φ : D → Prop} {O : Oc} {ta tb tc te to ti : TE} {i w k : Nat} {d y dw : D} {ds : List D} {ks : List Key} {γ : Gh} {a : Addr} {m : Bool} {F H : Hp} {z : Str} {Θ : D → Gh → List Sl → Prop}
end
end
/-! Things that are no lists and no tuples. -/
section
set_option maxRecDepth 100000
set_option maxHeartbeats 2000000
open PySem PySem.Spec PyProof.Rows L2
/-- no list and no tuple -/
def noSq (K : PySem.W.Frag) (x : D) : Prop := ∃ t, TyD K x t ∧ PySem.W.kitOne K t (.type "list") = some false ∧ PySem.W.kitOne K t (.type "tuple") = some false
def itsD : D → Option (List D)
  | .lst its => some its
  | .tup its => some its
  | _ => none
section
variable {K : PySem.W.Frag}
theorem noSq_str {z : Str} : noSq K (.str z) := ⟨_, .str, kb_str_list, kb_str_tuple⟩
theorem noSq.none {K : PySem.W.Frag} {x : D} (h : noSq K x) : itsD x = none := by
  obtain ⟨t, h1, h2, h3⟩ := h
  cases x with
  | lst ds => cases h1; rw [show PySem.W.kitOne K (.type "list") (.type "list") = some true from kb_list_list] at h2; cases h2
  | tup ds => cases h1; rw [show PySem.W.kitOne K (.type "tuple") (.type "tuple") = some true from kb_tuple_tuple] at h3; cases h3
  | _ => rfl
end
end
/-! The cuts and counts of editions at the level of data. -/
section
set_option maxRecDepth 100000
set_option maxHeartbeats 2000000

section
variable {P : Program} {w : World} {K : PySem.W.Frag} {mg : Str → Option Value} {base : Heap} {Z : Cs}
end
end
/-! More of works and editions: whole, len, equality. -/
section
set_option maxRecDepth 100000
set_option maxHeartbeats 2000000

section
variable {P : Program} {w : World} {K : PySem.W.Frag} {mg : Str → Option Value} {base : Heap} {Z : Cs}
end
end
/-! Things handed over as lists or tuples, and changed behind. -/
section
set_option maxRecDepth 100000
set_option maxHeartbeats 2000000
open PySem PySem.Spec PyProof.Rows L2
mutual
/-- no list, no dict within -/
def D.noL : D → Bool
  | .non => true | .bl _ => true | .int _ => true | .str _ => true | .raw _ => true | .drw => true | .any => true
  | .tup ds => D.noLs ds
  | .ins _ _ ds => D.noLs ds
  | _ => false
def D.noLs : List D → Bool
  | [] => true
  | d :: ds => D.noL d && D.noLs ds
end
/-- F without some cells -/
def offG (F : Hp) (γ : Gh) : Hp := fun b => if b ∈ γ.map Prod.fst then none else F b
section
variable {K : PySem.W.Frag} {S : Sx} {ρ : List Sl} {Φ : D → Prop} {Ψ : List D → Prop} {Χ : Bool → Prop} {O : Oc} {ta tb tc te to ti : TE} {tr : TA} {tt tu : TT} {t u : TS} {g : TG} {wi : TI} {i j w k n : Nat} {d x y dw : D} {ds xs : List D} {γ γ1 γ2 γr : Gh} {a : Addr} {c c' : Cl} {m : Bool} {Θ : D → Gh → List Sl → Prop}
theorem offG_out {F : Hp} {b : Addr} (h : b ∉ γ.map Prod.fst) : offG F γ b = F b := if_neg h
mutual
theorem Dat.off {F : Hp} (hl : ∀ a, a ∈ γ.map Prod.fst → ∃ vs, F a = some (.lst vs)) : ∀ (d : D) {v : V}, d.noL = true → Dat K S F d v → Dat K S (offG F γ) d v
  | .non, _, _, h => h
  | .bl _, _, _, h => h
  | .int _, _, _, h => h
  | .str _, _, _, h => h
  | .raw _, _, _, h => h
  | .any, _, _, h => h
  | .drw, _, _, h => h
  | .tup ds, _, n, ⟨a, vs, e, h1, h2⟩ => by
    refine ⟨a, vs, e, ?_, Dats.off hl ds n h2⟩
    rcases h1 with (h | ⟨b, h⟩) | h
    · refine .inl (.inl ?_)
      rw [offG_out]
      · exact h
      · intro z
        obtain ⟨us, e2⟩ := hl a z
        rw [h] at e2
        cases e2
    · refine .inl (.inr ⟨b, ?_⟩)
      rw [offG_out]
      · exact h
      · intro z
        obtain ⟨us, e2⟩ := hl a z
        rw [h] at e2
        cases e2
    · exact .inr h
  | .ins _ _ ds, _, n, ⟨a, dx, gs, e, h1, h2, h3⟩ => by
    refine ⟨a, dx, gs, e, ?_, h2, Dats.off hl ds n h3⟩
    rw [offG_out]
    · exact h1
    · intro z
      obtain ⟨us, e2⟩ := hl a z
      rw [h1] at e2
      cases e2
  | .lst _, _, n, _ => by cases n
  | .dk _ _, _, n, _ => by cases n
  | .ol _, _, n, _ => by cases n
  | .oi _ _ _, _, n, _ => by cases n
  | .od _ _, _, n, _ => by cases n
  | .pin _ _, _, n, _ => by cases n
theorem Dats.off {F : Hp} (hl : ∀ a, a ∈ γ.map Prod.fst → ∃ vs, F a = some (.lst vs)) : ∀ (ds : List D) {vs : List V}, D.noLs ds = true → Dats K S F ds vs → Dats K S (offG F γ) ds vs
  | [], _, _, h => h
  | d :: ds, _, n, ⟨v, us, e, h1, h2⟩ => by
    have n' : (D.noL d && D.noLs ds) = true := n
    rw [Bool.and_eq_true] at n'
    exact ⟨v, us, e, Dat.off hl d n'.1 h1, Dats.off hl ds n'.2 h2⟩
end
theorem evx_if (h : EvT K S tt ρ fun b => if b = true then EvX K S ta ρ Θ else EvX K S tb ρ Θ) : EvX K S (tIf tt ta tb) ρ Θ := fun F0 H0 σ F H e o ag d0 Q q =>
  h σ F H e ag.ok ag.dr _ fun b F1 H1 hb g1 => by
    cases b with
    | true => exact hb F0 H0 σ F1 H1 (e.ag g1) o (ag.trans g1 d0) d0 Q q
    | false => exact hb F0 H0 σ F1 H1 (e.ag g1) o (ag.trans g1 d0) d0 Q q
end
/-- a list of one's own, or a tuple -/
def Hnd (xs : List D) (d : D) (γ : Gh) : Prop := (d = .tup xs ∧ γ = []) ∨ ∃ a, d = pD a ∧ γ = [(a, .l xs)]
theorem Hnd.see {K : PySem.W.Frag} {xs : List D} {d : D} {γ : Gh} (h : Hnd xs d γ) : ∃ e, (e = .lst xs ∨ e = .tup xs) ∧ Rd K [.obj true d γ] d e ∧ ∀ a c, (a, c) ∈ γ → ∃ ds, c = .l ds := by
  rcases h with ⟨rfl, rfl⟩ | ⟨a, rfl, rfl⟩
  · exact ⟨_, .inr (Eq.refl _), Rd.rfl, fun a c h => nomatch h⟩
  · exact ⟨_, .inl (Eq.refl _), Rd.cl (.of 0 (Eq.refl _) List.mem_cons_self) Rds.rfl, fun b c h => by cases List.mem_singleton.mp h; exact ⟨_, Eq.refl _⟩⟩
end
end Lf
namespace Lf
open PySem PySem.Spec PyProof.Rows L2
local macro_rules | `(tactic| walk_at "nq") => `(tactic| first | with_reducible assumption | with_reducible exact Ne.symm (by assumption) | with_reducible exact ne_of_none (by assumption) (by assumption) | with_reducible exact Ne.symm (ne_of_none (by assumption) (by assumption)))
local macro_rules | `(tactic| walk_at "gt") => `(tactic| first | with_reducible assumption | with_reducible exact upd_same | ((with_reducible refine' upd_new ?ha ?hb); (case hb => with_reducible assumption); (case ha => walk_at "gt")) | ((with_reducible refine' upd_old ?ha ?hb); (case hb => walk_at "nq"); (case ha => walk_at "gt")) | ((with_reducible refine' sm_get ?hb ?ha); (case hb => with_reducible assumption); (case ha => walk_at "gt")) | ((with_reducible refine' fr_get ?hb ?ha ?hc); (case hb => with_reducible assumption); (case hc => walk_at "nq"); (case ha => walk_at "gt")))
local macro_rules | `(tactic| walk_at "sl") => `(tactic| first | with_reducible assumption | ((with_reducible refine' sl_of ?ha); (case ha => walk_at "gt")) | ((with_reducible refine' sl_new ?ha ?hb); (case hb => with_reducible assumption); (case ha => walk_at "sl")) | ((with_reducible refine' sl_sm ?hb ?ha); (case hb => with_reducible assumption); (case ha => walk_at "sl")) | ((with_reducible refine' sl_fr ?hb ?hc ?ha); (case hb => with_reducible assumption); (case hc => walk_at "nq"); (case ha => walk_at "sl")))
local macro_rules | `(tactic| walk_at "st") => `(tactic| first | with_reducible assumption | ((with_reducible refine' st_of ?ha); (case ha => walk_at "gt")) | ((with_reducible refine' st_new ?ha ?hb); (case hb => with_reducible assumption); (case ha => walk_at "st")) | ((with_reducible refine' st_sm ?hb ?ha); (case hb => with_reducible assumption); (case ha => walk_at "st")) | ((with_reducible refine' st_fr ?hb ?hc ?ha); (case hb => with_reducible assumption); (case hc => walk_at "nq"); (case ha => walk_at "st")))
local macro_rules | `(tactic| walk_at "sa") => `(tactic| first | with_reducible assumption | ((with_reducible refine' sa_l ?ha); (case ha => walk_at "gt")) | ((with_reducible refine' sa_t ?ha); (case ha => walk_at "gt")) | ((with_reducible refine' sa_new ?ha ?hb); (case hb => with_reducible assumption); (case ha => walk_at "sa")) | ((with_reducible refine' sa_sm ?hb ?ha); (case hb => with_reducible assumption); (case ha => walk_at "sa")) | ((with_reducible refine' sa_fr ?hb ?hc ?ha); (case hb => with_reducible assumption); (case hc => walk_at "nq"); (case ha => walk_at "sa")) | ((with_reducible refine' Or.inl ?ha); (case ha => walk_at "sl")) | ((with_reducible refine' Or.inr ?ha); (case ha => walk_at "st")))
local macro_rules | `(tactic| walk_at "ln") => `(tactic| first | decide | omega | exact Nat.le_of_ble_eq_true rfl | (simp only [List.length_append, List.length_map, List.length_cons, List.length_nil, List.length_flatMap]; omega))
local macro_rules | `(tactic| walk_at "ty") => `(tactic| first | with_reducible assumption | with_reducible exact .base (.int _) | with_reducible exact .base (.str _) | with_reducible exact .base (.bl _) | with_reducible exact .base .non | ((with_reducible refine' TyX.base (TyOf.lst ?ha)); (case ha => walk_at "gt")) | ((with_reducible refine' TyX.base (TyOf.tup ?ha)); (case ha => walk_at "gt")) | ((with_reducible refine' TyX.base (TyOf.dK ?ha)); (case ha => walk_at "gt")) | ((with_reducible refine' ty_new ?ha ?hb); (case hb => with_reducible assumption); (case ha => walk_at "ty")) | ((with_reducible refine' ty_sm ?hb ?ha); (case hb => with_reducible assumption); (case ha => walk_at "ty")))
local macro_rules | `(tactic| walk_at "kb") => `(tactic| first | with_reducible assumption | exact kb_str_str | exact kb_int_str | exact kb_list_str | exact kb_tuple_str | exact kb_bool_str | exact kb_NoneType_str | exact kb_dict_str | exact kb_str_int | exact kb_int_int | exact kb_list_int | exact kb_tuple_int | exact kb_bool_int | exact kb_NoneType_int | exact kb_dict_int | exact kb_str_bool | exact kb_int_bool | exact kb_list_bool | exact kb_tuple_bool | exact kb_bool_bool | exact kb_NoneType_bool | exact kb_dict_bool | exact kb_str_list | exact kb_int_list | exact kb_list_list | exact kb_tuple_list | exact kb_bool_list | exact kb_NoneType_list | exact kb_dict_list | exact kb_str_tuple | exact kb_int_tuple | exact kb_list_tuple | exact kb_tuple_tuple | exact kb_bool_tuple | exact kb_NoneType_tuple | exact kb_dict_tuple | exact kb_str_dict | exact kb_int_dict | exact kb_list_dict | exact kb_tuple_dict | exact kb_bool_dict | exact kb_NoneType_dict | exact kb_dict_dict)
local macro_rules | `(tactic| walk_at "wk") => `(tactic| first | with_reducible assumption | ((with_reducible refine' WkAt.new ?ha ?hb); (case hb => with_reducible assumption); (case ha => walk_at "wk")) | ((with_reducible refine' WkAt.sm ?hb ?ha); (case hb => with_reducible assumption); (case ha => walk_at "wk")) | ((with_reducible refine' WkAt.dr ?hb ?hc ?ha); (case hb => with_reducible assumption); (case hc => with_reducible assumption); (case ha => walk_at "wk")))
local macro_rules | `(tactic| walk_at "ed") => `(tactic| first | with_reducible assumption | ((with_reducible refine' EdAt.new ?ha ?hb); (case hb => with_reducible assumption); (case ha => walk_at "ed")) | ((with_reducible refine' EdAt.sm ?hb ?ha); (case hb => with_reducible assumption); (case ha => walk_at "ed")) | ((with_reducible refine' EdAt.dr ?hb ?hc ?ha); (case hb => with_reducible assumption); (case hc => with_reducible assumption); (case ha => walk_at "ed")))
local macro_rules | `(tactic| walk_at "pl") => `(tactic| first | with_reducible assumption | ((with_reducible refine' PlAt.new ?ha ?hb); (case hb => with_reducible assumption); (case ha => walk_at "pl")) | ((with_reducible refine' PlAt.sm ?hb ?ha); (case hb => with_reducible assumption); (case ha => walk_at "pl")) | ((with_reducible refine' PlAt.dr ?hb ?hc ?ha); (case hb => with_reducible assumption); (case hc => with_reducible assumption); (case ha => walk_at "pl")))
local macro_rules | `(tactic| walk_at "fl") => `(tactic| first | with_reducible assumption | ((with_reducible refine' WkAt.rows ?hT ?hW); (case hT => assumption); (case hW => walk_at "wk")) | ((with_reducible refine' WkAt.name ?hT ?hW); (case hT => assumption); (case hW => walk_at "wk")) | ((with_reducible refine' EdAt.work ?hT ?hW); (case hT => assumption); (case hW => walk_at "ed")) | ((with_reducible refine' EdAt.nums ?hT ?hW); (case hT => assumption); (case hW => walk_at "ed")) | ((with_reducible refine' PlAt.edition ?hT ?hW); (case hT => assumption); (case hW => walk_at "pl")) | ((with_reducible refine' PlAt.count ?hT ?hW); (case hT => assumption); (case hW => walk_at "pl")))
local macro_rules | `(tactic| walk_at "mt") => `(tactic| first | with_reducible assumption | ((with_reducible refine' WkAt.mt ?hn1 ?hn2 ?hW); (case hW => walk_at "wk"); (case hn1 => decide +kernel); (case hn2 => decide +kernel)) | ((with_reducible refine' EdAt.mt ?hn1 ?hn2 ?hW); (case hW => walk_at "ed"); (case hn1 => decide +kernel); (case hn2 => decide +kernel)) | ((with_reducible refine' PlAt.mt ?hn1 ?hn2 ?hW); (case hW => walk_at "pl"); (case hn1 => decide +kernel); (case hn2 => decide +kernel)))
local macro_rules | `(tactic| walk_at "is") => `(tactic| first | with_reducible assumption | ((with_reducible refine' WkAt.is ?hW); (case hW => walk_at "wk")) | ((with_reducible refine' EdAt.is ?hW); (case hW => walk_at "ed")) | ((with_reducible refine' PlAt.is ?hW); (case hW => walk_at "pl")))
local macro_rules | `(tactic| walk_at "ic") => `(tactic| first
  | ((with_reducible show CMul _ _); first | exact Or.inl ⟨by decide, by decide⟩ | exact Or.inr ⟨by decide, by decide⟩ | exact Or.inl ⟨by omega, by omega⟩ | exact Or.inr ⟨by omega, by omega⟩)
  | ((with_reducible show CDiv _ _); first | exact ⟨by decide, by decide⟩ | exact ⟨by omega, by omega⟩)
  | ((with_reducible show CPow _ _); first | exact ⟨by decide, by decide, by decide⟩ | exact ⟨by decide, by decide, by omega⟩)
  | (show (0 : Int) < _; first | decide | omega))
local macro_rules | `(tactic| walk_at "s1") => `(tactic| first
  | with_reducible refine k_seq ?_
  | with_reducible refine k_set ?_
  | with_reducible refine k_asg ?_
  | with_reducible refine k_par ?_
  | with_reducible refine k_par2 ?_
  | with_reducible refine k_drop ?_
  | with_reducible refine k_ret ?_
  | with_reducible refine k_next ?_
  | with_reducible refine k_if ?_
  | ((with_reducible refine' k_aug ?hv ?_); (case hv => exact rfl))
  | with_reducible refine k_ipI ?_
  | with_reducible refine k_gname ?_
  | with_reducible refine k_gsub ?_
  | ((with_reducible refine' k_gtup ?hv ?hw ?_); (case hv => walk_at "st"); (case hw => rfl))
  | with_reducible refine k_gcons ?_
  | with_reducible refine k_gnil ?_
  | with_reducible refine k_test ?_
  | with_reducible refine k_B ?_
  | with_reducible refine k_blE ?_
  | with_reducible refine k_and ?_
  | with_reducible refine k_or ?_
  | with_reducible refine k_not ?_
  | with_reducible refine iteT ?_
  | with_reducible refine iteF ?_
  | with_reducible refine iteNT ?_
  | with_reducible refine iteNF ?_
  | ((with_reducible refine' k_var ?hv ?_); (case hv => exact rfl))
  | with_reducible refine k_c ?_
  | with_reducible refine k_op ?_
  | with_reducible refine k_un ?_
  | with_reducible refine k_U ?_
  | with_reducible refine k_I0 ?_
  | ((with_reducible refine' k_I ?hv ?_); (case hv => walk_at "ic"))
  | with_reducible refine k_eqI ?_
  | with_reducible refine k_neI ?_
  | with_reducible refine k_eqS ?_
  | with_reducible refine k_neS ?_
  | with_reducible refine k_eqB ?_
  | with_reducible refine k_neB ?_
  | with_reducible refine k_for ?_
  | with_reducible refine k_iE ?_
  | with_reducible refine k_iA ?_
  | ((with_reducible refine' k_itl ?hv ?_); (case hv => walk_at "sl"))
  | ((with_reducible refine' k_itt ?hv ?_); (case hv => walk_at "st"))
  | with_reducible refine k_its ?_
  | ((with_reducible refine' k_rg1n ?hv ?_); (case hv => first | decide | omega))
  | ((with_reducible refine' k_rg1 ?hv ?hw ?_); (case hv => first | decide | omega); (case hw => first | decide | omega))
  | ((with_reducible refine' k_inS ?hv ?_); (case hv => walk_at "sa"))
  | ((with_reducible refine' k_inI ?hv ?_); (case hv => walk_at "sa"))
  | ((with_reducible refine' k_ninS ?hv ?_); (case hv => walk_at "sa"))
  | ((with_reducible refine' k_ninI ?hv ?_); (case hv => walk_at "sa"))
  | ((with_reducible refine' k_zipl ?hv ?hw ?_); (case hv => walk_at "sl"); (case hw => walk_at "sl"))
  | with_reducible refine k_nil ?_
  | with_reducible refine k_cons ?_
  | with_reducible refine k_cb ?_
  | with_reducible refine k_call ?_
  | with_reducible refine k_lst ?_
  | with_reducible refine k_tup ?_
  | with_reducible refine k_ifx ?_
  | with_reducible refine k_andv ?_
  | with_reducible refine k_orv ?_
  | with_reducible refine k_notv ?_
  | with_reducible refine k_inti ?_
  | with_reducible refine k_intb ?_
  | with_reducible refine k_sl ?_
  | with_reducible refine k_nopart ?_
  | with_reducible refine k_part ?_
  | with_reducible refine k_parti ?_
  | ((with_reducible refine' k_lenl ?hv ?_); (case hv => walk_at "sl"))
  | ((with_reducible refine' k_lent ?hv ?_); (case hv => walk_at "st"))
  | ((with_reducible refine' k_lens ?hv ?_); (case hv => exact szl (by walk_at "ln")))
  | ((with_reducible refine' k_lena ?hv ?_); (case hv => walk_at "sa"))
  | ((with_reducible refine' k_ixl ?hv ?hn ?_); (case hv => walk_at "sl"); (case hn => first | rfl | assumption))
  | ((with_reducible refine' k_ixt ?hv ?hn ?_); (case hv => walk_at "st"); (case hn => first | rfl | assumption))
  | ((with_reducible refine' k_ixa ?hv ?hn ?_); (case hv => walk_at "sa"); (case hn => first | rfl | assumption))
  | with_reducible refine k_chain ?_
  | ((with_reducible refine' k_isi ?hv ?hw ?_); (case hv => walk_at "ty"); (case hw => walk_at "kb"))
  | ((with_reducible refine' k_isi2 ?hb ?hp ?hv ?hw ?hx ?_); (case hp => walk_at "gt"); (case hv => walk_at "ty"); (case hw => walk_at "kb"); (case hx => walk_at "kb"); (case hb => first | exact or_t | exact or_f))
  | ((with_reducible refine' k_all ?hv ?_); (case hv => walk_at "gt"))
  | ((with_reducible refine' k_any ?hv ?_); (case hv => walk_at "gt"))
  | with_reducible refine k_insign ?_
  | with_reducible refine k_fldR ?_
  | ((with_reducible refine' k_fl ?hv ?_); (case hv => walk_at "fl"))
  | with_reducible refine k_sfld ?_
  | with_reducible refine k_meth ?_
  | ((with_reducible refine' k_mt ?hv ?_); (case hv => walk_at "mt"))
  | with_reducible refine k_make ?_
  | ((with_reducible refine' k_own ?hv ?hw ?_); (case hv => walk_at "is"); (case hw => walk_at "is"))
  | ((with_reducible refine' k_ownin ?hv ?_); (case hv => walk_at "is"))
  | ((with_reducible refine' k_lenO ?hv ?_); (case hv => walk_at "is"))
  | with_reducible refine k_prop ?_
  | ((with_reducible refine' k_pr ?hv ?_); (case hv => walk_at "is"))
  | ((with_reducible refine' k_ownI ?hv ?_); (case hv => walk_at "is"))
  | ((with_reducible refine' k_ownR ?hv ?_); (case hv => walk_at "is"))
  | with_reducible refine k_mx ?_
  | with_reducible refine k_mn ?_
  | with_reducible refine k_lrg ?_
  | with_reducible refine k_rgt ?_
  | with_reducible refine k_rgti ?_
  | with_reducible refine k_bm ?_
  | with_reducible refine k_bm0 ?_
  | with_reducible refine k_tys ?_
  | ((with_reducible refine' k_tyl ?hv ?_); (case hv => walk_at "sl"))
  | ((with_reducible refine' k_ext ?hv ?hw ?hn ?_); (case hv => walk_at "gt"); (case hw => walk_at "gt"); (case hn => walk_at "ln"))
  | ((with_reducible refine' k_app ?hv ?hn ?_); (case hv => walk_at "gt"); (case hn => walk_at "ln"))
  | ((with_reducible refine' k_popat ?hv ?hn ?hw ?_); (case hv => walk_at "gt"); (case hn => with_reducible assumption); (case hw => walk_at "ln"))
  | with_reducible refine k_lc ?_
  | with_reducible refine k_yes0 ?_
  | ((with_reducible show wipe _ _ = wipe _ _ ∧ _); refine ⟨rfl, ?_⟩)
  | ((with_reducible refine' k_adds ?hv ?_); (case hv => walk_at "ln"))
  | ((with_reducible refine' k_st1 ?hv ?_); (case hv => walk_at "gt"))
  | ((with_reducible refine' k_st2 ?hv ?_); (case hv => walk_at "gt"))
  | ((with_reducible refine' k_st3 ?hv ?_); (case hv => walk_at "gt"))
  | ((with_reducible refine' k_setl ?hv ?hn ?_); (case hv => walk_at "gt"); (case hn => rfl)))
local macro_rules | `(tactic| walk_at "put") => `(tactic| ((refine' ⟨_, ?ha, sz ?hb, ?_⟩); (case ha => walk_at "gt"); (case hb => walk_at "ln")))
local macro_rules | `(tactic| walk_at "go") => `(tactic| repeat (walk_at "s1"))
local macro_rules | `(tactic| walk_at "dv") => `(tactic| first | exact rfl | with_reducible assumption)
local macro_rules | `(tactic| walk_at "dt") => `(tactic| first | with_reducible assumption | with_reducible exact .int | with_reducible exact .str | with_reducible exact .bl | with_reducible exact .non | with_reducible exact .lst | with_reducible exact .tup | with_reducible exact .dk | ((with_reducible refine' TyD.ins ?hc); (case hc => with_reducible assumption)))
local macro_rules | `(tactic| walk_at "dm") => `(tactic| first | exact trivial | exact List.mem_cons_self | exact List.mem_cons_of_mem _ List.mem_cons_self | exact List.mem_cons_of_mem _ (List.mem_cons_of_mem _ List.mem_cons_self))
local macro_rules | `(tactic| walk_at "dy") => `(tactic| first | exact Or.inl rfl | exact Or.inr rfl)
local macro_rules | `(tactic| walk_at "xExD") => `(tactic| first
  | ((with_reducible refine' ex_re ?hX ?_); (case hX => assumption))
  | ((with_reducible refine' ex_re2 ?hX ?_); (case hX => assumption))
  | ((with_reducible refine' ex_rz ?hX ?_); (case hX => assumption)))
local macro_rules | `(tactic| walk_at "xOpD") => `(tactic| first
  | ((with_reducible refine' od_ownX ?hX ?_); (case hX => assumption))
  | ((with_reducible refine' od_ownIX ?hX ?_); (case hX => assumption)))
local macro_rules | `(tactic| walk_at "xEvD") => `(tactic| first
  | ((with_reducible refine' ev_callT ?hX ?_); (case hX => assumption))
  | ((with_reducible refine' ev_callX ?hX ?_); (case hX => assumption))
  | ((with_reducible refine' ev_methX ?hX ?_); (case hX => assumption))
  | ((with_reducible refine' ev_makeX ?hX ?_); (case hX => assumption))
  | ((with_reducible refine' ev_kwX ?hX ?_); (case hX => assumption))
  | ((with_reducible refine' ev_mkKwX ?hX ?_); (case hX => assumption)))
local macro_rules | `(tactic| walk_at "gEvD") => `(tactic| first
  | ((with_reducible refine' ev_var ?hv ?_); (case hv => exact rfl))
  | ((with_reducible refine' ev_varO ?hv ?_); (case hv => exact rfl))
  | with_reducible refine ev_ci ?_
  | with_reducible refine ev_cs ?_
  | with_reducible refine ev_cb ?_
  | with_reducible refine ev_cn ?_
  | ((with_reducible refine' ev_kt ?h ?_); (case h => with_reducible assumption))
  | with_reducible refine ev_cr ?_
  | with_reducible refine ev_ct ?_
  | with_reducible refine ev_new (evN_op (r := rCat) ?_)
  | with_reducible refine ev_new (evN_op (r := rRep) ?_)
  | ((with_reducible refine' ev_ixO ?hv ?_); (case hv => exact rfl))
  | with_reducible refine ev_op ?_
  | with_reducible refine ev_un ?_
  | with_reducible refine ev_isi2 ?_
  | with_reducible refine ev_isi4 ?_
  | ((with_reducible refine' ev_new (evN_listO ?hv ?_)); (case hv => exact rfl))
  | with_reducible refine ev_new (evN_cb1 (f := rListOf _) ?_)
  | ((with_reducible refine' ev_lenO ?hv ?_); (case hv => exact rfl))
  | with_reducible refine ev_cb1 ?_
  | with_reducible refine ev_lst ?_
  | with_reducible refine ev_dnew ?_
  | with_reducible refine ev_tup ?_
  | with_reducible refine ev_if ?_
  | with_reducible refine ev_and ?_
  | with_reducible refine ev_or ?_
  | with_reducible refine ev_not ?_
  | with_reducible refine ev_chain ?_
  | ((with_reducible refine' ev_new (evN_lcO ?hv ?_)); (case hv => exact rfl))
  | with_reducible refine ev_new (evN_lc ?_)
  | with_reducible refine ev_new (evN_sl ?_)
  | with_reducible refine ev_slT ?_
  | ((with_reducible refine' ev_fldS (n := 0) ?hv ?hc ?hn ?h1 ?h2 ?_); (case hv => exact rfl); (case hc => with_reducible assumption); (case hn => with_reducible assumption); (case h1 => decide +kernel); (case h2 => exact rfl))
  | ((with_reducible refine' ev_fldS (n := 1) ?hv ?hc ?hn ?h1 ?h2 ?_); (case hv => exact rfl); (case hc => with_reducible assumption); (case hn => with_reducible assumption); (case h1 => decide +kernel); (case h2 => exact rfl))
  | ((with_reducible refine' ev_fldS (n := 2) ?hv ?hc ?hn ?h1 ?h2 ?_); (case hv => exact rfl); (case hc => with_reducible assumption); (case hn => with_reducible assumption); (case h1 => decide +kernel); (case h2 => exact rfl))
  | ((with_reducible refine' ev_fldS (n := 3) ?hv ?hc ?hn ?h1 ?h2 ?_); (case hv => exact rfl); (case hc => with_reducible assumption); (case hn => with_reducible assumption); (case h1 => decide +kernel); (case h2 => exact rfl))
  | with_reducible refine ev_fld ?_
  | with_reducible refine ev_call ?_
  | with_reducible refine ev_kw ?_
  | with_reducible refine ev_mkKw ?_
  | with_reducible refine ev_meth ?_
  | with_reducible refine ev_prop ?_
  | with_reducible refine ev_make ?_)
local macro_rules | `(tactic| walk_at "gOpD") => `(tactic| first
  | with_reducible refine od_int ?_
  | with_reducible refine od_bl ?_
  | ((with_reducible refine' od_I ?hv ?_); (case hv => walk_at "ic"))
  | with_reducible refine od_ip ?_
  | with_reducible refine od_eqI ?_
  | with_reducible refine od_neI ?_
  | with_reducible refine od_eqS ?_
  | with_reducible refine od_neS ?_
  | with_reducible refine od_eqB ?_
  | with_reducible refine od_neB ?_
  | with_reducible refine od_isbl ?_
  | ((with_reducible refine' od_ixl ?hv ?_); (case hv => walk_at "dv"))
  | ((with_reducible refine' od_ixt ?hv ?_); (case hv => walk_at "dv"))
  | ((with_reducible refine' od_ixL ?hv ?_); (case hv => walk_at "dv"))
  | ((with_reducible refine' od_ixT ?hv ?_); (case hv => walk_at "dv"))
  | ((with_reducible refine' od_inN ?hv ?_); (case hv => walk_at "dy"))
  | ((with_reducible refine' od_inI ?hv ?_); (case hv => walk_at "dy"))
  | ((with_reducible refine' od_inS ?hv ?_); (case hv => walk_at "dy"))
  | with_reducible refine od_sign ?_
  | ((with_reducible refine' od_adds ?hv ?_); (case hv => walk_at "ln"))
  | with_reducible refine od_own ?_
  | with_reducible refine od_ownI ?_
  | with_reducible refine od_ownR ?_
  | with_reducible refine od_ownin ?_)
local macro_rules | `(tactic| walk_at "gExD") => `(tactic| first
  | with_reducible refine ex_seq ?_
  | ((with_reducible refine' ex_new (te := tLst tNil) ?hi ?_); (case hi => exact Nat.le_of_ble_eq_true rfl))
  | ((with_reducible refine' ex_newO ?hi ?_); (case hi => exact Nat.le_of_ble_eq_true rfl))
  | with_reducible refine ex_set ?_
  | with_reducible refine ex_asg ?_
  | ((with_reducible refine' ex_par ?hi ?_); (case hi => decide))
  | with_reducible refine ex_par3 ?_
  | ((with_reducible refine' ex_retO ?hv ?_); (case hv => exact rfl))
  | with_reducible refine ex_ret ?_
  | with_reducible refine ex_retN ?_
  | with_reducible refine ex_next ?_
  | with_reducible refine ex_break ?_
  | with_reducible refine ex_cont ?_
  | with_reducible refine ex_ifB ?_
  | ((with_reducible refine' ex_aug ?hv ?_); (case hv => exact rfl))
  | ((with_reducible refine' ex_app ?hv ?hl ?_); (case hv => exact rfl); (case hl => walk_at "ln"))
  | ((with_reducible refine' ex_insO ?hv ?hl ?_); (case hv => exact rfl); (case hl => walk_at "ln"))
  | ((with_reducible refine' ex_fld ?hv ?hc ?hn ?hl ?_); (case hv => exact rfl); (case hc => with_reducible assumption); (case hn => with_reducible assumption); (case hl => exact Nat.le_of_ble_eq_true rfl))
  | ((with_reducible refine' ex_extO ?hv ?_); (case hv => exact rfl))
  | ((with_reducible refine' ex_clrO ?hv ?_); (case hv => exact rfl))
  | with_reducible refine ex_drop ?_
  | with_reducible refine ex_for ?_)
local macro_rules | `(tactic| walk_at "gEvT") => `(tactic| first
  | with_reducible refine et_test ?_
  | with_reducible refine et_B ?_
  | with_reducible refine et_and ?_
  | with_reducible refine et_or ?_
  | with_reducible refine et_not ?_
  | with_reducible refine et_yes ?_)
local macro_rules | `(tactic| walk_at "gite") => `(tactic| first
  | with_reducible refine iteT ?_
  | with_reducible refine iteF ?_
  | with_reducible refine iteNT ?_
  | with_reducible refine iteNF ?_)
local macro_rules | `(tactic| walk_at "gUnD") => `(tactic| first
  | with_reducible refine ud_U ?_
  | ((with_reducible refine' fW_name ?hT ?_); (case hT => assumption))
  | ((with_reducible refine' fW_rows ?hT ?_); (case hT => assumption))
  | ((with_reducible refine' fE_work ?hT ?_); (case hT => assumption))
  | ((with_reducible refine' fE_nums ?hT ?_); (case hT => assumption))
  | ((with_reducible refine' fP_edition ?hT ?_); (case hT => assumption))
  | ((with_reducible refine' fP_count ?hT ?_); (case hT => assumption))
  | ((with_reducible refine' fK_work ?hT ?_); (case hT => assumption))
  | ((with_reducible refine' fK_rows ?hT ?_); (case hT => assumption))
  | ((with_reducible refine' fK_told ?hT ?_); (case hT => assumption))
  | ((with_reducible refine' fS_rule ?hT ?_); (case hT => assumption))
  | ((with_reducible refine' fS_tables ?hT ?_); (case hT => assumption))
  | ((with_reducible refine' fS_spots ?hT ?_); (case hT => assumption))
  | ((with_reducible refine' fS_held ?hT ?_); (case hT => assumption))
  | ((with_reducible refine' fS_stamps ?hT ?_); (case hT => assumption))
  | ((with_reducible refine' fS_row ?hT ?_); (case hT => assumption))
  | ((with_reducible refine' fS_top ?hT ?_); (case hT => assumption))
  | ((with_reducible refine' fS_come ?hT ?_); (case hT => assumption))
  | ((with_reducible refine' fR_parts ?hT ?_); (case hT => assumption))
  | ((with_reducible refine' fR_way ?hT ?_); (case hT => assumption)))
local macro_rules | `(tactic| walk_at "gCbD") => `(tactic| first
  | ((with_reducible refine' cd_isi ?ht ?hk ?_); (case ht => walk_at "dt"); (case hk => walk_at "kb"))
  | ((with_reducible refine' cd_isiO ?ht ?hk ?_); (case ht => walk_at "dt"); (case hk => first | with_reducible assumption | exact kit_same))
  | ((with_reducible refine' cd_lens ?hv ?_); (case hv => walk_at "ln"))
  | with_reducible refine cd_len ?_
  | with_reducible refine cd_all ?_
  | with_reducible refine cd_any ?_
  | with_reducible refine cd_int ?_
  | with_reducible refine cd_intb ?_
  | with_reducible refine cd_mx ?_
  | with_reducible refine cd_mn ?_
  | with_reducible refine cd_tuple ?_
  | with_reducible refine cd_lenO ?_)
local macro_rules | `(tactic| walk_at "gEvI") => `(tactic| first
  | with_reducible refine ei_seq ?_
  | with_reducible refine ei_str ?_
  | with_reducible refine ei_rg1 ?_
  | with_reducible refine ei_rg2 ?_
  | with_reducible refine ei_enum ?_
  | with_reducible refine ei_zip ?_
  | with_reducible refine ei_zipA ?_
  | with_reducible refine ei_zipB ?_
  | with_reducible refine ei_zipB3 ?_)
local macro_rules | `(tactic| walk_at "gEvN") => `(tactic| first
  | ((with_reducible refine' evN_listO ?hv ?_); (case hv => exact rfl))
  | ((with_reducible refine' evN_lcO ?hv ?_); (case hv => exact rfl))
  | with_reducible refine evN_lc ?_
  | with_reducible refine evN_sl ?_
  | with_reducible refine evN_op ?_
  | with_reducible refine evN_cb1 ?_
  | with_reducible refine evN_lst ?_)
local macro_rules | `(tactic| walk_at "d1") => `(tactic| first
  | ((with_reducible show EvD _ _ _ _ _); walk_at "gEvD")
  | ((with_reducible show OpD _ _ _ _ _ _); walk_at "gOpD")
  | with_reducible refine ev_nil ?_
  | with_reducible refine ev_cons ?_
  | ((with_reducible show ExD _ _ _ _ _); walk_at "gExD")
  | ((with_reducible show EvT _ _ _ _ _); walk_at "gEvT")
  | with_reducible refine isB_mk ?_
  | walk_at "gite"
  | ((with_reducible show UnD _ _ _ _ _); walk_at "gUnD")
  | ((with_reducible show CbD _ _ _ _ _); walk_at "gCbD")
  | ((with_reducible refine' tg_name ?hi ?_); (case hi => walk_at "dm"))
  | ((with_reducible refine' tg_tup ?hi ?_); (case hi => exact rfl))
  | ((with_reducible refine' tg_unl ?hi ?_); (case hi => exact rfl))
  | with_reducible refine tg_cons ?_
  | with_reducible refine tg_nil ?_
  | ((with_reducible show EvI _ _ _ _ _); walk_at "gEvI")
  | ((with_reducible refine' few_mk ?hl ?_); (case hl => exact Nat.le_of_ble_eq_true rfl))
  | ((with_reducible show EvN _ _ _ _ _); walk_at "gEvN")
  | ((with_reducible refine' on_cat ?hv ?_); (case hv => walk_at "ln"))
  | ((with_reducible refine' on_rep ?hv ?hw ?_); (case hv => walk_at "ln"); (case hw => walk_at "ln"))
  | with_reducible refine cn_list ?_
  | with_reducible refine eo_no ?_
  | with_reducible refine eo_part ?_
  | with_reducible refine seq_l ?_
  | with_reducible refine seq_t ?_
  | with_reducible refine ⟨insD_mk (by decide +kernel), ?_⟩)
local macro_rules | `(tactic| walk_at "dx") => `(tactic| first
  | ((with_reducible show EvD _ _ _ _ _); walk_at "xEvD")
  | ((with_reducible show OpD _ _ _ _ _ _); walk_at "xOpD")
  | ((with_reducible show ExD _ _ _ _ _); walk_at "xExD"))
local macro_rules | `(tactic| walk_at "dX") => `(tactic| repeat (first | walk_at "d1" | walk_at "dx"))
local macro_rules | `(tactic| walk_at "dg") => `(tactic| repeat (walk_at "d1"))
section
set_option maxRecDepth 100000
set_option maxHeartbeats 2000000

section
variable {P : Program} {w : World} {K : PySem.W.Frag} {mg : Str → Option Value} {base : Heap}
end
end
/-! Rules: fields, what is shown. -/
section
set_option maxRecDepth 100000
set_option maxHeartbeats 2000000
/-- a written tuple of texts -/
def KTup (K : PySem.W.Frag) (a : Addr) (ws : List Str) : Prop := ∃ (o : Obj) (its : Array Value) (n : Nat), K.lookup a = some o ∧ o.cls = .type "tuple" ∧ o.data = .seq its n ∧ its.size ≤ sizeLine ∧ Vals (ws.map V.str) its.toList
theorem x_kd {X : Cx} (K : PySem.W.Frag) (w : World) (h : X.K = K := by rfl) (hw : X.w = w := by rfl) : IxR X (rIxD K w) := by
  subst h hw
  exact ix_kdict
section
variable {K : PySem.W.Frag} {S : Sx} {ρ : List Sl} {Φ : D → Prop} {w : World} {a d : Addr} {z : Str} {ws : List Str}
theorem KTup.dat {F : Hp} (h : KTup K a ws) : Dat K S F (.tup (dS ws)) (.ref a) := by
  obtain ⟨o, its, n, h1, h2, h3, h4, h5⟩ := h
  exact ⟨a, _, rfl, .inr ⟨o, its, n, h1, h2, h3, h4, h5⟩, dats_dS.mpr rfl⟩
theorem ev_kt (h : KTup K a ws) (k : Φ (.tup (dS ws))) : EvD K S (tC (.ref a)) ρ Φ := ev_cK (fun S F => h.dat) k
theorem od_kd (h : KDct K w d z (.ref a)) (h2 : KTup K a ws) (k : Φ (.tup (dS ws))) : OpD K S (rIxD K w) (.raw (.ref d)) (.str z) Φ := fun u v F H s dr h3 h4 Q q => by
  cases h3
  cases h4
  exact ⟨d, z, .ref a, rfl, rfl, h, q _ _ F H k h2.dat (Ag.refl s dr)⟩
end
/-- the class of rules and the written tables -/
structure Ra where
  R : Addr
  P : Addr
  W : Addr
  D : Addr
structure Tr (K : PySem.W.Frag) (mg : Str → Option Value) (Yr : Ra) : Prop where
  mg : mg "Rule" = some (.ref Yr.R)
  ca : PySem.W.findIn K (.ref Yr.R) "__class__" = some (some (.builtin "object.__class__"))
  cm : PySem.W.mroIn K Yr.R (.type "object") = some true
  cl : Cls K Yr.R
  nParts : NoAttr K Yr.R "parts"
  nWay : NoAttr K Yr.R "way"
abbrev partsL : List Str := ["read", "jump", "anew", "give", "take", "kept"]
abbrev waysL : List Str := ["stay", "field", "greater"]
def wordsL : List (List Str) := [["no", "last", "raise", "row"], ["no", "last", "raise", "lower"], ["no", "least"], ["no", "last", "raise", "later"], ["no", "last", "raise", "later"], ["exact", "floored"]]
structure Trc (K : PySem.W.Frag) (w : World) (mg : Str → Option Value) (Yr : Ra) : Prop where
  parts : mg "PARTS" = some (.ref Yr.P)
  ways : mg "WAYS" = some (.ref Yr.W)
  words : mg "WORDS" = some (.ref Yr.D)
  most : ∃ t, mg "MOST_FIELDS" = some (.int 3 t)
  kP : KTup K Yr.P partsL
  kW : KTup K Yr.W waysL
  kD : ∀ (i : Nat) (p : Str) (us : List Str), partsL[i]? = some p → wordsL[i]? = some us → ∃ t, KDct K w Yr.D p (.ref t) ∧ KTup K t us
theorem cut_tl (a : Str) (us : List Str) : cutD (dS (a :: us)) (some 1) none = dS us := by
  rw [show (1 : Int) = ((1 : Nat) : Int) from rfl, cutD_from]
  rfl
theorem dS_mem {ws : List Str} {i : Nat} {y : D} (h : (dS ws)[i]? = some y) : ∃ u, ws[i]? = some u ∧ y = .str u := by
  unfold dS at h
  rw [List.getElem?_map] at h
  cases e : ws[i]? with
  | none => rw [e] at h; cases h
  | some u => rw [e] at h; exact ⟨u, rfl, (Option.some.inj h).symm⟩
/-- a field -/
def OkF (f : List Str) : Prop := ∃ (a : Str) (us : List Str), f = a :: us ∧ isW a = true ∧ us.length = 6 ∧ ∀ (i : Nat) (u : Str) (vs : List Str), us[i]? = some u → wordsL[i]? = some vs → u ∈ vs
def headF (f : List Str) : Str := f.headD ""
/-- the fields of a rule, what it shows -/
structure OkR (rows : List (List Str)) (way nm : Str) : Prop where
  ne : 0 < rows.length
  le : rows.length ≤ 3
  ok : ∀ f ∈ rows, OkF f
  nd : (rows.map headF).Nodup
  way : way ∈ waysL
  nm : nm ∈ rows.map headF
abbrev dF (f : List Str) : D := .tup (dS f)
abbrev dR (Yr : Ra) (rows : List (List Str)) (way nm : Str) : D := .ins Yr.R ["parts", "way"] [.lst (rows.map dF), .tup [.str way, .str nm]]
/-- a row that is handed over -/
def RowD (x : D) (f : List Str) : Prop := x = .tup (dS f) ∨ x = .lst (dS f)
theorem OkF.len {f : List Str} (h : OkF f) : f.length = 7 := by
  obtain ⟨a, us, rfl, _, h2, _⟩ := h
  rw [List.length_cons, h2]
section
variable {K : PySem.W.Frag} {mg : Str → Option Value} {Yr : Ra} {S : Sx} {Φ : D → Prop} {rows : List (List Str)} {way nm : Str}
theorem fR_parts (U : Tr K mg Yr) (k : Φ (.lst (rows.map dF))) : UnD K S (rFld K "parts") (dR Yr rows way nm) Φ := ud_fld U.cl U.nParts (n := 0) (by decide +kernel) rfl k
theorem fR_way (U : Tr K mg Yr) (k : Φ (.tup [.str way, .str nm])) : UnD K S (rFld K "way") (dR Yr rows way nm) Φ := ud_fld U.cl U.nWay (n := 1) (by decide +kernel) rfl k
end
end
end Lf
namespace Lf
open PySem PySem.Spec PyProof.Rows L2
local macro_rules | `(tactic| walk_at "nq") => `(tactic| first | with_reducible assumption | with_reducible exact Ne.symm (by assumption) | with_reducible exact ne_of_none (by assumption) (by assumption) | with_reducible exact Ne.symm (ne_of_none (by assumption) (by assumption)))
local macro_rules | `(tactic| walk_at "gt") => `(tactic| first | with_reducible assumption | with_reducible exact upd_same | ((with_reducible refine' upd_new ?ha ?hb); (case hb => with_reducible assumption); (case ha => walk_at "gt")) | ((with_reducible refine' upd_old ?ha ?hb); (case hb => walk_at "nq"); (case ha => walk_at "gt")) | ((with_reducible refine' sm_get ?hb ?ha); (case hb => with_reducible assumption); (case ha => walk_at "gt")) | ((with_reducible refine' fr_get ?hb ?ha ?hc); (case hb => with_reducible assumption); (case hc => walk_at "nq"); (case ha => walk_at "gt")))
local macro_rules | `(tactic| walk_at "sl") => `(tactic| first | with_reducible assumption | ((with_reducible refine' sl_of ?ha); (case ha => walk_at "gt")) | ((with_reducible refine' sl_new ?ha ?hb); (case hb => with_reducible assumption); (case ha => walk_at "sl")) | ((with_reducible refine' sl_sm ?hb ?ha); (case hb => with_reducible assumption); (case ha => walk_at "sl")) | ((with_reducible refine' sl_fr ?hb ?hc ?ha); (case hb => with_reducible assumption); (case hc => walk_at "nq"); (case ha => walk_at "sl")))
local macro_rules | `(tactic| walk_at "st") => `(tactic| first | with_reducible assumption | ((with_reducible refine' st_of ?ha); (case ha => walk_at "gt")) | ((with_reducible refine' st_new ?ha ?hb); (case hb => with_reducible assumption); (case ha => walk_at "st")) | ((with_reducible refine' st_sm ?hb ?ha); (case hb => with_reducible assumption); (case ha => walk_at "st")) | ((with_reducible refine' st_fr ?hb ?hc ?ha); (case hb => with_reducible assumption); (case hc => walk_at "nq"); (case ha => walk_at "st")))
local macro_rules | `(tactic| walk_at "sa") => `(tactic| first | with_reducible assumption | ((with_reducible refine' sa_l ?ha); (case ha => walk_at "gt")) | ((with_reducible refine' sa_t ?ha); (case ha => walk_at "gt")) | ((with_reducible refine' sa_new ?ha ?hb); (case hb => with_reducible assumption); (case ha => walk_at "sa")) | ((with_reducible refine' sa_sm ?hb ?ha); (case hb => with_reducible assumption); (case ha => walk_at "sa")) | ((with_reducible refine' sa_fr ?hb ?hc ?ha); (case hb => with_reducible assumption); (case hc => walk_at "nq"); (case ha => walk_at "sa")) | ((with_reducible refine' Or.inl ?ha); (case ha => walk_at "sl")) | ((with_reducible refine' Or.inr ?ha); (case ha => walk_at "st")))
local macro_rules | `(tactic| walk_at "ln") => `(tactic| first | decide | omega | exact Nat.le_of_ble_eq_true rfl | (simp only [List.length_append, List.length_map, List.length_cons, List.length_nil, List.length_flatMap]; omega))
local macro_rules | `(tactic| walk_at "ty") => `(tactic| first | with_reducible assumption | with_reducible exact .base (.int _) | with_reducible exact .base (.str _) | with_reducible exact .base (.bl _) | with_reducible exact .base .non | ((with_reducible refine' TyX.base (TyOf.lst ?ha)); (case ha => walk_at "gt")) | ((with_reducible refine' TyX.base (TyOf.tup ?ha)); (case ha => walk_at "gt")) | ((with_reducible refine' TyX.base (TyOf.dK ?ha)); (case ha => walk_at "gt")) | ((with_reducible refine' ty_new ?ha ?hb); (case hb => with_reducible assumption); (case ha => walk_at "ty")) | ((with_reducible refine' ty_sm ?hb ?ha); (case hb => with_reducible assumption); (case ha => walk_at "ty")))
local macro_rules | `(tactic| walk_at "kb") => `(tactic| first | with_reducible assumption | exact kb_str_str | exact kb_int_str | exact kb_list_str | exact kb_tuple_str | exact kb_bool_str | exact kb_NoneType_str | exact kb_dict_str | exact kb_str_int | exact kb_int_int | exact kb_list_int | exact kb_tuple_int | exact kb_bool_int | exact kb_NoneType_int | exact kb_dict_int | exact kb_str_bool | exact kb_int_bool | exact kb_list_bool | exact kb_tuple_bool | exact kb_bool_bool | exact kb_NoneType_bool | exact kb_dict_bool | exact kb_str_list | exact kb_int_list | exact kb_list_list | exact kb_tuple_list | exact kb_bool_list | exact kb_NoneType_list | exact kb_dict_list | exact kb_str_tuple | exact kb_int_tuple | exact kb_list_tuple | exact kb_tuple_tuple | exact kb_bool_tuple | exact kb_NoneType_tuple | exact kb_dict_tuple | exact kb_str_dict | exact kb_int_dict | exact kb_list_dict | exact kb_tuple_dict | exact kb_bool_dict | exact kb_NoneType_dict | exact kb_dict_dict)
local macro_rules | `(tactic| walk_at "wk") => `(tactic| first | with_reducible assumption | ((with_reducible refine' WkAt.new ?ha ?hb); (case hb => with_reducible assumption); (case ha => walk_at "wk")) | ((with_reducible refine' WkAt.sm ?hb ?ha); (case hb => with_reducible assumption); (case ha => walk_at "wk")) | ((with_reducible refine' WkAt.dr ?hb ?hc ?ha); (case hb => with_reducible assumption); (case hc => with_reducible assumption); (case ha => walk_at "wk")))
local macro_rules | `(tactic| walk_at "ed") => `(tactic| first | with_reducible assumption | ((with_reducible refine' EdAt.new ?ha ?hb); (case hb => with_reducible assumption); (case ha => walk_at "ed")) | ((with_reducible refine' EdAt.sm ?hb ?ha); (case hb => with_reducible assumption); (case ha => walk_at "ed")) | ((with_reducible refine' EdAt.dr ?hb ?hc ?ha); (case hb => with_reducible assumption); (case hc => with_reducible assumption); (case ha => walk_at "ed")))
local macro_rules | `(tactic| walk_at "pl") => `(tactic| first | with_reducible assumption | ((with_reducible refine' PlAt.new ?ha ?hb); (case hb => with_reducible assumption); (case ha => walk_at "pl")) | ((with_reducible refine' PlAt.sm ?hb ?ha); (case hb => with_reducible assumption); (case ha => walk_at "pl")) | ((with_reducible refine' PlAt.dr ?hb ?hc ?ha); (case hb => with_reducible assumption); (case hc => with_reducible assumption); (case ha => walk_at "pl")))
local macro_rules | `(tactic| walk_at "fl") => `(tactic| first | with_reducible assumption | ((with_reducible refine' WkAt.rows ?hT ?hW); (case hT => assumption); (case hW => walk_at "wk")) | ((with_reducible refine' WkAt.name ?hT ?hW); (case hT => assumption); (case hW => walk_at "wk")) | ((with_reducible refine' EdAt.work ?hT ?hW); (case hT => assumption); (case hW => walk_at "ed")) | ((with_reducible refine' EdAt.nums ?hT ?hW); (case hT => assumption); (case hW => walk_at "ed")) | ((with_reducible refine' PlAt.edition ?hT ?hW); (case hT => assumption); (case hW => walk_at "pl")) | ((with_reducible refine' PlAt.count ?hT ?hW); (case hT => assumption); (case hW => walk_at "pl")))
local macro_rules | `(tactic| walk_at "mt") => `(tactic| first | with_reducible assumption | ((with_reducible refine' WkAt.mt ?hn1 ?hn2 ?hW); (case hW => walk_at "wk"); (case hn1 => decide +kernel); (case hn2 => decide +kernel)) | ((with_reducible refine' EdAt.mt ?hn1 ?hn2 ?hW); (case hW => walk_at "ed"); (case hn1 => decide +kernel); (case hn2 => decide +kernel)) | ((with_reducible refine' PlAt.mt ?hn1 ?hn2 ?hW); (case hW => walk_at "pl"); (case hn1 => decide +kernel); (case hn2 => decide +kernel)))
local macro_rules | `(tactic| walk_at "is") => `(tactic| first | with_reducible assumption | ((with_reducible refine' WkAt.is ?hW); (case hW => walk_at "wk")) | ((with_reducible refine' EdAt.is ?hW); (case hW => walk_at "ed")) | ((with_reducible refine' PlAt.is ?hW); (case hW => walk_at "pl")))
local macro_rules | `(tactic| walk_at "ic") => `(tactic| first
  | ((with_reducible show CMul _ _); first | exact Or.inl ⟨by decide, by decide⟩ | exact Or.inr ⟨by decide, by decide⟩ | exact Or.inl ⟨by omega, by omega⟩ | exact Or.inr ⟨by omega, by omega⟩)
  | ((with_reducible show CDiv _ _); first | exact ⟨by decide, by decide⟩ | exact ⟨by omega, by omega⟩)
  | ((with_reducible show CPow _ _); first | exact ⟨by decide, by decide, by decide⟩ | exact ⟨by decide, by decide, by omega⟩)
  | (show (0 : Int) < _; first | decide | omega))
local macro_rules | `(tactic| walk_at "s1") => `(tactic| first
  | with_reducible refine k_seq ?_
  | with_reducible refine k_set ?_
  | with_reducible refine k_asg ?_
  | with_reducible refine k_par ?_
  | with_reducible refine k_par2 ?_
  | with_reducible refine k_drop ?_
  | with_reducible refine k_ret ?_
  | with_reducible refine k_next ?_
  | with_reducible refine k_if ?_
  | ((with_reducible refine' k_aug ?hv ?_); (case hv => exact rfl))
  | with_reducible refine k_ipI ?_
  | with_reducible refine k_gname ?_
  | with_reducible refine k_gsub ?_
  | ((with_reducible refine' k_gtup ?hv ?hw ?_); (case hv => walk_at "st"); (case hw => rfl))
  | with_reducible refine k_gcons ?_
  | with_reducible refine k_gnil ?_
  | with_reducible refine k_test ?_
  | with_reducible refine k_B ?_
  | with_reducible refine k_blE ?_
  | with_reducible refine k_and ?_
  | with_reducible refine k_or ?_
  | with_reducible refine k_not ?_
  | with_reducible refine iteT ?_
  | with_reducible refine iteF ?_
  | with_reducible refine iteNT ?_
  | with_reducible refine iteNF ?_
  | ((with_reducible refine' k_var ?hv ?_); (case hv => exact rfl))
  | with_reducible refine k_c ?_
  | with_reducible refine k_op ?_
  | with_reducible refine k_un ?_
  | with_reducible refine k_U ?_
  | with_reducible refine k_I0 ?_
  | ((with_reducible refine' k_I ?hv ?_); (case hv => walk_at "ic"))
  | with_reducible refine k_eqI ?_
  | with_reducible refine k_neI ?_
  | with_reducible refine k_eqS ?_
  | with_reducible refine k_neS ?_
  | with_reducible refine k_eqB ?_
  | with_reducible refine k_neB ?_
  | with_reducible refine k_for ?_
  | with_reducible refine k_iE ?_
  | with_reducible refine k_iA ?_
  | ((with_reducible refine' k_itl ?hv ?_); (case hv => walk_at "sl"))
  | ((with_reducible refine' k_itt ?hv ?_); (case hv => walk_at "st"))
  | with_reducible refine k_its ?_
  | ((with_reducible refine' k_rg1n ?hv ?_); (case hv => first | decide | omega))
  | ((with_reducible refine' k_rg1 ?hv ?hw ?_); (case hv => first | decide | omega); (case hw => first | decide | omega))
  | ((with_reducible refine' k_inS ?hv ?_); (case hv => walk_at "sa"))
  | ((with_reducible refine' k_inI ?hv ?_); (case hv => walk_at "sa"))
  | ((with_reducible refine' k_ninS ?hv ?_); (case hv => walk_at "sa"))
  | ((with_reducible refine' k_ninI ?hv ?_); (case hv => walk_at "sa"))
  | ((with_reducible refine' k_zipl ?hv ?hw ?_); (case hv => walk_at "sl"); (case hw => walk_at "sl"))
  | with_reducible refine k_nil ?_
  | with_reducible refine k_cons ?_
  | with_reducible refine k_cb ?_
  | with_reducible refine k_call ?_
  | with_reducible refine k_lst ?_
  | with_reducible refine k_tup ?_
  | with_reducible refine k_ifx ?_
  | with_reducible refine k_andv ?_
  | with_reducible refine k_orv ?_
  | with_reducible refine k_notv ?_
  | with_reducible refine k_inti ?_
  | with_reducible refine k_intb ?_
  | with_reducible refine k_sl ?_
  | with_reducible refine k_nopart ?_
  | with_reducible refine k_part ?_
  | with_reducible refine k_parti ?_
  | ((with_reducible refine' k_lenl ?hv ?_); (case hv => walk_at "sl"))
  | ((with_reducible refine' k_lent ?hv ?_); (case hv => walk_at "st"))
  | ((with_reducible refine' k_lens ?hv ?_); (case hv => exact szl (by walk_at "ln")))
  | ((with_reducible refine' k_lena ?hv ?_); (case hv => walk_at "sa"))
  | ((with_reducible refine' k_ixl ?hv ?hn ?_); (case hv => walk_at "sl"); (case hn => first | rfl | assumption))
  | ((with_reducible refine' k_ixt ?hv ?hn ?_); (case hv => walk_at "st"); (case hn => first | rfl | assumption))
  | ((with_reducible refine' k_ixa ?hv ?hn ?_); (case hv => walk_at "sa"); (case hn => first | rfl | assumption))
  | with_reducible refine k_chain ?_
  | ((with_reducible refine' k_isi ?hv ?hw ?_); (case hv => walk_at "ty"); (case hw => walk_at "kb"))
  | ((with_reducible refine' k_isi2 ?hb ?hp ?hv ?hw ?hx ?_); (case hp => walk_at "gt"); (case hv => walk_at "ty"); (case hw => walk_at "kb"); (case hx => walk_at "kb"); (case hb => first | exact or_t | exact or_f))
  | ((with_reducible refine' k_all ?hv ?_); (case hv => walk_at "gt"))
  | ((with_reducible refine' k_any ?hv ?_); (case hv => walk_at "gt"))
  | with_reducible refine k_insign ?_
  | with_reducible refine k_fldR ?_
  | ((with_reducible refine' k_fl ?hv ?_); (case hv => walk_at "fl"))
  | with_reducible refine k_sfld ?_
  | with_reducible refine k_meth ?_
  | ((with_reducible refine' k_mt ?hv ?_); (case hv => walk_at "mt"))
  | with_reducible refine k_make ?_
  | ((with_reducible refine' k_own ?hv ?hw ?_); (case hv => walk_at "is"); (case hw => walk_at "is"))
  | ((with_reducible refine' k_ownin ?hv ?_); (case hv => walk_at "is"))
  | ((with_reducible refine' k_lenO ?hv ?_); (case hv => walk_at "is"))
  | with_reducible refine k_prop ?_
  | ((with_reducible refine' k_pr ?hv ?_); (case hv => walk_at "is"))
  | ((with_reducible refine' k_ownI ?hv ?_); (case hv => walk_at "is"))
  | ((with_reducible refine' k_ownR ?hv ?_); (case hv => walk_at "is"))
  | with_reducible refine k_mx ?_
  | with_reducible refine k_mn ?_
  | with_reducible refine k_lrg ?_
  | with_reducible refine k_rgt ?_
  | with_reducible refine k_rgti ?_
  | with_reducible refine k_bm ?_
  | with_reducible refine k_bm0 ?_
  | with_reducible refine k_tys ?_
  | ((with_reducible refine' k_tyl ?hv ?_); (case hv => walk_at "sl"))
  | ((with_reducible refine' k_ext ?hv ?hw ?hn ?_); (case hv => walk_at "gt"); (case hw => walk_at "gt"); (case hn => walk_at "ln"))
  | ((with_reducible refine' k_app ?hv ?hn ?_); (case hv => walk_at "gt"); (case hn => walk_at "ln"))
  | ((with_reducible refine' k_popat ?hv ?hn ?hw ?_); (case hv => walk_at "gt"); (case hn => with_reducible assumption); (case hw => walk_at "ln"))
  | with_reducible refine k_lc ?_
  | with_reducible refine k_yes0 ?_
  | ((with_reducible show wipe _ _ = wipe _ _ ∧ _); refine ⟨rfl, ?_⟩)
  | ((with_reducible refine' k_adds ?hv ?_); (case hv => walk_at "ln"))
  | ((with_reducible refine' k_st1 ?hv ?_); (case hv => walk_at "gt"))
  | ((with_reducible refine' k_st2 ?hv ?_); (case hv => walk_at "gt"))
  | ((with_reducible refine' k_st3 ?hv ?_); (case hv => walk_at "gt"))
  | ((with_reducible refine' k_setl ?hv ?hn ?_); (case hv => walk_at "gt"); (case hn => rfl)))
local macro_rules | `(tactic| walk_at "put") => `(tactic| ((refine' ⟨_, ?ha, sz ?hb, ?_⟩); (case ha => walk_at "gt"); (case hb => walk_at "ln")))
local macro_rules | `(tactic| walk_at "go") => `(tactic| repeat (walk_at "s1"))
local macro_rules | `(tactic| walk_at "dv") => `(tactic| first | exact rfl | with_reducible assumption)
local macro_rules | `(tactic| walk_at "dt") => `(tactic| first | with_reducible assumption | with_reducible exact .int | with_reducible exact .str | with_reducible exact .bl | with_reducible exact .non | with_reducible exact .lst | with_reducible exact .tup | with_reducible exact .dk | ((with_reducible refine' TyD.ins ?hc); (case hc => with_reducible assumption)))
local macro_rules | `(tactic| walk_at "dm") => `(tactic| first | exact trivial | exact List.mem_cons_self | exact List.mem_cons_of_mem _ List.mem_cons_self | exact List.mem_cons_of_mem _ (List.mem_cons_of_mem _ List.mem_cons_self))
local macro_rules | `(tactic| walk_at "dy") => `(tactic| first | exact Or.inl rfl | exact Or.inr rfl)
local macro_rules | `(tactic| walk_at "xExD") => `(tactic| first
  | ((with_reducible refine' ex_re ?hX ?_); (case hX => assumption))
  | ((with_reducible refine' ex_re2 ?hX ?_); (case hX => assumption))
  | ((with_reducible refine' ex_rz ?hX ?_); (case hX => assumption)))
local macro_rules | `(tactic| walk_at "xOpD") => `(tactic| first
  | ((with_reducible refine' od_ownX ?hX ?_); (case hX => assumption))
  | ((with_reducible refine' od_ownIX ?hX ?_); (case hX => assumption)))
local macro_rules | `(tactic| walk_at "xEvD") => `(tactic| first
  | ((with_reducible refine' ev_callT ?hX ?_); (case hX => assumption))
  | ((with_reducible refine' ev_callX ?hX ?_); (case hX => assumption))
  | ((with_reducible refine' ev_methX ?hX ?_); (case hX => assumption))
  | ((with_reducible refine' ev_makeX ?hX ?_); (case hX => assumption))
  | ((with_reducible refine' ev_kwX ?hX ?_); (case hX => assumption))
  | ((with_reducible refine' ev_mkKwX ?hX ?_); (case hX => assumption)))
local macro_rules | `(tactic| walk_at "gEvD") => `(tactic| first
  | ((with_reducible refine' ev_var ?hv ?_); (case hv => exact rfl))
  | ((with_reducible refine' ev_varO ?hv ?_); (case hv => exact rfl))
  | with_reducible refine ev_ci ?_
  | with_reducible refine ev_cs ?_
  | with_reducible refine ev_cb ?_
  | with_reducible refine ev_cn ?_
  | ((with_reducible refine' ev_kt ?h ?_); (case h => with_reducible assumption))
  | with_reducible refine ev_cr ?_
  | with_reducible refine ev_ct ?_
  | with_reducible refine ev_new (evN_op (r := rCat) ?_)
  | with_reducible refine ev_new (evN_op (r := rRep) ?_)
  | ((with_reducible refine' ev_ixO ?hv ?_); (case hv => exact rfl))
  | with_reducible refine ev_op ?_
  | with_reducible refine ev_un ?_
  | with_reducible refine ev_isi2 ?_
  | with_reducible refine ev_isi4 ?_
  | ((with_reducible refine' ev_new (evN_listO ?hv ?_)); (case hv => exact rfl))
  | with_reducible refine ev_new (evN_cb1 (f := rListOf _) ?_)
  | ((with_reducible refine' ev_lenO ?hv ?_); (case hv => exact rfl))
  | with_reducible refine ev_cb1 ?_
  | with_reducible refine ev_lst ?_
  | with_reducible refine ev_dnew ?_
  | with_reducible refine ev_tup ?_
  | with_reducible refine ev_if ?_
  | with_reducible refine ev_and ?_
  | with_reducible refine ev_or ?_
  | with_reducible refine ev_not ?_
  | with_reducible refine ev_chain ?_
  | ((with_reducible refine' ev_new (evN_lcO ?hv ?_)); (case hv => exact rfl))
  | with_reducible refine ev_new (evN_lc ?_)
  | with_reducible refine ev_new (evN_sl ?_)
  | with_reducible refine ev_slT ?_
  | ((with_reducible refine' ev_fldS (n := 0) ?hv ?hc ?hn ?h1 ?h2 ?_); (case hv => exact rfl); (case hc => with_reducible assumption); (case hn => with_reducible assumption); (case h1 => decide +kernel); (case h2 => exact rfl))
  | ((with_reducible refine' ev_fldS (n := 1) ?hv ?hc ?hn ?h1 ?h2 ?_); (case hv => exact rfl); (case hc => with_reducible assumption); (case hn => with_reducible assumption); (case h1 => decide +kernel); (case h2 => exact rfl))
  | ((with_reducible refine' ev_fldS (n := 2) ?hv ?hc ?hn ?h1 ?h2 ?_); (case hv => exact rfl); (case hc => with_reducible assumption); (case hn => with_reducible assumption); (case h1 => decide +kernel); (case h2 => exact rfl))
  | ((with_reducible refine' ev_fldS (n := 3) ?hv ?hc ?hn ?h1 ?h2 ?_); (case hv => exact rfl); (case hc => with_reducible assumption); (case hn => with_reducible assumption); (case h1 => decide +kernel); (case h2 => exact rfl))
  | with_reducible refine ev_fld ?_
  | with_reducible refine ev_call ?_
  | with_reducible refine ev_kw ?_
  | with_reducible refine ev_mkKw ?_
  | with_reducible refine ev_meth ?_
  | with_reducible refine ev_prop ?_
  | with_reducible refine ev_make ?_)
local macro_rules | `(tactic| walk_at "gOpD") => `(tactic| first
  | with_reducible refine od_int ?_
  | with_reducible refine od_bl ?_
  | ((with_reducible refine' od_I ?hv ?_); (case hv => walk_at "ic"))
  | with_reducible refine od_ip ?_
  | with_reducible refine od_eqI ?_
  | with_reducible refine od_neI ?_
  | with_reducible refine od_eqS ?_
  | with_reducible refine od_neS ?_
  | with_reducible refine od_eqB ?_
  | with_reducible refine od_neB ?_
  | with_reducible refine od_isbl ?_
  | ((with_reducible refine' od_ixl ?hv ?_); (case hv => walk_at "dv"))
  | ((with_reducible refine' od_ixt ?hv ?_); (case hv => walk_at "dv"))
  | ((with_reducible refine' od_ixL ?hv ?_); (case hv => walk_at "dv"))
  | ((with_reducible refine' od_ixT ?hv ?_); (case hv => walk_at "dv"))
  | ((with_reducible refine' od_inN ?hv ?_); (case hv => walk_at "dy"))
  | ((with_reducible refine' od_inI ?hv ?_); (case hv => walk_at "dy"))
  | ((with_reducible refine' od_inS ?hv ?_); (case hv => walk_at "dy"))
  | with_reducible refine od_sign ?_
  | ((with_reducible refine' od_adds ?hv ?_); (case hv => walk_at "ln"))
  | with_reducible refine od_own ?_
  | with_reducible refine od_ownI ?_
  | with_reducible refine od_ownR ?_
  | with_reducible refine od_ownin ?_)
local macro_rules | `(tactic| walk_at "gExD") => `(tactic| first
  | with_reducible refine ex_seq ?_
  | ((with_reducible refine' ex_new (te := tLst tNil) ?hi ?_); (case hi => exact Nat.le_of_ble_eq_true rfl))
  | ((with_reducible refine' ex_newO ?hi ?_); (case hi => exact Nat.le_of_ble_eq_true rfl))
  | with_reducible refine ex_set ?_
  | with_reducible refine ex_asg ?_
  | ((with_reducible refine' ex_par ?hi ?_); (case hi => decide))
  | with_reducible refine ex_par3 ?_
  | ((with_reducible refine' ex_retO ?hv ?_); (case hv => exact rfl))
  | with_reducible refine ex_ret ?_
  | with_reducible refine ex_retN ?_
  | with_reducible refine ex_next ?_
  | with_reducible refine ex_break ?_
  | with_reducible refine ex_cont ?_
  | with_reducible refine ex_ifB ?_
  | ((with_reducible refine' ex_aug ?hv ?_); (case hv => exact rfl))
  | ((with_reducible refine' ex_app ?hv ?hl ?_); (case hv => exact rfl); (case hl => walk_at "ln"))
  | ((with_reducible refine' ex_insO ?hv ?hl ?_); (case hv => exact rfl); (case hl => walk_at "ln"))
  | ((with_reducible refine' ex_fld ?hv ?hc ?hn ?hl ?_); (case hv => exact rfl); (case hc => with_reducible assumption); (case hn => with_reducible assumption); (case hl => exact Nat.le_of_ble_eq_true rfl))
  | ((with_reducible refine' ex_extO ?hv ?_); (case hv => exact rfl))
  | ((with_reducible refine' ex_clrO ?hv ?_); (case hv => exact rfl))
  | with_reducible refine ex_drop ?_
  | with_reducible refine ex_for ?_)
local macro_rules | `(tactic| walk_at "gEvT") => `(tactic| first
  | with_reducible refine et_test ?_
  | with_reducible refine et_B ?_
  | with_reducible refine et_and ?_
  | with_reducible refine et_or ?_
  | with_reducible refine et_not ?_
  | with_reducible refine et_yes ?_)
local macro_rules | `(tactic| walk_at "gite") => `(tactic| first
  | with_reducible refine iteT ?_
  | with_reducible refine iteF ?_
  | with_reducible refine iteNT ?_
  | with_reducible refine iteNF ?_)
local macro_rules | `(tactic| walk_at "gUnD") => `(tactic| first
  | with_reducible refine ud_U ?_
  | ((with_reducible refine' fW_name ?hT ?_); (case hT => assumption))
  | ((with_reducible refine' fW_rows ?hT ?_); (case hT => assumption))
  | ((with_reducible refine' fE_work ?hT ?_); (case hT => assumption))
  | ((with_reducible refine' fE_nums ?hT ?_); (case hT => assumption))
  | ((with_reducible refine' fP_edition ?hT ?_); (case hT => assumption))
  | ((with_reducible refine' fP_count ?hT ?_); (case hT => assumption))
  | ((with_reducible refine' fK_work ?hT ?_); (case hT => assumption))
  | ((with_reducible refine' fK_rows ?hT ?_); (case hT => assumption))
  | ((with_reducible refine' fK_told ?hT ?_); (case hT => assumption))
  | ((with_reducible refine' fS_rule ?hT ?_); (case hT => assumption))
  | ((with_reducible refine' fS_tables ?hT ?_); (case hT => assumption))
  | ((with_reducible refine' fS_spots ?hT ?_); (case hT => assumption))
  | ((with_reducible refine' fS_held ?hT ?_); (case hT => assumption))
  | ((with_reducible refine' fS_stamps ?hT ?_); (case hT => assumption))
  | ((with_reducible refine' fS_row ?hT ?_); (case hT => assumption))
  | ((with_reducible refine' fS_top ?hT ?_); (case hT => assumption))
  | ((with_reducible refine' fS_come ?hT ?_); (case hT => assumption))
  | ((with_reducible refine' fR_parts ?hT ?_); (case hT => assumption))
  | ((with_reducible refine' fR_way ?hT ?_); (case hT => assumption)))
local macro_rules | `(tactic| walk_at "gCbD") => `(tactic| first
  | ((with_reducible refine' cd_isi ?ht ?hk ?_); (case ht => walk_at "dt"); (case hk => walk_at "kb"))
  | ((with_reducible refine' cd_isiO ?ht ?hk ?_); (case ht => walk_at "dt"); (case hk => first | with_reducible assumption | exact kit_same))
  | ((with_reducible refine' cd_lens ?hv ?_); (case hv => walk_at "ln"))
  | with_reducible refine cd_len ?_
  | with_reducible refine cd_all ?_
  | with_reducible refine cd_any ?_
  | with_reducible refine cd_int ?_
  | with_reducible refine cd_intb ?_
  | with_reducible refine cd_mx ?_
  | with_reducible refine cd_mn ?_
  | with_reducible refine cd_tuple ?_
  | with_reducible refine cd_lenO ?_)
local macro_rules | `(tactic| walk_at "gEvI") => `(tactic| first
  | with_reducible refine ei_seq ?_
  | with_reducible refine ei_str ?_
  | with_reducible refine ei_rg1 ?_
  | with_reducible refine ei_rg2 ?_
  | with_reducible refine ei_enum ?_
  | with_reducible refine ei_zip ?_
  | with_reducible refine ei_zipA ?_
  | with_reducible refine ei_zipB ?_
  | with_reducible refine ei_zipB3 ?_)
local macro_rules | `(tactic| walk_at "gEvN") => `(tactic| first
  | ((with_reducible refine' evN_listO ?hv ?_); (case hv => exact rfl))
  | ((with_reducible refine' evN_lcO ?hv ?_); (case hv => exact rfl))
  | with_reducible refine evN_lc ?_
  | with_reducible refine evN_sl ?_
  | with_reducible refine evN_op ?_
  | with_reducible refine evN_cb1 ?_
  | with_reducible refine evN_lst ?_)
local macro_rules | `(tactic| walk_at "d1") => `(tactic| first
  | ((with_reducible show EvD _ _ _ _ _); walk_at "gEvD")
  | ((with_reducible show OpD _ _ _ _ _ _); walk_at "gOpD")
  | with_reducible refine ev_nil ?_
  | with_reducible refine ev_cons ?_
  | ((with_reducible show ExD _ _ _ _ _); walk_at "gExD")
  | ((with_reducible show EvT _ _ _ _ _); walk_at "gEvT")
  | with_reducible refine isB_mk ?_
  | walk_at "gite"
  | ((with_reducible show UnD _ _ _ _ _); walk_at "gUnD")
  | ((with_reducible show CbD _ _ _ _ _); walk_at "gCbD")
  | ((with_reducible refine' tg_name ?hi ?_); (case hi => walk_at "dm"))
  | ((with_reducible refine' tg_tup ?hi ?_); (case hi => exact rfl))
  | ((with_reducible refine' tg_unl ?hi ?_); (case hi => exact rfl))
  | with_reducible refine tg_cons ?_
  | with_reducible refine tg_nil ?_
  | ((with_reducible show EvI _ _ _ _ _); walk_at "gEvI")
  | ((with_reducible refine' few_mk ?hl ?_); (case hl => exact Nat.le_of_ble_eq_true rfl))
  | ((with_reducible show EvN _ _ _ _ _); walk_at "gEvN")
  | ((with_reducible refine' on_cat ?hv ?_); (case hv => walk_at "ln"))
  | ((with_reducible refine' on_rep ?hv ?hw ?_); (case hv => walk_at "ln"); (case hw => walk_at "ln"))
  | with_reducible refine cn_list ?_
  | with_reducible refine eo_no ?_
  | with_reducible refine eo_part ?_
  | with_reducible refine seq_l ?_
  | with_reducible refine seq_t ?_
  | with_reducible refine ⟨insD_mk (by decide +kernel), ?_⟩)
local macro_rules | `(tactic| walk_at "dx") => `(tactic| first
  | ((with_reducible show EvD _ _ _ _ _); walk_at "xEvD")
  | ((with_reducible show OpD _ _ _ _ _ _); walk_at "xOpD")
  | ((with_reducible show ExD _ _ _ _ _); walk_at "xExD"))
local macro_rules | `(tactic| walk_at "dX") => `(tactic| repeat (first | walk_at "d1" | walk_at "dx"))
local macro_rules | `(tactic| walk_at "dg") => `(tactic| repeat (walk_at "d1"))
section
set_option maxRecDepth 100000
set_option maxHeartbeats 2000000

abbrev sis_one_of : Stmt := top 14
theorem scis_one_of : FnScope ["thing", "words"] ["thing", "words"] (defScope sis_one_of) := ⟨rfl, rfl, rfl, by decide +kernel, rfl, by decide +kernel, by decide +kernel⟩
abbrev sfield_reason : Stmt := top 15
theorem scfield_reason : FnScope ["thing", "ahead", "part", "word"] ["thing", "ahead"] (defScope sfield_reason) := ⟨rfl, rfl, rfl, by decide +kernel, rfl, by decide +kernel, by decide +kernel⟩
abbrev schecked_fields : Stmt := top 16
theorem scchecked_fields : FnScope ["things", "found", "index", "thing", "reason", "field"] ["things"] (defScope schecked_fields) := ⟨rfl, rfl, rfl, by decide +kernel, rfl, by decide +kernel, by decide +kernel⟩
abbrev schecked_show : Stmt := top 17
theorem scchecked_show : FnScope ["show", "names"] ["show", "names"] (defScope schecked_show) := ⟨rfl, rfl, rfl, by decide +kernel, rfl, by decide +kernel, by decide +kernel⟩
abbrev sRule___init__ : Stmt := inClass (top 18) 0
theorem scRule___init__ : FnScope ["self", "fields", "show", "field"] ["self", "fields", "show"] (defScope sRule___init__) := ⟨rfl, rfl, rfl, by decide +kernel, rfl, by decide +kernel, by decide +kernel⟩
section
variable {P : Program} {w : World} {K : PySem.W.Frag} {mg : Str → Option Value} {base : Heap} {Z : Cs} {Yr : Ra}
def fOneOf : FD := fun ds Φ => ∃ z x ws, ds = [.str z, x] ∧ (x = .tup (dS ws) ∨ x = .lst (dS ws)) ∧ Φ (.bl (decide (z ∈ ws)))
theorem okD_one_of (B : Bn mg) (Df : Def K mg "is_one_of" sis_one_of) : Cal P w K mg base 1 "is_one_of" ["thing", "words"] (spD K fOneOf) := by
  refine Cal.ofD Df scis_one_of (fun _ _ _ _ _ _ us hl => match us, hl with | [_, _], _ => rfl) (fun ds Φ h => ?_) (fun fa cdv A outer s H hr => ⟨_, (pss_one (ps_ret (pe_and (pe_callB (n_isi K) (by rfl) B.isinstance (by decide +kernel) (pa_cons (pv 0) (pa_cons (pe_bltn (v := .ty "str") (by rfl) B.str (by decide +kernel) rfl) pa_nil))) (pe_one (pe_cmpR (o_inq K) (pv 0) (pv 1) rfl))))), fun S ds Φ h => ?_⟩)
  · obtain ⟨_, _, _, rfl, _⟩ := h; rfl
  · obtain ⟨z, x, ws, rfl, rfl | rfl, k⟩ := h
    · walk_at "dg"
      exact k
    · walk_at "dg"
      exact k
/-- why a field is none: not at all -/
def fReason : FD := fun ds Φ => ∃ x f names, ds = [x, .lst (dS names)] ∧ RowD x f ∧ OkF f ∧ headF f ∉ names ∧ names.length < 100 ∧ Φ .non
theorem okD_reason (B : Bn mg) (Cs1 : Trc K w mg Yr) (Cis_row : Cal P w K mg base 1 "is_row" ["thing"] (spD K (fIsRow K))) (Cis_word : Cal P w K mg base 1 "is_word" ["thing"] (spD K (fIsWord K))) (Cis_one_of : Cal P w K mg base 1 "is_one_of" ["thing", "words"] (spD K fOneOf)) (Df : Def K mg "field_reason" sfield_reason) :
    Cal P w K mg base 2 "field_reason" ["thing", "ahead"] (spD K fReason) := by
  refine Cal.ofD Df scfield_reason (fun _ _ _ _ _ _ us hl => match us, hl with | [_, _], _ => rfl) (fun ds Φ h => ?_) (fun fa cdv A outer s H hr => ⟨_, (pss_cons (ps_if (PW.pt (pw_or (pt_not (pt_val (pe_fn Cis_row hr (by decide) (pa_cons (pv 0) pa_nil)))) (pw_or1 (pt_cmpR op_ne (pe_callB (n_len K) (by rfl) B.len PySem.boot_len (pa_cons (pv 0) pa_nil)) (pe_op op_add pe_int (pe_callB (n_len K) (by rfl) B.len PySem.boot_len (pa_cons (pe_glob (v := .ref Yr.P) rfl Cs1.parts rfl) pa_nil))) (nomark _))))) (pss_one (ps_ret pe_str)) pss_nil)
      (pss_cons (ps_if (PW.pt (pw_or (pt_not (pt_val (pe_fn Cis_word hr (by decide) (pa_cons (pe_ix (x_seq K) (pv 0) pe_int (fun _ _ => rfl)) pa_nil)))) (pw_or1 (pt_cmpR (o_inq K) (pe_ix (x_seq K) (pv 0) pe_int (fun _ _ => rfl)) (pv 1) rfl)))) (pss_one (ps_ret pe_str)) pss_nil)
      (pss_cons (ps_for PassesOwn.never rfl (q_zipB K false true B.zip (pa_cons (pe_glob (v := .ref Yr.P) rfl Cs1.parts rfl) (pa_cons (pe_slice (y_list K) (pe_callTy (n_list K) (by rfl) B.list (by decide +kernel) (pa_cons (pv 0) pa_nil)) (po_some pe_int) po_none) pa_nil))) (pg_tup rfl (pgs_cons (pg_name (i := 2) scfield_reason.nd rfl (Or.inl rfl)) (pgs_cons (pg_name (i := 3) scfield_reason.nd rfl (Or.inl rfl)) pgs_nil))) (pss_one (ps_if (pt_not (pt_val (pe_fn Cis_one_of hr (by decide) (pa_cons (pv 3) (pa_cons (pe_ix (x_kd K w) (pe_glob (v := .ref Yr.D) rfl Cs1.words rfl) (pv 2) (fun _ _ => rfl)) pa_nil))))) (pss_one (ps_ret (pv 2))) pss_nil)))
      (pss_one (ps_ret pe_non))))), fun S ds Φ h => ?_⟩)
  · obtain ⟨_, _, _, rfl, _⟩ := h; rfl
  · obtain ⟨x, f, names, rfl, hx, ho, hn, hnl, k⟩ := h
    have hP := Cs1.kP
    have hl := ho.len
    obtain ⟨a, us, rfl, ha, hul, hus⟩ := ho
    have hx' : x = .lst (dS (a :: us)) ∨ x = .tup (dS (a :: us)) := hx.symm
    have hat0 : atI (dS (a :: us)) 0 = some (.str a) := atI_nat (xs := dS (a :: us)) (j := 0) rfl
    have step : ∀ (S : Sx) (Φ' : D → Prop), Φ' (.str a) → OpD K S (rIx K) x (.int 0) Φ' := fun S Φ' k' => by
      rcases hx' with rfl | rfl
      · exact od_ixL hat0 k'
      · exact od_ixT hat0 k'
    walk_at "dg"
    refine fIsRow.seq hx' ?_
    walk_at "dg"
    refine ⟨_, hx', ?_⟩
    walk_at "dg"
    refine k_no (by rw [dS_len, hl]; rfl) ?_
    walk_at "dg"
    refine step _ _ ?_
    walk_at "dg"
    refine fIsWord.ok ha ?_
    walk_at "dg"
    refine step _ _ ?_
    walk_at "dg"
    refine k_no (decide_eq_false hn) ?_
    walk_at "dg"
    refine ⟨_, hx', _, rfl, ?_⟩
    walk_at "dg"
    refine ⟨1, rfl, ?_⟩
    walk_at "dg"
    rw [cut_tl]
    refine ⟨dS partsL, dS us, rfl, fun i ρ => ∃ b c, ρ = [.val x, .val (.lst (dS names)), b, c], ⟨_, _, rfl⟩, ?_, ?_⟩
    · rintro i d ρ' hd ⟨b, c, rfl⟩
      obtain ⟨y1, y2, h1, h2, rfl⟩ := zipD_get hd
      obtain ⟨p, hp, rfl⟩ := dS_mem h1
      obtain ⟨u, hu, rfl⟩ := dS_mem h2
      obtain ⟨vs, hvs⟩ : ∃ vs, wordsL[i]? = some vs := by
        have := (List.getElem?_eq_some_iff.mp hp).1
        exact ⟨_, List.getElem?_eq_getElem (show i < wordsL.length from this)⟩
      obtain ⟨tt, ht, hkt⟩ := Cs1.kD i p vs hp hvs
      walk_at "dg"
      refine od_kd ht hkt ?_
      walk_at "dg"
      refine ⟨u, _, vs, rfl, .inl rfl, ?_⟩
      rw [decide_eq_true (hus i u vs hu hvs)]
      walk_at "dg"
      exact ⟨_, _, rfl⟩
    · rintro ρ' ⟨b, c, rfl⟩
      walk_at "dg"
      exact k
theorem headF_at {f : List Str} (h : OkF f) : atI (dS f) 0 = some (.str (headF f)) := by
  obtain ⟨a, us, rfl, _⟩ := h
  exact atI_nat (xs := dS (a :: us)) (j := 0) rfl
theorem nd_take {rows : List (List Str)} {j : Nat} {f : List Str} (nd : (rows.map headF).Nodup) (h : rows[j]? = some f) : headF f ∉ (rows.take j).map headF := fun z => by
  obtain ⟨g, hg, e⟩ := List.mem_map.mp z
  obtain ⟨i, hi⟩ := List.mem_iff_getElem?.mp hg
  have hij : i < j := by
    have := (List.getElem?_eq_some_iff.mp hi).1
    rw [List.length_take] at this
    omega
  rw [List.getElem?_take, if_pos hij] at hi
  have h1 : (rows.map headF)[i]? = some (headF g) := by rw [List.getElem?_map, hi]; rfl
  have h2 : (rows.map headF)[j]? = some (headF g) := by rw [List.getElem?_map, h, e]; rfl
  have := (List.getElem?_inj (List.getElem?_eq_some_iff.mp h1).1 nd).mp (h1.trans h2.symm)
  omega
/-- rows that are handed over -/
def RowsD (its : List D) (rows : List (List Str)) : Prop := its.length = rows.length ∧ ∀ (i : Nat) (x : D) (f : List Str), its[i]? = some x → rows[i]? = some f → RowD x f
def fFields : FD := fun ds Φ => ∃ x its rows, ds = [x] ∧ (x = .lst its ∨ x = .tup its) ∧ RowsD its rows ∧ 0 < rows.length ∧ rows.length ≤ 3 ∧ (∀ f ∈ rows, OkF f) ∧ (rows.map headF).Nodup ∧ Φ (.lst (rows.map dF))
theorem okD_fields (B : Bn mg) (Cs1 : Trc K w mg Yr) (Cis_row : Cal P w K mg base 1 "is_row" ["thing"] (spD K (fIsRow K))) (Cfield_reason : Cal P w K mg base 2 "field_reason" ["thing", "ahead"] (spD K fReason)) (Df : Def K mg "checked_fields" schecked_fields) :
    Cal P w K mg base 3 "checked_fields" ["things"] (spD K fFields) := by
  obtain ⟨tM, cMF⟩ := Cs1.most
  refine Cal.ofD Df scchecked_fields (fun _ _ _ _ _ _ us hl => match us, hl with | [_], _ => rfl) (fun ds Φ h => ?_) (fun fa cdv A outer s H hr => ⟨_, (pss_cons (ps_if (PW.pt (pw_or (pt_not (pt_val (pe_fn Cis_row hr (by decide) (pa_cons (pv 0) pa_nil)))) (pw_or1 (pt_cmpR op_eq (pe_callB (n_len K) (by rfl) B.len PySem.boot_len (pa_cons (pv 0) pa_nil)) pe_int (nomark _))))) (pss_one ps_never) pss_nil)
      (pss_cons (ps_own (ps_set (i := 1) scchecked_fields.nd rfl (Or.inl rfl) (pe_lst pa_nil)))
      (pss_cons (ps_for PassesOwn.never rfl (q_enum K B.enumerate (pa_cons (pv 0) pa_nil)) (pg_tup rfl (pgs_cons (pg_name (i := 2) scchecked_fields.nd rfl (Or.inl rfl)) (pgs_cons (pg_name (i := 3) scchecked_fields.nd rfl (Or.inl rfl)) pgs_nil))) (pss_cons (ps_set (i := 4) scchecked_fields.nd rfl (Or.inl rfl) (pe_ifExp (pt_cmpR op_eq (pv 2) (pe_glob (v := .int 3) rfl cMF ⟨_, rfl⟩) (nomark _)) pe_str (pe_fn Cfield_reason hr (by decide) (pa_cons (pv 3) (pa_cons (pe_lc (own := [("field", 5)]) (g := (gName 5)) rfl scchecked_fields.nd (q_seq K (pv 1)) (blkOk_by (own := [("field", 5)]) (N := ["things", "found", "index", "thing", "reason", "field"]) (sc := defScope schecked_fields) (by decide +kernel)) (fun _ _ _ _ _ => (pg_name (i := 5) scchecked_fields.nd rfl (Or.inl rfl) (.inr rfl))) (fun _ _ _ _ _ => pts_nil) (fun _ _ _ _ _ => (pe_ix (x_tup K) (pv 5) pe_int (fun _ _ => rfl)))) pa_nil)))))
      (pss_cons (ps_if (pt_cmpR op_notN (pv 4) pe_non (nomark _)) (pss_one ps_never) pss_nil)
      (pss_one (ps_expr (e_bm K PySem.F.plainAttrs_list PySem.F.slot_list_append PySem.F.type_list_append mt_append (pv 1) (pa_cons (pe_callTy (n_tuple K) (by rfl) B.tuple (by decide +kernel) (pa_cons (pv 3) pa_nil)) pa_nil)))))))
      (pss_one (ps_ret (pv 1)))))), fun S ds Φ h => ?_⟩)
  · obtain ⟨_, _, _, rfl, _⟩ := h; rfl
  · obtain ⟨x, its, rows, rfl, hx, hR, h0, h3, hok, nd, k⟩ := h
    walk_at "dg"
    refine fIsRow.seq hx ?_
    walk_at "dg"
    refine ⟨_, hx, ?_⟩
    walk_at "dg"
    refine k_no (decide_eq_false (by rw [hR.1]; omega)) ?_
    walk_at "dg"
    refine ⟨x, rfl, its, hx, fun j ρ => ∃ a b c d, ρ = [.val x, .own ((rows.take j).map dF), a, b, c, d], ⟨_, _, _, _, rfl⟩, ?_, ?_⟩
    · rintro j z ρ' hz ⟨a, b, c, d, rfl⟩
      obtain ⟨y, hy, rfl⟩ := enumD_get hz
      have hj : j < rows.length := by have := (List.getElem?_eq_some_iff.mp hy).1; rw [hR.1] at this; exact this
      obtain ⟨f, hf⟩ : ∃ f, rows[j]? = some f := ⟨_, List.getElem?_eq_getElem hj⟩
      have hrow := hR.2 j y f hy hf
      have hrow' : y = .lst (dS f) ∨ y = .tup (dS f) := hrow.symm
      have hfm := List.mem_of_getElem? hf
      walk_at "dg"
      refine k_no (decide_eq_false (by omega)) ?_
      walk_at "dg"
      refine lc_m (rows.take j) dF (fun f => .str (headF f)) rfl (by rw [List.length_take]; omega) (fun g hg => ?_) ?_
      · have hat := headF_at (hok g (List.mem_of_mem_take hg))
        walk_at "dg"
        rfl
      rw [show (rows.take j).map (fun f => D.str (headF f)) = dS ((rows.take j).map headF) by unfold dS; rw [List.map_map]; rfl]
      walk_at "dg"
      refine ⟨y, f, _, rfl, hrow, hok f hfm, nd_take nd hf, by rw [List.length_map, List.length_take]; omega, ?_⟩
      walk_at "dg"
      refine od_notN0 ?_
      have hln : ((rows.take j).map dF).length < 100000 := by rw [List.length_map, List.length_take]; omega
      walk_at "dg"
      refine ⟨_, hrow', ?_⟩
      have e1 : (rows.take (j + 1)).map dF = (rows.take j).map dF ++ [.tup (dS f)] := by
        rw [take_succ hf, List.map_append]
        simp only [List.map_cons, List.map_nil]
      show ∃ a b c d, [Sl.val x, Sl.own ((rows.take j).map dF ++ [D.tup (dS f)]), _, _, _, _] = [Sl.val x, Sl.own ((rows.take (j + 1)).map dF), a, b, c, d]
      rw [e1]
      exact ⟨_, _, _, _, rfl⟩
    · rintro ρ' ⟨a, b, c, d, rfl⟩
      walk_at "dg"
      rw [enumD_len, hR.1, List.take_length]
      exact k
def fShow : FD := fun ds Φ => ∃ x way nm names, ds = [x, .lst (dS names)] ∧ RowD x [way, nm] ∧ way ∈ waysL ∧ nm ∈ names ∧ Φ (.tup [.str way, .str nm])
theorem okD_show (B : Bn mg) (Cs1 : Trc K w mg Yr) (Cis_row : Cal P w K mg base 1 "is_row" ["thing"] (spD K (fIsRow K))) (Cis_one_of : Cal P w K mg base 1 "is_one_of" ["thing", "words"] (spD K fOneOf)) (Df : Def K mg "checked_show" schecked_show) :
    Cal P w K mg base 2 "checked_show" ["show", "names"] (spD K fShow) := by
  refine Cal.ofD Df scchecked_show (fun _ _ _ _ _ _ us hl => match us, hl with | [_, _], _ => rfl) (fun ds Φ h => ?_) (fun fa cdv A outer s H hr => ⟨_, (pss_cons (ps_if (PW.pt (pw_or (pt_not (pt_val (pe_fn Cis_row hr (by decide) (pa_cons (pv 0) pa_nil)))) (pw_or (pt_cmpR op_ne (pe_callB (n_len K) (by rfl) B.len PySem.boot_len (pa_cons (pv 0) pa_nil)) pe_int (nomark _)) (pw_or (pt_not (pt_val (pe_fn Cis_one_of hr (by decide) (pa_cons (pe_ix (x_seq K) (pv 0) pe_int (fun _ _ => rfl)) (pa_cons (pe_glob (v := .ref Yr.W) rfl Cs1.ways rfl) pa_nil))))) (pw_or1 (pt_not (pt_val (pe_fn Cis_one_of hr (by decide) (pa_cons (pe_ix (x_seq K) (pv 0) pe_int (fun _ _ => rfl)) (pa_cons (pv 1) pa_nil)))))))))) (pss_one ps_never) pss_nil)
      (pss_one (ps_ret (pe_callTy (n_tuple K) (by rfl) B.tuple (by decide +kernel) (pa_cons (pv 0) pa_nil))))), fun S ds Φ h => ?_⟩)
  · obtain ⟨_, _, _, _, rfl, _⟩ := h; rfl
  · obtain ⟨x, way, nm, names, rfl, hx, hw, hn, k⟩ := h
    have hW := Cs1.kW
    have hx' : x = .lst (dS [way, nm]) ∨ x = .tup (dS [way, nm]) := hx.symm
    have hat0 : atI (dS [way, nm]) 0 = some (.str way) := atI_nat (xs := dS [way, nm]) (j := 0) rfl
    have hat1 : atI (dS [way, nm]) 1 = some (.str nm) := atI_nat (xs := dS [way, nm]) (j := 1) rfl
    have st0 : ∀ (S : Sx) (Φ' : D → Prop), Φ' (.str way) → OpD K S (rIx K) x (.int 0) Φ' := fun S Φ' k' => by
      rcases hx' with rfl | rfl
      · exact od_ixL hat0 k'
      · exact od_ixT hat0 k'
    have st1 : ∀ (S : Sx) (Φ' : D → Prop), Φ' (.str nm) → OpD K S (rIx K) x (.int 1) Φ' := fun S Φ' k' => by
      rcases hx' with rfl | rfl
      · exact od_ixL hat1 k'
      · exact od_ixT hat1 k'
    walk_at "dg"
    refine fIsRow.seq hx' ?_
    walk_at "dg"
    refine ⟨_, hx', ?_⟩
    walk_at "dg"
    refine k_no rfl ?_
    walk_at "dg"
    refine st0 _ _ ?_
    walk_at "dg"
    refine ⟨way, _, waysL, rfl, .inl rfl, ?_⟩
    rw [decide_eq_true hw]
    walk_at "dg"
    refine st1 _ _ ?_
    walk_at "dg"
    refine ⟨nm, _, names, rfl, .inr rfl, ?_⟩
    rw [decide_eq_true hn]
    walk_at "dg"
    exact ⟨_, hx', k⟩
/-- making a rule -/
def fRuleI : FI := fun ds Φ => ∃ x y its rows way nm, ds = [x, y] ∧ (x = .lst its ∨ x = .tup its) ∧ RowsD its rows ∧ RowD y [way, nm] ∧ OkR rows way nm ∧ Φ ["parts", "way"] [.lst (rows.map dF), .tup [.str way, .str nm]]
theorem okD_rule_init (B : Bn mg) (Ur : Tr K mg Yr) (Cchecked_fields : Cal P w K mg base 3 "checked_fields" ["things"] (spD K fFields)) (Cchecked_show : Cal P w K mg base 2 "checked_show" ["show", "names"] (spD K fShow)) (Df : DefM K Yr.R "__init__" "Rule.__init__" sRule___init__) :
    CalM P w K mg base 4 Yr.R "__init__" ["self", "fields", "show"] (spI K Yr.R fRuleI) := by
  refine CalM.ofI Df scRule___init__ (fun _ _ _ _ _ _ us hl => match us, hl with | [_, _, _], _ => rfl) (fun ds Φ h => ?_) (fun fa cdv A outer s H hr => ⟨_, (pss_cons (t_fld K (pv 0) (pe_fn Cchecked_fields hr (by decide) (pa_cons (pv 1) pa_nil)))
      (pss_one (t_fld K (pv 0) (pe_fn Cchecked_show hr (by decide) (pa_cons (pv 2) (pa_cons (pe_lc (own := [("field", 3)]) (g := (gName 3)) rfl scRule___init__.nd (q_seq K (e_fld K (pv 0))) (blkOk_by (own := [("field", 3)]) (N := ["self", "fields", "show", "field"]) (sc := defScope sRule___init__) (by decide +kernel)) (fun _ _ _ _ _ => (pg_name (i := 3) scRule___init__.nd rfl (Or.inl rfl) (.inr rfl))) (fun _ _ _ _ _ => pts_nil) (fun _ _ _ _ _ => (pe_ix (x_tup K) (pv 3) pe_int (fun _ _ => rfl)))) pa_nil)))))), fun S p dx ds Φ h => ?_⟩)
  · obtain ⟨_, _, _, _, _, _, rfl, _⟩ := h; rfl
  · obtain ⟨x, y, its, rows, way, nm, rfl, hx, hR, hy, O, k⟩ := h
    have c1 := Ur.cl
    have c2 := Ur.nParts
    have c3 := Ur.nWay
    walk_at "dg"
    refine ⟨x, its, rows, rfl, hx, hR, O.ne, O.le, O.ok, O.nd, ?_⟩
    show ExD K S _ [.slf p dx Yr.R ["parts"] [.lst (rows.map dF)], .val x, .val y, .un] _
    walk_at "dg"
    refine lc_m rows dF (fun f => .str (headF f)) rfl (by have := O.le; omega) (fun g hg => ?_) ?_
    · have hat := headF_at (O.ok g hg)
      walk_at "dg"
      rfl
    rw [show rows.map (fun f => D.str (headF f)) = dS (rows.map headF) by unfold dS; rw [List.map_map]; rfl]
    walk_at "dg"
    refine ⟨y, way, nm, _, rfl, hy, O.way, O.nm, ?_⟩
    have e2 : ∀ d, putD "way" d ["parts"] [.lst (rows.map dF)] = ((["parts", "way"] : List Str), ([.lst (rows.map dF), d] : List D)) := fun d => by rw [putD_ne (by decide +kernel)]; rfl
    refine ⟨_, _, rfl, ?_⟩
    show Φ (putD "way" _ ["parts"] [.lst (rows.map dF)]).1 (putD "way" _ ["parts"] [.lst (rows.map dF)]).2
    rw [e2]
    exact k
end
end
/-! Rows of fields compared. -/
section
set_option maxRecDepth 100000
set_option maxHeartbeats 2000000
section
variable {K : PySem.W.Frag} {S : Sx} {Φ : D → Prop} {rows : List (List Str)}
theorem okF_w {f : List Str} (h : OkF f) : ∀ z ∈ f, isW z = true := fun z hz => by
  obtain ⟨a, us, rfl, ha, hul, hus⟩ := h
  have all : ∀ vs ∈ wordsL, ∀ u ∈ vs, isW u = true := by decide +kernel
  rcases List.mem_cons.mp hz with rfl | hz
  · exact ha
  · obtain ⟨i, hi⟩ := List.mem_iff_getElem?.mp hz
    have hi6 : i < 6 := by have := (List.getElem?_eq_some_iff.mp hi).1; omega
    obtain ⟨vs, hvs⟩ : ∃ vs, wordsL[i]? = some vs := ⟨_, List.getElem?_eq_getElem (show i < wordsL.length from hi6)⟩
    exact all vs (List.mem_of_getElem? hvs) z (hus i z vs hi hvs)
theorem plain_dS (f : List Str) : D.plains (dS f) = true := by
  induction f with
  | nil => rfl
  | cons a l ih =>
    show (true && D.plains (dS l)) = true
    rw [ih]; rfl
theorem plain_rows (rows : List (List Str)) : (D.lst (rows.map dF)).plain = true := by
  show D.plains (rows.map dF) = true
  induction rows with
  | nil => rfl
  | cons a l ih =>
    show (D.plains (dS a) && D.plains (l.map dF)) = true
    rw [ih, plain_dS]; rfl
theorem pys_rows (rows : List (List Str)) : D.pys (rows.map dF) = rows.map fun f => PyData.tuple (f.map PyData.str) := by
  induction rows with
  | nil => rfl
  | cons a l ih =>
    show PyData.tuple (D.pys (dS a)) :: D.pys (l.map dF) = _
    rw [ih, pys_dS]; rfl
theorem shape_rows (h : ∀ f ∈ rows, ∀ z ∈ f, PyData.strOk z = true) : SeqAt.shaped (D.py (.lst (rows.map dF))) = true := by
  show SeqAt.shaped (.list (D.pys (rows.map dF))) = true
  rw [pys_rows]
  refine shaped_l ?_ ?_
  · induction rows with
    | nil => rfl
    | cons a l ih =>
      show (PyData.canLayAll0 (a.map PyData.str) && PyData.canLayAll0 (l.map fun f => PyData.tuple (f.map PyData.str))) = true
      rw [ih fun f hf => h f (List.mem_cons_of_mem _ hf)]
      have ha := h a List.mem_cons_self
      have : PyData.canLayAll0 (a.map PyData.str) = true := by
        clear ih h
        induction a with
        | nil => rfl
        | cons z l ih =>
          show (PyData.strOk z && PyData.canLayAll0 (l.map PyData.str)) = true
          rw [ha z List.mem_cons_self, ih fun y hy => ha y (List.mem_cons_of_mem _ hy)]; rfl
      rw [this]; rfl
  · have h0 : ∀ f : List Str, PyData.depthAll (f.map PyData.str) ≤ 0 := fun f => by
      induction f with
      | nil => exact Nat.le_refl _
      | cons a l ih =>
        show max 0 _ ≤ 0
        omega
    have : PyData.depthAll (rows.map fun f => PyData.tuple (f.map PyData.str)) ≤ 1 := by
      clear h
      induction rows with
      | nil => exact Nat.zero_le _
      | cons a l ih =>
        have := h0 a
        show max (PyData.depthAll (a.map PyData.str) + 1) _ ≤ 1
        omega
    exact Nat.le_trans this (by decide)
theorem rows_ok (h : ∀ f ∈ rows, OkF f) : ∀ f ∈ rows, ∀ z ∈ f, PyData.strOk z = true := fun f hf z hz => isW_ok (okF_w (h f hf) z hz)
end
end
/-! For the head: the written tables of rules. -/
section
set_option maxRecDepth 100000
set_option maxHeartbeats 0
theorem kd_rows {K : PySem.W.Frag} {w : World} {d : Addr} {ps : List Str} {uss : List (List Str)} (D : ∃ es n, KDict K w d es n) (h : rowsB K d (ps.zip uss) = true) (i : Nat) (p : Str) (us : List Str) (h1 : ps[i]? = some p) (h2 : uss[i]? = some us) :
    ∃ t, KDct K w d p (.ref t) ∧ KTup K t us := by
  have hp : (p, us) ∈ ps.zip uss := List.mem_of_getElem? (i := i) (by rw [List.getElem?_zip_eq_some]; exact ⟨h1, h2⟩)
  obtain ⟨t, ht, hx⟩ := rowsB_ok h hp
  obtain ⟨es, n, D⟩ := D
  exact ⟨t, ⟨es, n, _, D.at_, D.lit, ht, rfl⟩, txB_ok hx⟩
end
/-! Things with lists of one's own at every depth: made, changed. -/
section
set_option maxRecDepth 100000
set_option maxHeartbeats 4000000

abbrev s_law_handed : Stmt := top 27
theorem sc_law_handed : FnScope ["_law_state", "_law_things"] ["_law_state", "_law_things"] (defScope s_law_handed) := ⟨rfl, rfl, rfl, by decide +kernel, rfl, by decide +kernel, by decide +kernel⟩
abbrev s_law_deep : Stmt := top 31
theorem sc_law_deep : FnScope ["_law_state", "_law_x", "_law_part"] ["_law_state", "_law_x"] (defScope s_law_deep) := ⟨rfl, rfl, rfl, by decide +kernel, rfl, by decide +kernel, by decide +kernel⟩
abbrev s_law_blurred : Stmt := top 34
theorem sc_law_blurred : FnScope ["_law_x", "_law_part"] ["_law_x"] (defScope s_law_blurred) := ⟨rfl, rfl, rfl, by decide +kernel, rfl, by decide +kernel, by decide +kernel⟩
/-- a text (and the like), or a list of one's own or a tuple of parts -/
def ShpQ (K : PySem.W.Frag) (Q : Gh → D → Prop) (γ : Gh) (d : D) : Prop := noSq K d ∨ ∃ (ds : List D) (gs : List Gh) (F : Gh), ds.length = gs.length ∧ ds.length < 1000 ∧ (∀ (i : Nat) (x : D) (g : Gh), ds[i]? = some x → gs[i]? = some g → Q g x) ∧ γ.Perm (gs.flatten ++ F) ∧ (d = .tup ds ∨ ∃ a, d = pD a ∧ (a, Cl.l ds) ∈ F)
/-- lists of one's own at depths -/
def Shp (K : PySem.W.Frag) : Nat → Gh → D → Prop
  | 0, _, d => noSq K d
  | n + 1, γ, d => ShpQ K (Shp K n) γ d
section
variable {P : Program} {w : World} {K : PySem.W.Frag} {mg : Str → Option Value} {base : Heap}
def fBl (Q : Gh → D → Prop) : FC := fun ds γ Θ => ∃ d, ds = [d] ∧ Q γ d ∧ ∀ γ', Θ .non γ'
theorem blur_step (B : Bn mg) {k : Nat} {Q : Gh → D → Prop} {g : FC} (hg : ∀ x γ Θ, Q γ x → (∀ γ', Θ .non γ') → g [x] γ Θ) (C_law_blurred : Cal P w K mg base k "_law_blurred" ["_law_x"] (spC K g)) (Df : Def K mg "_law_blurred" s_law_blurred) : Cal P w K mg base (k + 1) "_law_blurred" ["_law_x"] (spC K (fBl (ShpQ K Q))) := by
  refine Cal.ofC 0 Df sc_law_blurred (fun _ _ _ _ _ _ us hl => match us, hl with | [_], _ => rfl) (fun ds γ Θ h => ?_) (fun fa cdv A outer s H hr => ⟨_, (pss_cutL (ps_mkS ((ps_if (pt_val (pe_callB (n_isiT K) (by rfl) B.isinstance (by decide +kernel) (pa_cons (pv 0) (pa_cons (pe_tup (pa_cons (pe_bltn (v := .ty "list") (by rfl) B.list (by decide +kernel) rfl) (pa_cons (pe_bltn (v := .ty "tuple") (by rfl) B.tuple (by decide +kernel) rfl) pa_nil))) pa_nil)))) (pss_one (ps_mkS ((ps_for PassesOwn.never rfl (q_seq K (pv 0)) (pg_name (i := 1) sc_law_blurred.nd rfl (Or.inl rfl)) (pss_one (ps_mkS ((ps_expr (pe_fn C_law_blurred hr (Nat.le_refl _) (pa_cons (pv 1) pa_nil)))))))))) pss_nil)))
      (pss_one (ps_mkS ((ps_if (pt_val (pe_callB (n_isi K) (by rfl) B.isinstance (by decide +kernel) (pa_cons (pv 0) (pa_cons (pe_bltn (v := .ty "list") (by rfl) B.list (by decide +kernel) rfl) pa_nil)))) (pss_one (ps_mkS ((ps_expr (e_bm K PySem.F.plainAttrs_list PySem.F.slot_list_append PySem.F.type_list_append mt_append (pv 0) (pa_cons pe_str pa_nil)))))) pss_nil))))), fun S ds γ Θ h => ?_⟩)
  · obtain ⟨_, rfl, _⟩ := h; rfl
  · obtain ⟨d, rfl, hS, kk⟩ := h
    refine ⟨d, rfl, ?_⟩
    rcases hS with hn | ⟨ds, gs, F, hl, hl2, hP, hp, hd⟩
    · obtain ⟨t, h1, h2, h3⟩ := id hn
      refine ex_mid ⟨fun ρ' => ρ' = [.obj true d γ, .un], ?_, ?_⟩
      · refine ex_mkS ?_
        walk_at "dg"
        refine is2.mk false h1 h2 h3 rfl ?_
        walk_at "dg"
        rfl
      · rintro ρ' rfl
        refine ex_mkS ?_
        walk_at "dg"
        exact ⟨_, _, rfl, kk _⟩
    have step : ∀ (x : D) (j : Nat) (A : Gh), ds[j]? = some x → ∃ g0, gs.drop j = g0 :: gs.drop (j + 1) ∧ Q g0 x := fun x j A hx => by
      have hj : j < gs.length := by rw [← hl]; exact (List.getElem?_eq_some_iff.mp hx).1
      exact ⟨gs[j], List.drop_eq_getElem_cons hj, hP j x _ hx (List.getElem?_eq_getElem hj)⟩
    have pm : ∀ (A g0 R F : Gh), (A ++ ((g0 ++ R) ++ F)).Perm (g0 ++ (A ++ (R ++ F))) := fun A g0 R F => by
      rw [List.append_assoc, ← List.append_assoc A, ← List.append_assoc g0]
      exact List.perm_append_comm.append_right _
    rcases hd with rfl | ⟨a, rfl, ha⟩
    · refine ex_permC 0 rfl hp ?_
      refine ex_mid ⟨fun ρ' => ∃ γ' b, ρ' = [.obj true (.tup ds) γ', b], ?_, ?_⟩
      · refine ex_mkS ?_
        walk_at "dg"
        refine is2.mk true .tup kb_tuple_list kb_tuple_tuple rfl ?_
        walk_at "dg"
        refine ex_mkS ?_
        walk_at "dg"
        refine ⟨fun j ρ => ∃ A b, ρ = [.obj true (.tup ds) (A ++ ((gs.drop j).flatten ++ F)), b], ⟨[], _, rfl⟩, ?_, ?_⟩
        · rintro j x ρ' hx ⟨A, b, rfl⟩
          obtain ⟨g0, hg0, hs⟩ := step x j A hx
          rw [hg0, List.flatten_cons]
          walk_at "dg"
          refine ex_permC 0 rfl (pm A g0 _ F) ?_
          refine ex_mkS (ex_dropX (evx_call 0 ?_))
          walk_at "dg"
          refine ⟨_, g0, _, rfl, hg x g0 _ hs fun γ' => ⟨γ', [], (List.append_nil _).symm, γ' ++ A, .val x, ?_⟩⟩
          exact congrArg (fun z => [Sl.obj true (.tup ds) z, Sl.val x]) (List.append_assoc _ _ _).symm
        · rintro ρ' ⟨A, b, rfl⟩
          exact ⟨_, _, rfl⟩
      · rintro ρ' ⟨γ', b, rfl⟩
        refine ex_mkS ?_
        walk_at "dg"
        exact ⟨_, _, rfl, kk _⟩
    · refine ex_permC 0 rfl hp ?_
      refine ex_mid ⟨fun ρ' => ∃ γ' b, (a, Cl.l ds) ∈ γ' ∧ ρ' = [.obj true (pD a) γ', b], ?_, ?_⟩
      · have hc : HasC [Sl.obj true (pD a) (gs.flatten ++ F), .un] a (.l ds) := .of 0 rfl (List.mem_append_right _ ha)
        refine ex_mkS (ex_if (et_see [(0, .lst ds)] (fun q hq => by cases List.mem_singleton.mp hq; exact ⟨_, rfl, Rd.cl hc Rds.rfl⟩) ?_))
        walk_at "dg"
        refine is2.mk true .lst kb_list_list kb_list_tuple rfl ?_
        walk_at "dg"
        refine ex_mkS (ex_forC ?_)
        refine ev_varO rfl ⟨a, ds, rfl, hc, fun j ρ => ∃ A b, ρ = [.obj true (pD a) (A ++ ((gs.drop j).flatten ++ F)), b], ⟨[], _, rfl⟩, ?_, ?_⟩
        · rintro j ρ' hj ⟨A, b, rfl⟩
          refine ⟨ds, .of 0 rfl (List.mem_append_right _ (List.mem_append_right _ ha)), rfl, fun x hx => ?_⟩
          obtain ⟨g0, hg0, hs⟩ := step x j A hx
          rw [hg0, List.flatten_cons]
          walk_at "dg"
          refine ex_permC 0 rfl (pm A g0 _ F) ?_
          refine ex_mkS (ex_dropX (evx_call 0 ?_))
          walk_at "dg"
          refine ⟨_, g0, _, rfl, hg x g0 _ hs fun γ' => ⟨γ', [], (List.append_nil _).symm, γ' ++ A, .val x, ?_⟩⟩
          exact congrArg (fun z => [Sl.obj true (pD a) z, Sl.val x]) (List.append_assoc _ _ _).symm
        · rintro ρ' ⟨A, b, rfl⟩
          exact ⟨_, _, List.mem_append_right _ (List.mem_append_right _ ha), rfl⟩
      · rintro ρ' ⟨γ', b, hm, rfl⟩
        have hc : HasC [Sl.obj true (pD a) γ', b] a (.l ds) := .of 0 rfl hm
        obtain ⟨k0, hk0⟩ := List.getElem?_of_mem hm
        refine ex_mkS (ex_if (et_see [(0, .lst ds)] (fun q hq => by cases List.mem_singleton.mp hq; exact ⟨_, rfl, Rd.cl hc Rds.rfl⟩) ?_))
        walk_at "dg"
        refine ex_mkS (ex_appC ?_)
        walk_at "dg"
        refine ⟨a, 0, _, _, k0, _, rfl, rfl, hk0, by omega, ?_⟩
        walk_at "dg"
        exact ⟨_, _, rfl, kk _⟩
theorem Cal.noneC {x : Str} {st : Stmt} {ps : List Str} (D : Def K mg x st)
    (hb : ∀ (kV doc pm : Value) (an : Option Addr) (cdv ct : Value) (us : List Value), us.length = ps.length → bindArgs (PySem.W.fnOf x x (defArgs st) (defBody st) (defScope st) .none kV doc pm an cdv ct) ⟨us, []⟩ = pure (ps.zip us)) : Cal P w K mg base 0 x ps (spC K fun _ _ _ => False) := by
  obtain ⟨f, fd, hm, F⟩ := D
  exact ⟨f, fd, hm, F.kp, F.bindsN hb, ⟨fun vs H Q E h => by obtain ⟨_, _, _, _, _, _, _, _, _, _, h, _⟩ := h; exact h.elim, fun A outer s H args us vs Q E hr he hb hv h => by obtain ⟨_, _, _, _, _, _, _, _, _, _, h, _⟩ := h; exact h.elim⟩⟩
theorem okC_blurred (B : Bn mg) (Df : Def K mg "_law_blurred" s_law_blurred) : Cal P w K mg base 4 "_law_blurred" ["_law_x"] (spC K (fBl (Shp K 3))) := by
  have c0 := Cal.noneC (P := P) (w := w) (base := base) (ps := ["_law_x"]) Df (fun _ _ _ _ _ _ us hl => match us, hl with | [_], _ => rfl)
  have c1 := blur_step (Q := fun _ _ => False) B (fun x γ Θ h k => h) c0 Df
  have c2 := blur_step (Q := Shp K 0) B (fun x γ Θ h k => ⟨x, rfl, .inl h, k⟩) c1 Df
  have c3 := blur_step (Q := Shp K 1) B (fun x γ Θ h k => ⟨x, rfl, h, k⟩) c2 Df
  exact blur_step (Q := Shp K 2) B (fun x γ Θ h k => ⟨x, rfl, h, k⟩) c3 Df
/-! ### made -/
/-- a list of one's own, or a tuple -/
def fHandG : FC := fun ds γ Θ => ∃ a its, ds = [.drw, pD a] ∧ (a, Cl.l its) ∈ γ ∧ its.length < 30000 ∧ Θ (.tup its) γ ∧ ∀ b, Θ (pD b) (γ ++ [(b, .l its)])
theorem okC_handG (B : Bn mg) (C_law_take : Cal P w K mg base 2 "_law_take" ["_law_state", "_law_many"] (spD K fTake)) (Df : Def K mg "_law_handed" s_law_handed) : Cal P w K mg base 3 "_law_handed" ["_law_state", "_law_things"] (spC K fHandG) := by
  refine Cal.ofC 1 Df sc_law_handed (fun _ _ _ _ _ _ us hl => match us, hl with | [_, _], _ => rfl) (fun ds γ Θ h => ?_) (fun fa cdv A outer s H hr => ⟨_, (pss_one (ps_mkS ((ps_ret (pe_ifExp (pt_cmpR op_eq (pe_fn C_law_take hr (by decide) (pa_cons (pv 0) (pa_cons pe_int pa_nil))) pe_int (nomark _)) (pe_callTy (n_list K) (by rfl) B.list (by decide +kernel) (pa_cons (pv 1) pa_nil)) (pe_callTy (n_tuple K) (by rfl) B.tuple (by decide +kernel) (pa_cons (pv 1) pa_nil))))))), fun S ds γ Θ h => ?_⟩)
  · obtain ⟨_, _, rfl, _⟩ := h; rfl
  · obtain ⟨a, its, rfl, hm, hl, k1, k2⟩ := h
    refine ⟨pD a, rfl, ?_⟩
    have hc : HasC (iniC ["_law_state", "_law_things"] [.drw, pD a] 1 true (pD a) γ) a (.l its) := .of 1 rfl hm
    refine ex_mkS (ex_retXC 1 (evx_if ?_))
    walk_at "dg"
    refine ⟨2, rfl, by decide, by decide, fun t ht => ?_⟩
    walk_at "dg"
    refine k_dec (fun h => ?_) (fun h => ?_)
    · refine evx_new (evN_listC (ev_varO (i := 1) rfl ⟨a, its, rfl, hc, fun b => ⟨_, _, rfl, k2 b⟩⟩))
    · refine evx_of (ev_tupleC (ev_varO (i := 1) rfl ⟨a, its, rfl, hc, ⟨_, _, rfl, ?_⟩⟩))
      rw [List.append_nil]
      exact k1
/-- words -/
def WdsG (f : List Str) (t : D) (γ : Gh) : Prop := t = .tup (dS f) ∨ ∃ b, t = pD b ∧ (b, Cl.l (dS f)) ∈ γ
/-- rows of words -/
def FldG (rows : List (List Str)) (d : D) (γ : Gh) : Prop := ∃ its : List D, (d = .tup its ∨ ∃ a, d = pD a ∧ (a, Cl.l its) ∈ γ) ∧ its.length = rows.length ∧ ∀ (i : Nat) (t : D) (f : List Str), its[i]? = some t → rows[i]? = some f → WdsG f t γ
theorem WdsG.sub {f : List Str} {t : D} {γ γ' : Gh} (h : WdsG f t γ) (s : ∀ p ∈ γ, p ∈ γ') : WdsG f t γ' := by
  rcases h with h | ⟨b, h1, h2⟩
  · exact .inl h
  · exact .inr ⟨b, h1, s _ h2⟩
theorem FldG.sub {rows : List (List Str)} {d : D} {γ γ' : Gh} (h : FldG rows d γ) (s : ∀ p ∈ γ, p ∈ γ') : FldG rows d γ' := by
  obtain ⟨its, h1, h2, h3⟩ := h
  refine ⟨its, ?_, h2, fun i t f a b => (h3 i t f a b).sub s⟩
  rcases h1 with h1 | ⟨a, h1, h4⟩
  · exact .inl h1
  · exact .inr ⟨a, h1, s _ h4⟩
def fDpG (K : PySem.W.Frag) (ok0 ok1 : Prop) : FC := fun ds γ Θ => ∃ x, ds = [.drw, x] ∧ γ = [] ∧ ((∃ z, x = .str z ∧ Θ (.str z) []) ∨ (ok0 ∧ ∃ ws, x = .tup (dS ws) ∧ ws.length < 1000 ∧ ∀ d γ', WdsG ws d γ' → Shp K 1 γ' d → Θ d γ') ∨
  (ok1 ∧ ∃ rows, x = .lst (rows.map dF) ∧ rows.length < 1000 ∧ (∀ f ∈ rows, f.length < 1000) ∧ ∀ d γ', FldG rows d γ' → Shp K 2 γ' d → Θ d γ'))
theorem deepG_step (B : Bn mg) {k : Nat} {ok0 ok1 : Prop} {g : FC} (h3 : 3 ≤ k) (hg0 : ok0 → ∀ z Θ, Θ (.str z) [] → g [.drw, .str z] [] Θ) (hg1 : ok1 → ∀ ws Θ, ws.length < 1000 → (∀ d γ', WdsG ws d γ' → Shp K 1 γ' d → Θ d γ') → g [.drw, .tup (dS ws)] [] Θ)
    (C_law_handed : Cal P w K mg base 3 "_law_handed" ["_law_state", "_law_things"] (spC K fHandG)) (C_law_deep : Cal P w K mg base k "_law_deep" ["_law_state", "_law_x"] (spC K g)) (Df : Def K mg "_law_deep" s_law_deep) : Cal P w K mg base (k + 1) "_law_deep" ["_law_state", "_law_x"] (spC K (fDpG K ok0 ok1)) := by
  refine Cal.ofC0 Df sc_law_deep (fun _ _ _ _ _ _ us hl => match us, hl with | [_, _], _ => rfl) (fun ds γ Θ h => ?_) (fun fa cdv A outer s H hr => ⟨_, (pss_cons (ps_if (pt_not (pt_val (pe_callB (n_isiT K) (by rfl) B.isinstance (by decide +kernel) (pa_cons (pv 1) (pa_cons (pe_tup (pa_cons (pe_bltn (v := .ty "list") (by rfl) B.list (by decide +kernel) rfl) (pa_cons (pe_bltn (v := .ty "tuple") (by rfl) B.tuple (by decide +kernel) rfl) pa_nil))) pa_nil))))) (pss_one (ps_ret (pv 1))) pss_nil)
      (pss_one (ps_mkS ((ps_ret (pe_fn C_law_handed hr h3 (pa_cons (pv 0) (pa_cons (pe_lc (own := [("_law_part", 2)]) (g := (gName 2)) rfl sc_law_deep.nd (q_seq K (pv 1)) (blkOk_by (own := [("_law_part", 2)]) (N := ["_law_state", "_law_x", "_law_part"]) (sc := defScope s_law_deep) (by decide +kernel)) (fun _ _ _ _ _ => (pg_name (i := 2) sc_law_deep.nd rfl (Or.inl rfl) (.inr rfl))) (fun _ _ _ _ _ => pts_nil) (fun _ _ _ _ _ => (pe_fn C_law_deep hr (Nat.le_refl _) (pa_cons (pv 0) (pa_cons (pv 2) pa_nil))))) pa_nil)))))))), fun S ds γ Θ h => ?_⟩)
  · obtain ⟨_, rfl, _⟩ := h; rfl
  · obtain ⟨x, rfl, rfl, ⟨z, rfl, kk⟩ | ⟨ho, ws, rfl, hwl, kk⟩ | ⟨ho, rows, rfl, hrl, hfl, kk⟩⟩ := h
    · refine ⟨rfl, ?_⟩
      walk_at "dg"
      refine is2.mk false .str kb_str_list kb_str_tuple rfl ?_
      walk_at "dg"
      exact kk
    · refine ⟨rfl, ?_⟩
      walk_at "dg"
      refine is2.mk true .tup kb_tuple_list kb_tuple_tuple rfl ?_
      walk_at "dg"
      refine ex_mkS (ex_retX (evx_ofF (evf_call2 (ev_var rfl (evf_lc ?_)))))
      walk_at "dg"
      refine ⟨fun i acc γ => acc = dS (ws.take i) ∧ γ = [], ⟨rfl, rfl⟩, ?_, ?_⟩
      · rintro i d acc γ hd ⟨rfl, rfl⟩
        obtain ⟨z, hz, rfl⟩ := dS_mem hd
        refine ⟨by rw [dS_len, List.length_take]; omega, ?_⟩
        walk_at "dg"
        refine evf_call ?_
        walk_at "dg"
        refine hg0 ho z _ ⟨?_, rfl⟩
        rw [take_succ hz]
        unfold dS
        rw [List.map_append]
        rfl
      · rintro acc γ ⟨rfl, rfl⟩ a
        rw [dS_len, List.take_length]
        refine ⟨a, dS ws, rfl, List.mem_cons_self, by rw [dS_len]; omega, ?_, fun b => ?_⟩
        · refine kk _ _ (.inl rfl) (.inr ⟨dS ws, ws.map fun _ => [], [(a, .l (dS ws))], by rw [dS_len, List.length_map], by rw [dS_len]; exact hwl, fun i x g hx hg => ?_, ?_, .inl rfl⟩)
          · obtain ⟨z, _, rfl⟩ := dS_mem hx
            exact noSq_str
          · rw [show (ws.map fun _ => ([] : Gh)).flatten = [] from by simp]
            exact List.Perm.refl _
        · refine kk _ _ (.inr ⟨b, rfl, List.mem_append_right _ (List.mem_singleton.mpr rfl)⟩) (.inr ⟨dS ws, ws.map fun _ => [], [(a, .l (dS ws))] ++ [(b, .l (dS ws))], by rw [dS_len, List.length_map], by rw [dS_len]; exact hwl, fun i x g hx hg => ?_, ?_, .inr ⟨b, rfl, List.mem_append_right _ (List.mem_singleton.mpr rfl)⟩⟩)
          · obtain ⟨z, _, rfl⟩ := dS_mem hx
            exact noSq_str
          · rw [show (ws.map fun _ => ([] : Gh)).flatten = [] from by simp]
            exact List.Perm.refl _
    · refine ⟨rfl, ?_⟩
      walk_at "dg"
      refine is2.mk true .lst kb_list_list kb_list_tuple rfl ?_
      walk_at "dg"
      refine ex_mkS (ex_retX (evx_ofF (evf_call2 (ev_var rfl (evf_lc ?_)))))
      walk_at "dg"
      refine ⟨fun i acc γ => ∃ gs : List Gh, acc.length = i ∧ gs.length = i ∧ γ = gs.flatten ∧ ∀ (j : Nat) (t : D) (g : Gh) (f : List Str), acc[j]? = some t → gs[j]? = some g → rows[j]? = some f → WdsG f t g ∧ Shp K 1 g t, ⟨[], rfl, rfl, rfl, fun j t g f h => nomatch h⟩, ?_, ?_⟩
      · rintro i d acc γ hd ⟨gs, ha, hgl, rfl, hP⟩
        obtain ⟨f, hf, rfl⟩ : ∃ f, rows[i]? = some f ∧ d = dF f := by
          rw [List.getElem?_map] at hd
          cases e : rows[i]? with
          | none => rw [e] at hd; cases hd
          | some f => rw [e] at hd; exact ⟨f, rfl, (Option.some.inj hd).symm⟩
        have hi := (List.getElem?_eq_some_iff.mp hf).1
        refine ⟨by omega, ?_⟩
        walk_at "dg"
        refine evf_call ?_
        walk_at "dg"
        refine hg1 ho f _ (hfl f (List.mem_of_getElem? hf)) fun t g hw hs => ⟨gs ++ [g], by rw [List.length_append, ha]; rfl, by rw [List.length_append, hgl]; rfl, by simp, fun j t' g' f' h1 h2 h3' => ?_⟩
        rcases Nat.lt_trichotomy j i with hj | hj | hj
        · rw [List.getElem?_append_left (by omega)] at h1 h2
          exact hP j t' g' f' h1 h2 h3'
        · subst hj
          rw [List.getElem?_append_right (by omega), ha, Nat.sub_self] at h1
          rw [List.getElem?_append_right (by omega), hgl, Nat.sub_self] at h2
          rw [hf] at h3'
          cases h1; cases h2; cases h3'
          exact ⟨hw, hs⟩
        · rw [List.getElem?_eq_none (by rw [List.length_append, ha]; exact hj)] at h1
          cases h1
      · rintro acc γ ⟨gs, ha, hgl, rfl, hP⟩ a
        rw [List.length_map] at ha hgl
        have hgm : ∀ (j : Nat) (g : Gh), gs[j]? = some g → ∀ p ∈ g, p ∈ gs.flatten := fun j g h p hp => List.mem_flatten.mpr ⟨g, List.mem_of_getElem? h, hp⟩
        have hW : ∀ (i : Nat) (t : D) (f : List Str), acc[i]? = some t → rows[i]? = some f → ∃ g, gs[i]? = some g ∧ WdsG f t g := fun i t f h1 h2 => by
          have hi := (List.getElem?_eq_some_iff.mp h1).1
          have hg : gs[i]? = some gs[i] := List.getElem?_eq_getElem (by omega)
          exact ⟨_, hg, (hP i t _ f h1 hg h2).1⟩
        have hSh : ∀ (i : Nat) (t : D) (g : Gh), acc[i]? = some t → gs[i]? = some g → Shp K 1 g t := fun i t g h1 h2 => by
          have hi := (List.getElem?_eq_some_iff.mp h1).1
          exact (hP i t g _ h1 h2 (List.getElem?_eq_getElem (by omega))).2
        refine ⟨a, acc, rfl, List.mem_cons_self, by omega, ?_, fun b => ?_⟩
        · refine kk _ _ ⟨acc, .inl rfl, ha, fun i t f h1 h2 => ?_⟩ (.inr ⟨acc, gs, [(a, .l acc)], by omega, by omega, hSh, ?_, .inl rfl⟩)
          · obtain ⟨g, hg, hw⟩ := hW i t f h1 h2
            exact hw.sub fun p hp => List.mem_cons_of_mem _ (hgm i g hg p hp)
          · exact (List.perm_append_comm (l₁ := [(a, Cl.l acc)]))
        · refine kk _ _ ⟨acc, .inr ⟨b, rfl, List.mem_append_right _ (List.mem_singleton.mpr rfl)⟩, ha, fun i t f h1 h2 => ?_⟩ (.inr ⟨acc, gs, [(a, .l acc)] ++ [(b, .l acc)], by omega, by omega, hSh, ?_, .inr ⟨b, rfl, List.mem_append_right _ (List.mem_singleton.mpr rfl)⟩⟩)
          · obtain ⟨g, hg, hw⟩ := hW i t f h1 h2
            exact hw.sub fun p hp => List.mem_append_left _ (List.mem_cons_of_mem _ (hgm i g hg p hp))
          · rw [← List.append_assoc]
            exact (List.perm_append_comm (l₁ := [(a, Cl.l acc)])).append_right _
theorem okC_deepG (B : Bn mg) (C_law_handed : Cal P w K mg base 3 "_law_handed" ["_law_state", "_law_things"] (spC K fHandG)) (Df : Def K mg "_law_deep" s_law_deep) : Cal P w K mg base 6 "_law_deep" ["_law_state", "_law_x"] (spC K (fDpG K True True)) := by
  have c0 := (Cal.noneC (P := P) (w := w) (base := base) (ps := ["_law_state", "_law_x"]) Df (fun _ _ _ _ _ _ us hl => match us, hl with | [_, _], _ => rfl)).imp (k := 3) (by decide) (fun _ _ _ _ h => h)
  have c1 := deepG_step (ok0 := False) (ok1 := False) B (by decide) (fun h => h.elim) (fun h => h.elim) C_law_handed c0 Df
  have c2 := deepG_step (ok0 := True) (ok1 := False) B (by decide) (fun _ z Θ h => ⟨_, rfl, rfl, .inl ⟨z, rfl, h⟩⟩) (fun h => h.elim) C_law_handed c1 Df
  exact deepG_step (ok0 := True) (ok1 := True) B (by decide) (fun _ z Θ h => ⟨_, rfl, rfl, .inl ⟨z, rfl, h⟩⟩) (fun _ ws Θ hl h => ⟨_, rfl, rfl, .inr (.inl ⟨trivial, ws, rfl, hl, h⟩)⟩) C_law_handed c2 Df
end
end
/-! Rules made of things that are lent. -/
section
set_option maxRecDepth 100000
set_option maxHeartbeats 4000000

section
variable {K : PySem.W.Frag} {γ : Gh} {ρ : List Sl}
theorem WdsG.see {f : List Str} {t : D} (h : WdsG f t γ) (hc : ∀ a c, (a, c) ∈ γ → HasC ρ a c) : ∃ e, RowD e f ∧ Rd K ρ t e := by
  rcases h with rfl | ⟨b, rfl, h⟩
  · exact ⟨_, .inl (Eq.refl _), Rd.rfl⟩
  · exact ⟨_, .inr (Eq.refl _), Rd.cl (hc _ _ h) Rds.rfl⟩
end
section
variable {P : Program} {w : World} {K : PySem.W.Frag} {mg : Str → Option Value} {base : Heap} {Yr : Ra}
def fFieldsG : FRN := fun ds γ Ψ => ∃ d rows, ds = [d] ∧ FldG rows d γ ∧ 0 < rows.length ∧ rows.length ≤ 3 ∧ (∀ f ∈ rows, OkF f) ∧ (rows.map headF).Nodup ∧ Ψ (rows.map dF)
theorem okRN_fields (B : Bn mg) (Cs1 : Trc K w mg Yr) (Cis_row : Cal P w K mg base 1 "is_row" ["thing"] (spD K (fIsRow K))) (Cfield_reason : Cal P w K mg base 2 "field_reason" ["thing", "ahead"] (spD K fReason)) (Df : Def K mg "checked_fields" schecked_fields) :
    Cal P w K mg base 3 "checked_fields" ["things"] (spRN K fFieldsG) := by
  obtain ⟨tM, cMF⟩ := Cs1.most
  refine Cal.ofRN 0 Df scchecked_fields (fun _ _ _ _ _ _ us hl => match us, hl with | [_], _ => rfl) (fun ds γ Θ h => ?_) (fun fa cdv A outer s H hr => ⟨_, (pss_cons (ps_mkS ((ps_if (PW.pt (pw_or (pt_not (pt_val (pe_fn Cis_row hr (by decide) (pa_cons (pv 0) pa_nil)))) (pw_or1 (pt_cmpR op_eq (pe_callB (n_len K) (by rfl) B.len PySem.boot_len (pa_cons (pv 0) pa_nil)) pe_int (nomark _))))) (pss_one ps_never) pss_nil)))
      (pss_cons (ps_own (ps_set (i := 1) scchecked_fields.nd rfl (Or.inl rfl) (pe_lst pa_nil)))
      (pss_cons (ps_mkS ((ps_for PassesOwn.never rfl (q_enum K B.enumerate (pa_cons (pv 0) pa_nil)) (pg_tup rfl (pgs_cons (pg_name (i := 2) scchecked_fields.nd rfl (Or.inl rfl)) (pgs_cons (pg_name (i := 3) scchecked_fields.nd rfl (Or.inl rfl)) pgs_nil))) (pss_cons (ps_mkS ((ps_set (i := 4) scchecked_fields.nd rfl (Or.inl rfl) (pe_ifExp (pt_cmpR op_eq (pv 2) (pe_glob (v := .int 3) rfl cMF ⟨_, rfl⟩) (nomark _)) pe_str (pe_fn Cfield_reason hr (by decide) (pa_cons (pv 3) (pa_cons (pe_lc (own := [("field", 5)]) (g := (gName 5)) rfl scchecked_fields.nd (q_seq K (pv 1)) (blkOk_by (own := [("field", 5)]) (N := ["things", "found", "index", "thing", "reason", "field"]) (sc := defScope schecked_fields) (by decide +kernel)) (fun _ _ _ _ _ => (pg_name (i := 5) scchecked_fields.nd rfl (Or.inl rfl) (.inr rfl))) (fun _ _ _ _ _ => pts_nil) (fun _ _ _ _ _ => (pe_ix (x_tup K) (pv 5) pe_int (fun _ _ => rfl)))) pa_nil)))))))
      (pss_cons (ps_if (pt_cmpR op_notN (pv 4) pe_non (nomark _)) (pss_one ps_never) pss_nil)
      (pss_one (ps_mkS ((ps_expr (e_bm K PySem.F.plainAttrs_list PySem.F.slot_list_append PySem.F.type_list_append mt_append (pv 1) (pa_cons (pe_callTy (n_tuple K) (by rfl) B.tuple (by decide +kernel) (pa_cons (pv 3) pa_nil)) pa_nil)))))))))))
      (pss_one (ps_mkS ((ps_ret (pv 1)))))))), fun S ds γ Ψ h => ?_⟩)
  · obtain ⟨_, _, rfl, _⟩ := h; rfl
  · obtain ⟨d, rows, rfl, ⟨its, hd, hil, hW⟩, h0, h3, hok, nd, k⟩ := h
    refine ⟨d, rfl, ?_⟩
    have hcs : ∀ {r : List Sl}, ∀ a c, (a, c) ∈ γ → HasC (Sl.obj false d γ :: r) a c := fun a c h => .of 0 rfl h
    obtain ⟨e, he, hRd⟩ : ∃ e, (e = .lst its ∨ e = .tup its) ∧ ∀ r : List Sl, Rd K (Sl.obj false d γ :: r) d e := by
      rcases hd with rfl | ⟨a, rfl, h⟩
      · exact ⟨_, .inr rfl, fun _ => Rd.rfl⟩
      · exact ⟨_, .inl rfl, fun _ => Rd.cl (.of 0 rfl h) Rds.rfl⟩
    refine ex_seq (ex_mkS (ex_if (et_see [(0, e)] (fun q hq => by cases List.mem_singleton.mp hq; exact ⟨_, rfl, hRd _⟩) ?_)))
    walk_at "dg"
    refine fIsRow.seq he ?_
    walk_at "dg"
    refine ⟨_, he, ?_⟩
    walk_at "dg"
    refine k_no (decide_eq_false (by omega)) ?_
    walk_at "dg"
    rcases hd with rfl | ⟨a, rfl, ha⟩
    · refine ex_mkS ?_
      walk_at "dg"
      refine ⟨_, rfl, its, .inr rfl, fun (j : Nat) (ρ : List Sl) => ∃ b0 b1 b2 b3, ρ = [Sl.obj false (.tup its) γ, .own ((rows.take j).map dF), b0, b1, b2, b3], ⟨_, _, _, _, rfl⟩, ?_, ?_⟩
      rotate_left
      · rintro ρ' ⟨b0, b1, b2, b3, rfl⟩
        rw [enumD_len, hil, List.take_length]
        exact ex_mkS (ex_retOwn (i := 1) rfl k)
      rintro j z ρ' hz ⟨b0, b1, b2, b3, rfl⟩
      obtain ⟨t, ht, rfl⟩ := enumD_get hz
      have hj := (List.getElem?_eq_some_iff.mp ht).1
      obtain ⟨f, hf⟩ : ∃ f, rows[j]? = some f := ⟨_, List.getElem?_eq_getElem (show j < rows.length by omega)⟩
      have hfm := List.mem_of_getElem? hf
      have hw := hW j t f ht hf
      walk_at "dg"
      obtain ⟨e2, he2, hR2⟩ := hw.see (ρ := [.obj false (.tup its) γ, .own ((rows.take j).map dF), .val (.int (j : Int)), .val t, b2, b3]) hcs
      refine ex_mkS (ex_set (ev_see [(3, e2)] (fun q hq => by cases List.mem_singleton.mp hq; exact ⟨_, rfl, hR2⟩) ?_))
      walk_at "dg"
      refine k_no (decide_eq_false (by omega)) ?_
      walk_at "dg"
      refine lc_m (rows.take j) dF (fun f => .str (headF f)) rfl (by rw [List.length_take]; omega) (fun g hg => ?_) ?_
      · have hat := headF_at (hok g (List.mem_of_mem_take hg))
        walk_at "dg"
        rfl
      rw [show (rows.take j).map (fun f => D.str (headF f)) = dS ((rows.take j).map headF) by unfold dS; rw [List.map_map]; rfl]
      walk_at "dg"
      refine ⟨e2, f, _, rfl, he2, hok f hfm, nd_take nd hf, by rw [List.length_map, List.length_take]; omega, ?_⟩
      refine ⟨rfl, ?_⟩
      walk_at "dg"
      refine od_notN0 ?_
      walk_at "dg"
      have hln : ((rows.take j).map dF).length < 100000 := by rw [List.length_map, List.length_take]; omega
      have e1 : (rows.take (j + 1)).map dF = (rows.take j).map dF ++ [.tup (dS f)] := by
        rw [take_succ hf, List.map_append]
        simp only [List.map_cons, List.map_nil]
      show ExD K S _ [.obj false (.tup its) γ, .own ((rows.take j).map dF), .val (.int (j : Int)), .val t, .val .non, b3] _
      rcases hw with rfl | ⟨b, rfl, hb⟩
      · refine ex_mkS ?_
        walk_at "dg"
        rw [← e1]
        exact ⟨_, _, _, _, rfl⟩
      · refine ex_mkS (ex_app (i := 1) rfl hln (ev_tupleC (ev_var rfl ⟨b, dS f, rfl, hcs _ _ hb, ?_⟩)))
        rw [← e1]
        exact ⟨_, _, _, _, rfl⟩
    · refine ex_mkS (ex_forCE ?_)
      refine ev_varO (i := 0) rfl ⟨a, its, rfl, .of 0 rfl ha, fun (j : Nat) (ρ : List Sl) => ∃ b0 b1 b2 b3, ρ = [Sl.obj false (pD a) γ, .own ((rows.take j).map dF), b0, b1, b2, b3], ⟨_, _, _, _, rfl⟩, ?_, ?_⟩
      rotate_left
      · rintro ρ' ⟨b0, b1, b2, b3, rfl⟩
        rw [hil, List.take_length]
        exact ex_mkS (ex_retOwn (i := 1) rfl k)
      rintro j ρ' hjl ⟨b0, b1, b2, b3, rfl⟩
      refine ⟨its, .of 0 rfl ha, rfl, fun t ht => ?_⟩
      have hj := (List.getElem?_eq_some_iff.mp ht).1
      obtain ⟨f, hf⟩ : ∃ f, rows[j]? = some f := ⟨_, List.getElem?_eq_getElem (show j < rows.length by omega)⟩
      have hfm := List.mem_of_getElem? hf
      have hw := hW j t f ht hf
      walk_at "dg"
      obtain ⟨e2, he2, hR2⟩ := hw.see (ρ := [.obj false (pD a) γ, .own ((rows.take j).map dF), .val (.int (j : Int)), .val t, b2, b3]) hcs
      refine ex_mkS (ex_set (ev_see [(3, e2)] (fun q hq => by cases List.mem_singleton.mp hq; exact ⟨_, rfl, hR2⟩) ?_))
      walk_at "dg"
      refine k_no (decide_eq_false (by omega)) ?_
      walk_at "dg"
      refine lc_m (rows.take j) dF (fun f => .str (headF f)) rfl (by rw [List.length_take]; omega) (fun g hg => ?_) ?_
      · have hat := headF_at (hok g (List.mem_of_mem_take hg))
        walk_at "dg"
        rfl
      rw [show (rows.take j).map (fun f => D.str (headF f)) = dS ((rows.take j).map headF) by unfold dS; rw [List.map_map]; rfl]
      walk_at "dg"
      refine ⟨e2, f, _, rfl, he2, hok f hfm, nd_take nd hf, by rw [List.length_map, List.length_take]; omega, ?_⟩
      refine ⟨rfl, ?_⟩
      walk_at "dg"
      refine od_notN0 ?_
      walk_at "dg"
      have hln : ((rows.take j).map dF).length < 100000 := by rw [List.length_map, List.length_take]; omega
      have e1 : (rows.take (j + 1)).map dF = (rows.take j).map dF ++ [.tup (dS f)] := by
        rw [take_succ hf, List.map_append]
        simp only [List.map_cons, List.map_nil]
      show ExD K S _ [.obj false (pD a) γ, .own ((rows.take j).map dF), .val (.int (j : Int)), .val t, .val .non, b3] _
      rcases hw with rfl | ⟨b, rfl, hb⟩
      · refine ex_mkS ?_
        walk_at "dg"
        rw [← e1]
        exact ⟨_, _, _, _, rfl⟩
      · refine ex_mkS (ex_app (i := 1) rfl hln (ev_tupleC (ev_var rfl ⟨b, dS f, rfl, hcs _ _ hb, ?_⟩)))
        rw [← e1]
        exact ⟨_, _, _, _, rfl⟩
def fShowG : FR := fun ds γ Φ => ∃ x way nm names, ds = [x, .lst (dS names)] ∧ WdsG [way, nm] x γ ∧ way ∈ waysL ∧ nm ∈ names ∧ Φ (.tup [.str way, .str nm])
theorem okR_show (B : Bn mg) (Cs1 : Trc K w mg Yr) (Cis_row : Cal P w K mg base 1 "is_row" ["thing"] (spD K (fIsRow K))) (Cis_one_of : Cal P w K mg base 1 "is_one_of" ["thing", "words"] (spD K fOneOf)) (Df : Def K mg "checked_show" schecked_show) :
    Cal P w K mg base 2 "checked_show" ["show", "names"] (spR K fShowG) := by
  refine Cal.ofR 0 Df scchecked_show (fun _ _ _ _ _ _ us hl => match us, hl with | [_, _], _ => rfl) (fun ds γ Φ h => ?_) (fun fa cdv A outer s H hr => ⟨_, (pss_cons (ps_mkS ((ps_if (PW.pt (pw_or (pt_not (pt_val (pe_fn Cis_row hr (by decide) (pa_cons (pv 0) pa_nil)))) (pw_or (pt_cmpR op_ne (pe_callB (n_len K) (by rfl) B.len PySem.boot_len (pa_cons (pv 0) pa_nil)) pe_int (nomark _)) (pw_or (pt_not (pt_val (pe_fn Cis_one_of hr (by decide) (pa_cons (pe_ix (x_seq K) (pv 0) pe_int (fun _ _ => rfl)) (pa_cons (pe_glob (v := .ref Yr.W) rfl Cs1.ways rfl) pa_nil))))) (pw_or1 (pt_not (pt_val (pe_fn Cis_one_of hr (by decide) (pa_cons (pe_ix (x_seq K) (pv 0) pe_int (fun _ _ => rfl)) (pa_cons (pv 1) pa_nil)))))))))) (pss_one ps_never) pss_nil)))
      (pss_one (ps_mkS ((ps_ret (pe_callTy (n_tuple K) (by rfl) B.tuple (by decide +kernel) (pa_cons (pv 0) pa_nil))))))), fun S ds γ Φ h => ?_⟩)
  · obtain ⟨_, _, _, _, rfl, _⟩ := h; rfl
  · obtain ⟨x, way, nm, names, rfl, hx, hw, hn, k⟩ := h
    have hW := Cs1.kW
    refine ⟨x, rfl, ?_⟩
    obtain ⟨e, he, hR⟩ := hx.see (ρ := iniC ["show", "names"] [x, .lst (dS names)] 0 false x γ) fun a c h => .of 0 rfl h
    have he' : e = .lst (dS [way, nm]) ∨ e = .tup (dS [way, nm]) := he.symm
    have hat0 : atI (dS [way, nm]) 0 = some (.str way) := atI_nat (xs := dS [way, nm]) (j := 0) rfl
    have hat1 : atI (dS [way, nm]) 1 = some (.str nm) := atI_nat (xs := dS [way, nm]) (j := 1) rfl
    have st0 : ∀ (S : Sx) (Φ' : D → Prop), Φ' (.str way) → OpD K S (rIx K) e (.int 0) Φ' := fun S Φ' k' => by
      rcases he' with rfl | rfl
      · exact od_ixL hat0 k'
      · exact od_ixT hat0 k'
    have st1 : ∀ (S : Sx) (Φ' : D → Prop), Φ' (.str nm) → OpD K S (rIx K) e (.int 1) Φ' := fun S Φ' k' => by
      rcases he' with rfl | rfl
      · exact od_ixL hat1 k'
      · exact od_ixT hat1 k'
    refine ex_seq (ex_mkS (ex_if (et_see [(0, e)] (fun q hq => by cases List.mem_singleton.mp hq; exact ⟨_, rfl, hR⟩) ?_)))
    walk_at "dg"
    refine fIsRow.seq he' ?_
    walk_at "dg"
    refine ⟨_, he', ?_⟩
    walk_at "dg"
    refine k_no rfl ?_
    walk_at "dg"
    refine st0 _ _ ?_
    walk_at "dg"
    refine ⟨way, _, waysL, rfl, .inl rfl, ?_⟩
    rw [decide_eq_true hw]
    walk_at "dg"
    refine st1 _ _ ?_
    walk_at "dg"
    refine ⟨nm, _, names, rfl, .inr rfl, ?_⟩
    rw [decide_eq_true hn]
    walk_at "dg"
    rcases hx with rfl | ⟨b, rfl, hb⟩
    · refine ex_mkS ?_
      walk_at "dg"
      exact k
    · exact ex_mkS (ex_ret (ev_tupleC (ev_varO (i := 0) rfl ⟨b, dS [way, nm], rfl, .of 0 rfl hb, k⟩)))
def fRuleG : FRI := fun ds γ Φ => ∃ x y rows way nm, ds = [x, y] ∧ FldG rows x γ ∧ WdsG [way, nm] y γ ∧ OkR rows way nm ∧ Φ ["parts", "way"] [.lst (rows.map dF), .tup [.str way, .str nm]]
theorem okAR_rule (B : Bn mg) (Ur : Tr K mg Yr) (Cchecked_fieldsG : Cal P w K mg base 3 "checked_fields" ["things"] (spRN K fFieldsG)) (Cchecked_showG : Cal P w K mg base 2 "checked_show" ["show", "names"] (spR K fShowG)) (Df : DefM K Yr.R "__init__" "Rule.__init__" sRule___init__) :
    CalMA P w K mg base CX0 4 Yr.R "__init__" "Rule.__init__" sRule___init__ ["self", "fields", "show"] (spRI K Yr.R fRuleG) := by
  refine CalMA.ofRI 0 Df scRule___init__ (fun ds γ Φ h => ?_) (fun fa cdv A outer s H hr => ⟨_, (pss_cons (t_fld K (pv 0) (pe_fn Cchecked_fieldsG hr (by decide) (pa_cons (pv 1) pa_nil)))
      (pss_one (t_fld K (pv 0) (pe_fn Cchecked_showG hr (by decide) (pa_cons (pv 2) (pa_cons (pe_lc (own := [("field", 3)]) (g := (gName 3)) rfl scRule___init__.nd (q_seq K (e_fld K (pv 0))) (blkOk_by (own := [("field", 3)]) (N := ["self", "fields", "show", "field"]) (sc := defScope sRule___init__) (by decide +kernel)) (fun _ _ _ _ _ => (pg_name (i := 3) scRule___init__.nd rfl (Or.inl rfl) (.inr rfl))) (fun _ _ _ _ _ => pts_nil) (fun _ _ _ _ _ => (pe_ix (x_tup K) (pv 3) pe_int (fun _ _ => rfl)))) pa_nil)))))), fun S p dx ds γ Φ h => ?_⟩)
  · obtain ⟨_, _, _, _, _, rfl, _⟩ := h; rfl
  · obtain ⟨x, y, rows, way, nm, rfl, hx, hy, O, k⟩ := h
    have c1 := Ur.cl
    have c2 := Ur.nParts
    have c3 := Ur.nWay
    refine ⟨x, rfl, ?_⟩
    walk_at "dg"
    refine ev_new (evN_callR ?_)
    walk_at "dg"
    refine ⟨γ, Lent.all 1 rfl, x, rows, rfl, hx, O.ne, O.le, O.ok, O.nd, ?_⟩
    walk_at "dg"
    refine ev_callR ?_
    show EvA K S _ [.slf p dx Yr.R ["parts"] [.lst (rows.map dF)], .obj false x γ, .val y, .un] _
    walk_at "dg"
    refine lc_m rows dF (fun f => .str (headF f)) rfl (by have := O.le; omega) (fun g hg => ?_) ?_
    · have hat := headF_at (O.ok g hg)
      walk_at "dg"
      rfl
    rw [show rows.map (fun f => D.str (headF f)) = dS (rows.map headF) by unfold dS; rw [List.map_map]; rfl]
    walk_at "dg"
    refine ⟨γ, Lent.all 1 rfl, y, way, nm, _, rfl, hy, O.way, O.nm, ?_⟩
    have e2 : ∀ d, putD "way" d ["parts"] [.lst (rows.map dF)] = ((["parts", "way"] : List Str), ([.lst (rows.map dF), d] : List D)) := fun d => by rw [putD_ne (by decide +kernel)]; rfl
    refine ⟨_, _, rfl, ?_⟩
    show Φ (putD "way" _ ["parts"] [.lst (rows.map dF)]).1 (putD "way" _ ["parts"] [.lst (rows.map dF)]).2
    rw [e2]
    exact k
theorem okMR_rule (CARule___init__ : CalMA P w K mg base CX0 4 Yr.R "__init__" "Rule.__init__" sRule___init__ ["self", "fields", "show"] (spRI K Yr.R fRuleG)) : CalM P w K mg base 4 Yr.R "__init__" ["self", "fields", "show"] (spRI K Yr.R fRuleG) := by
  exact CARule___init__.m (fun _ _ _ _ _ _ us hl => match us, hl with | [_, _, _], _ => rfl)
theorem okKR_rule (CARule___init__ : CalMA P w K mg base CX0 4 Yr.R "__init__" "Rule.__init__" sRule___init__ ["self", "fields", "show"] (spRI K Yr.R fRuleG)) : CalMKw P w K mg base CX0 4 Yr.R "__init__" ["self", "fields", "show"] 1 ["show", "fields"] [0, 2, 1] (spRI K Yr.R fRuleG) := by
  exact CARule___init__.kw 1 ["show", "fields"] [0, 2, 1] (fun _ _ _ _ _ _ us ws h1 h2 => match us, ws, h1, h2 with | [_], [_, _], _, _ => rfl)
end
end
/-! Rules compared. -/
section
set_option maxRecDepth 100000
set_option maxHeartbeats 2000000

abbrev sRule___eq__ : Stmt := inClass (top 18) 1
theorem scRule___eq__ : FnScope ["self", "other"] ["self", "other"] (defScope sRule___eq__) := ⟨rfl, rfl, rfl, by decide +kernel, rfl, by decide +kernel, by decide +kernel⟩
theorem eqv_rows : ∀ rs qs : List (List Str), PyData.eqvAll (rs.map fun f => PyData.tuple (f.map PyData.str)) (qs.map fun f => PyData.tuple (f.map PyData.str)) = decide (rs = qs)
  | [], [] => rfl
  | [], _ :: _ => rfl
  | _ :: _, [] => rfl
  | x :: xs, y :: ys => by
    show (PyData.eqvAll (x.map PyData.str) (y.map PyData.str) && PyData.eqvAll (xs.map fun f => PyData.tuple (f.map PyData.str)) (ys.map fun f => PyData.tuple (f.map PyData.str))) = _
    rw [eqv_rows xs ys, eqv_strs, Bool.eq_iff_iff, Bool.and_eq_true, decide_eq_true_iff, decide_eq_true_iff, decide_eq_true_iff, List.cons.injEq]
section
variable {K : PySem.W.Frag} {S : Sx} {Φ : D → Prop} {rows qows : List (List Str)}
theorem od_eqRows (h : ∀ f ∈ rows, OkF f) (h2 : ∀ f ∈ qows, OkF f) (k : Φ (.bl (decide (rows = qows)))) : OpD K S (rEqD K) (.lst (rows.map dF)) (.lst (qows.map dF)) Φ := by
  refine od_eqD (plain_rows rows) (plain_rows qows) (shape_rows (rows_ok h)) (shape_rows (rows_ok h2)) ?_
  show Φ (.bl (PyData.eqvAll (D.pys (rows.map dF)) (D.pys (qows.map dF))))
  rw [pys_rows, pys_rows, eqv_rows]
  exact k
end
section
variable {P : Program} {w : World} {K : PySem.W.Frag} {mg : Str → Option Value} {base : Heap} {Yr : Ra}
/-- what `isinstance` asks of the kit -/
structure Tcl (K : PySem.W.Frag) : Prop where
  cn : PySem.W.specialIn K (.builtin "object.__class__") "__get__" = some (some (.builtin "getset_descriptor.__get__"))
  ct : PySem.W.takesIn K (.builtin "object.__class__") = some true
/-- a rule against another one, or against a strange thing -/
def fRuEqA (K : PySem.W.Frag) (Yr : Ra) : FD := fun ds Φ =>
  (∃ rows way nm rows' way' nm', ds = [dR Yr rows way nm, dR Yr rows' way' nm'] ∧ OkR rows way nm ∧ OkR rows' way' nm' ∧ Φ (.bl (decide (rows = rows' ∧ way = way' ∧ nm = nm')))) ∨
  ∃ rows way nm y t, ds = [dR Yr rows way nm, y] ∧ TyD K y t ∧ PySem.W.kitOne K t (.ref Yr.R) = some false ∧ Φ (.bl false)
theorem fRuEqA.no {rows : List (List Str)} {way nm : Str} {y : D} {Φ : D → Prop} (h : StrD K Yr.R y) (k : Φ (.bl false)) : fRuEqA K Yr [dR Yr rows way nm, y] Φ := by
  obtain ⟨t, h1, h2, _⟩ := h
  exact .inr ⟨rows, way, nm, y, t, rfl, h1, h2, k⟩
theorem okR_nmw {rows : List (List Str)} {way nm : Str} (O : OkR rows way nm) : okS [way, nm] := fun x hx => by
  have hw : ∀ y ∈ waysL, isW y = true := by decide +kernel
  obtain ⟨f, hf, e⟩ := List.mem_map.mp O.nm
  obtain ⟨y, us, rfl, hy, _⟩ := O.ok f hf
  simp only [List.mem_cons, List.not_mem_nil, or_false] at hx
  rcases hx with rfl | rfl
  · exact isW_ok (hw _ O.way)
  · rw [← e]; exact isW_ok hy
theorem okS_rule_eq (B : Bn mg) (UC : Tcl K) (Ur : Tr K mg Yr) (Df : DefM K Yr.R "__eq__" "Rule.__eq__" sRule___eq__) : CalMS P w K mg base 1 Yr.R "__eq__" ["self", "other"] (spD K (fRuEqA K Yr)) := by
  refine CalM.ofD Df scRule___eq__ (fun _ _ _ _ _ _ us hl => match us, hl with | [_, _], _ => rfl) (fun ds Φ h => ?_) (fun fa cdv A outer s H hr => ⟨_, (pss_one (ps_ret (pe_and (pe_callB (n_isi K) (by rfl) B.isinstance (by decide +kernel) (pa_cons (pv 1) (pa_cons (pe_glob (v := .ref Yr.R) rfl Ur.mg rfl) pa_nil))) (pe_and (pe_cmpR (o_eqD K hr.units) (e_fld K (pv 0)) (e_fld K (pv 1)) (nomark _)) (pe_one (pe_cmpR (o_eqD K hr.units) (e_fld K (pv 0)) (e_fld K (pv 1)) (nomark _))))))), fun S ds Φ h => ?_⟩)
  · rcases h with ⟨_, _, _, _, _, _, rfl, _⟩ | ⟨_, _, _, _, _, rfl, _⟩ <;> rfl
  · have c1 : ClT K Yr.R := ⟨Ur.cl, Ur.ca, UC.cn, UC.ct, Ur.cm⟩
    rcases h with ⟨rows, way, nm, rows', way', nm', rfl, O, O', k⟩ | ⟨rows, way, nm, y, t, rfl, ht, hk, k⟩
    · walk_at "dg"
      refine od_eqRows O.ok O'.ok ?_
      walk_at "dg"
      by_cases h : rows = rows'
      · rw [decide_eq_true h]
        walk_at "dg"
        refine od_eqTS (ws := [way, nm]) (us := [way', nm']) (okR_nmw O) (okR_nmw O') ?_
        have e : decide ([way, nm] = [way', nm']) = decide (rows = rows' ∧ way = way' ∧ nm = nm') := decide_eq_decide.mpr ⟨fun z => by cases z; exact ⟨h, rfl, rfl⟩, fun z => by rw [z.2.1, z.2.2]⟩
        rw [e]
        exact k
      · rw [decide_eq_false h]
        rw [decide_eq_false (fun z => h z.1)] at k
        walk_at "dg"
        exact k
    · walk_at "dg"
      exact k
end
end
/-! The four rules. -/
section
set_option maxRecDepth 100000
set_option maxHeartbeats 2000000

abbrev sRule_furthest : Stmt := inClass (top 18) 6
theorem scRule_furthest : FnScope [] [] (defScope sRule_furthest) := ⟨rfl, rfl, rfl, by decide +kernel, rfl, by decide +kernel, by decide +kernel⟩
abbrev sRule_latest : Stmt := inClass (top 18) 7
theorem scRule_latest : FnScope [] [] (defScope sRule_latest) := ⟨rfl, rfl, rfl, by decide +kernel, rfl, by decide +kernel, by decide +kernel⟩
abbrev sRule_newest : Stmt := inClass (top 18) 8
theorem scRule_newest : FnScope [] [] (defScope sRule_newest) := ⟨rfl, rfl, rfl, by decide +kernel, rfl, by decide +kernel, by decide +kernel⟩
abbrev sRule_inrow : Stmt := inClass (top 18) 9
theorem scRule_inrow : FnScope [] [] (defScope sRule_inrow) := ⟨rfl, rfl, rfl, by decide +kernel, rfl, by decide +kernel, by decide +kernel⟩
def farR : List (List Str) := [["far", "raise", "no", "least", "raise", "raise", "exact"]]
def lateR : List (List Str) := [["late", "last", "last", "least", "last", "last", "exact"]]
def newR : List (List Str) := [["late", "last", "last", "least", "later", "later", "exact"]]
def rowR : List (List Str) := [["row", "row", "no", "least", "raise", "raise", "exact"]]
/-- the words of a rule stand in the tables -/
def okRB (rows : List (List Str)) (way nm : Str) : Bool := decide (0 < rows.length) && decide (rows.length ≤ 3) && rows.all (fun f => match f with
  | [] => false
  | a :: us => isW a && decide (us.length = 6) && (us.zip wordsL).all fun p => decide (p.1 ∈ p.2)) && decide (rows.map headF).Nodup && decide (way ∈ waysL) && decide (nm ∈ rows.map headF)
theorem okRB_ok {rows : List (List Str)} {way nm : Str} (h : okRB rows way nm = true) : OkR rows way nm := by
  unfold okRB at h
  simp only [Bool.and_eq_true] at h
  obtain ⟨⟨⟨⟨⟨h1, h2⟩, h3⟩, h4⟩, h5⟩, h6⟩ := h
  refine ⟨of_decide_eq_true h1, of_decide_eq_true h2, fun f hf => ?_, of_decide_eq_true h4, of_decide_eq_true h5, of_decide_eq_true h6⟩
  have h := List.all_eq_true.mp h3 f hf
  cases f with
  | nil => cases h
  | cons a us =>
    simp only [Bool.and_eq_true] at h
    obtain ⟨⟨g1, g2⟩, g3⟩ := h
    refine ⟨a, us, rfl, g1, of_decide_eq_true g2, fun i u vs e1 e2 => ?_⟩
    have hz : (u, vs) ∈ us.zip wordsL := List.mem_of_getElem? (i := i) (by rw [List.getElem?_zip_eq_some]; exact ⟨e1, e2⟩)
    exact of_decide_eq_true (List.all_eq_true.mp g3 _ hz)
theorem farR_ok : OkR farR "greater" "far" := okRB_ok (by decide +kernel)
theorem lateR_ok : OkR lateR "field" "late" := okRB_ok (by decide +kernel)
theorem newR_ok : OkR newR "field" "late" := okRB_ok (by decide +kernel)
theorem rowR_ok : OkR rowR "greater" "row" := okRB_ok (by decide +kernel)
section
variable {P : Program} {w : World} {K : PySem.W.Frag} {mg : Str → Option Value} {base : Heap} {Yr : Ra}
def fThe (Yr : Ra) (rows : List (List Str)) (way nm : Str) : FD := fun ds Φ => ds = [] ∧ Φ (dR Yr rows way nm)
theorem okS_furthest (Ur : Tr K mg Yr) (CRule : CalC P w K mg base 4 "Rule" Yr.R ["self", "fields", "show"] (spI K Yr.R fRuleI)) (Df : DefSt K Yr.R "furthest" "Rule.furthest" sRule_furthest) : CalSt P w K mg base 6 Yr.R "furthest" (spD K (fThe Yr farR "greater" "far")) := by
  refine CalSt.ofD Df scRule_furthest (fun _ _ _ _ _ _ us hl => match us, hl with | [], _ => rfl) (fun ds Φ h => ?_) (fun fa cdv A outer s H hr => ⟨_, (pss_one (ps_ret (pe_mk CRule hr (by decide) (pa_cons (pe_lst (pa_cons (pe_tup (pa_cons pe_str (pa_cons pe_str (pa_cons pe_str (pa_cons pe_str (pa_cons pe_str (pa_cons pe_str (pa_cons pe_str pa_nil)))))))) pa_nil)) (pa_cons (pe_tup (pa_cons pe_str (pa_cons pe_str pa_nil))) pa_nil))))), fun S ds Φ h => ?_⟩)
  · obtain ⟨rfl, _⟩ := h; rfl
  · obtain ⟨rfl, k⟩ := h
    walk_at "dg"
    refine ⟨_, _, _, farR, "greater", "far", rfl, .inl rfl, ⟨rfl, fun j y f h1 h2 => ?_⟩, .inl rfl, farR_ok, ?_⟩
    · match j, h1, h2 with
      | 0, h1, h2 => cases h1; cases h2; exact .inl rfl
      | _ + 1, h1, _ => cases h1
    walk_at "dg"
    exact k
theorem okS_latest (Ur : Tr K mg Yr) (CRule : CalC P w K mg base 4 "Rule" Yr.R ["self", "fields", "show"] (spI K Yr.R fRuleI)) (Df : DefSt K Yr.R "latest" "Rule.latest" sRule_latest) : CalSt P w K mg base 6 Yr.R "latest" (spD K (fThe Yr lateR "field" "late")) := by
  refine CalSt.ofD Df scRule_latest (fun _ _ _ _ _ _ us hl => match us, hl with | [], _ => rfl) (fun ds Φ h => ?_) (fun fa cdv A outer s H hr => ⟨_, (pss_one (ps_ret (pe_mk CRule hr (by decide) (pa_cons (pe_lst (pa_cons (pe_tup (pa_cons pe_str (pa_cons pe_str (pa_cons pe_str (pa_cons pe_str (pa_cons pe_str (pa_cons pe_str (pa_cons pe_str pa_nil)))))))) pa_nil)) (pa_cons (pe_tup (pa_cons pe_str (pa_cons pe_str pa_nil))) pa_nil))))), fun S ds Φ h => ?_⟩)
  · obtain ⟨rfl, _⟩ := h; rfl
  · obtain ⟨rfl, k⟩ := h
    walk_at "dg"
    refine ⟨_, _, _, lateR, "field", "late", rfl, .inl rfl, ⟨rfl, fun j y f h1 h2 => ?_⟩, .inl rfl, lateR_ok, ?_⟩
    · match j, h1, h2 with
      | 0, h1, h2 => cases h1; cases h2; exact .inl rfl
      | _ + 1, h1, _ => cases h1
    walk_at "dg"
    exact k
theorem okS_newest (Ur : Tr K mg Yr) (CRule : CalC P w K mg base 4 "Rule" Yr.R ["self", "fields", "show"] (spI K Yr.R fRuleI)) (Df : DefSt K Yr.R "newest" "Rule.newest" sRule_newest) : CalSt P w K mg base 6 Yr.R "newest" (spD K (fThe Yr newR "field" "late")) := by
  refine CalSt.ofD Df scRule_newest (fun _ _ _ _ _ _ us hl => match us, hl with | [], _ => rfl) (fun ds Φ h => ?_) (fun fa cdv A outer s H hr => ⟨_, (pss_one (ps_ret (pe_mk CRule hr (by decide) (pa_cons (pe_lst (pa_cons (pe_tup (pa_cons pe_str (pa_cons pe_str (pa_cons pe_str (pa_cons pe_str (pa_cons pe_str (pa_cons pe_str (pa_cons pe_str pa_nil)))))))) pa_nil)) (pa_cons (pe_tup (pa_cons pe_str (pa_cons pe_str pa_nil))) pa_nil))))), fun S ds Φ h => ?_⟩)
  · obtain ⟨rfl, _⟩ := h; rfl
  · obtain ⟨rfl, k⟩ := h
    walk_at "dg"
    refine ⟨_, _, _, newR, "field", "late", rfl, .inl rfl, ⟨rfl, fun j y f h1 h2 => ?_⟩, .inl rfl, newR_ok, ?_⟩
    · match j, h1, h2 with
      | 0, h1, h2 => cases h1; cases h2; exact .inl rfl
      | _ + 1, h1, _ => cases h1
    walk_at "dg"
    exact k
theorem okS_inrow (Ur : Tr K mg Yr) (CRule : CalC P w K mg base 4 "Rule" Yr.R ["self", "fields", "show"] (spI K Yr.R fRuleI)) (Df : DefSt K Yr.R "inrow" "Rule.inrow" sRule_inrow) : CalSt P w K mg base 6 Yr.R "inrow" (spD K (fThe Yr rowR "greater" "row")) := by
  refine CalSt.ofD Df scRule_inrow (fun _ _ _ _ _ _ us hl => match us, hl with | [], _ => rfl) (fun ds Φ h => ?_) (fun fa cdv A outer s H hr => ⟨_, (pss_one (ps_ret (pe_mk CRule hr (by decide) (pa_cons (pe_lst (pa_cons (pe_tup (pa_cons pe_str (pa_cons pe_str (pa_cons pe_str (pa_cons pe_str (pa_cons pe_str (pa_cons pe_str (pa_cons pe_str pa_nil)))))))) pa_nil)) (pa_cons (pe_tup (pa_cons pe_str (pa_cons pe_str pa_nil))) pa_nil))))), fun S ds Φ h => ?_⟩)
  · obtain ⟨rfl, _⟩ := h; rfl
  · obtain ⟨rfl, k⟩ := h
    walk_at "dg"
    refine ⟨_, _, _, rowR, "greater", "row", rfl, .inl rfl, ⟨rfl, fun j y f h1 h2 => ?_⟩, .inl rfl, rowR_ok, ?_⟩
    · match j, h1, h2 with
      | 0, h1, h2 => cases h1; cases h2; exact .inl rfl
      | _ + 1, h1, _ => cases h1
    walk_at "dg"
    exact k
end
end
/-! What a rule tells of itself. -/
section
set_option maxRecDepth 100000
set_option maxHeartbeats 2000000

abbrev sRule_fields : Stmt := inClass (top 18) 2
theorem scRule_fields : FnScope ["self"] ["self"] (defScope sRule_fields) := ⟨rfl, rfl, rfl, by decide +kernel, rfl, by decide +kernel, by decide +kernel⟩
abbrev sRule_show : Stmt := inClass (top 18) 3
theorem scRule_show : FnScope ["self"] ["self"] (defScope sRule_show) := ⟨rfl, rfl, rfl, by decide +kernel, rfl, by decide +kernel, by decide +kernel⟩
section
variable {P : Program} {w : World} {K : PySem.W.Frag} {mg : Str → Option Value} {base : Heap} {Yr : Ra}
def fRFields (Yr : Ra) : FD := fun ds Φ => ∃ rows way nm, ds = [dR Yr rows way nm] ∧ rows.length ≤ 3 ∧ Φ (.lst (rows.map dF))
theorem okM_fields (B : Bn mg) (Ur : Tr K mg Yr) (Df : DefM K Yr.R "fields" "Rule.fields" sRule_fields) : CalM P w K mg base 1 Yr.R "fields" ["self"] (spD K (fRFields Yr)) := by
  refine CalM.ofD Df scRule_fields (fun _ _ _ _ _ _ us hl => match us, hl with | [_], _ => rfl) (fun ds Φ h => ?_) (fun fa cdv A outer s H hr => ⟨_, (pss_one (ps_ret (pe_callTy (n_list K) (by rfl) B.list (by decide +kernel) (pa_cons (e_fld K (pv 0)) pa_nil)))), fun S ds Φ h => ?_⟩)
  · obtain ⟨_, _, _, rfl, _⟩ := h; rfl
  · obtain ⟨rows, way, nm, rfl, h3, k⟩ := h
    walk_at "dg"
    exact k
def fRShow (Yr : Ra) : FD := fun ds Φ => ∃ rows way nm, ds = [dR Yr rows way nm] ∧ Φ (.tup [.str way, .str nm])
theorem okM_show (B : Bn mg) (Ur : Tr K mg Yr) (Df : DefM K Yr.R "show" "Rule.show" sRule_show) : CalM P w K mg base 1 Yr.R "show" ["self"] (spD K (fRShow Yr)) := by
  refine CalM.ofD Df scRule_show (fun _ _ _ _ _ _ us hl => match us, hl with | [_], _ => rfl) (fun ds Φ h => ?_) (fun fa cdv A outer s H hr => ⟨_, (pss_one (ps_ret (e_fld K (pv 0)))), fun S ds Φ h => ?_⟩)
  · obtain ⟨_, _, _, rfl, _⟩ := h; rfl
  · obtain ⟨rows, way, nm, rfl, k⟩ := h
    walk_at "dg"
    exact k
end
end
/-! What becomes of values. -/
section
set_option maxRecDepth 100000
set_option maxHeartbeats 2000000

section
variable {P : Program} {w : World} {K : PySem.W.Frag} {mg : Str → Option Value} {base : Heap} {Z : Cs} {Yr : Ra}
end
end
/-! Stand: what is told of it. -/
section
set_option maxRecDepth 100000
set_option maxHeartbeats 2000000
structure Ts (K : PySem.W.Frag) (mg : Str → Option Value) (Ys : Addr) : Prop where
  mg : mg "Stand" = some (.ref Ys)
  ca : PySem.W.findIn K (.ref Ys) "__class__" = some (some (.builtin "object.__class__"))
  cm : PySem.W.mroIn K Ys (.type "object") = some true
  cl : Cls K Ys
  nRule : NoAttr K Ys "rule"
  nTables : NoAttr K Ys "tables"
  nSpots : NoAttr K Ys "spots"
  nHeld : NoAttr K Ys "held"
  nStamps : NoAttr K Ys "stamps"
  nRow : NoAttr K Ys "row"
  nTop : NoAttr K Ys "top"
  nCome : NoAttr K Ys "come_to"
abbrev Tbl := List (Option (List Nat))
/-- the kernel of a value -/
def kerT (t : Option (List Nat)) (v : Nat) : Nat := match t with
  | none => v
  | some l => l.getD v 0
/-- the value lies in the table -/
def inT (t : Option (List Nat)) (v : Nat) : Prop := match t with
  | none => True
  | some l => v < l.length
/-- what stands behind a history -/
structure Sd where
  spots : List Nat
  held : List (List Nat)
  stamps : List Nat
  row : Nat
  top : Nat
  seen : List Nat
/-- its addresses -/
structure SA where
  a : Addr
  sp : Addr
  hd : Addr
  st : Addr
  ct : Addr
  ms : List Addr
abbrev stN : List Str := ["rule", "tables", "spots", "held", "stamps", "row", "top", "come_to"]
abbrev stF (rule tb : D) (A : SA) (s : Sd) : List D := [rule, tb, pD A.sp, pD A.hd, pD A.st, .int (s.row : Nat), .int (s.top : Nat), pD A.ct]
abbrev stG (Ys : Addr) (rule tb : D) (A : SA) (s : Sd) : Gh := (A.a, .i Ys stN (stF rule tb A s)) :: (A.sp, .l (dN s.spots)) :: (A.st, .l (dN s.stamps)) :: (A.ct, .l (dN s.seen)) :: rowsG A.hd A.ms (s.held.map dN)
/-- Stand as a frozen thing -/
abbrev dSt (Ys : Addr) (rule tb : D) (s : Sd) : D := .ins Ys stN [rule, tb, .lst (dN s.spots), .lst (dNN s.held), .lst (dN s.stamps), .int (s.row : Nat), .int (s.top : Nat), .lst (dN s.seen)]
section
variable {K : PySem.W.Frag} {mg : Str → Option Value} {Ys : Addr} {S : Sx} {Φ : D → Prop} {rule tb : D} {s : Sd} {A : SA} {ρ : List Sl} {i : Nat} {m : Bool}
theorem fS_rule (U : Ts K mg Ys) (k : Φ rule) : UnD K S (rFld K "rule") (dSt Ys rule tb s) Φ := ud_fld U.cl U.nRule (n := 0) (by decide +kernel) rfl k
theorem fS_tables (U : Ts K mg Ys) (k : Φ tb) : UnD K S (rFld K "tables") (dSt Ys rule tb s) Φ := ud_fld U.cl U.nTables (n := 1) (by decide +kernel) rfl k
theorem fS_spots (U : Ts K mg Ys) (k : Φ (.lst (dN s.spots))) : UnD K S (rFld K "spots") (dSt Ys rule tb s) Φ := ud_fld U.cl U.nSpots (n := 2) (by decide +kernel) rfl k
theorem fS_held (U : Ts K mg Ys) (k : Φ (.lst (dNN s.held))) : UnD K S (rFld K "held") (dSt Ys rule tb s) Φ := ud_fld U.cl U.nHeld (n := 3) (by decide +kernel) rfl k
theorem fS_stamps (U : Ts K mg Ys) (k : Φ (.lst (dN s.stamps))) : UnD K S (rFld K "stamps") (dSt Ys rule tb s) Φ := ud_fld U.cl U.nStamps (n := 4) (by decide +kernel) rfl k
theorem fS_row (U : Ts K mg Ys) (k : Φ (.int (s.row : Nat))) : UnD K S (rFld K "row") (dSt Ys rule tb s) Φ := ud_fld U.cl U.nRow (n := 5) (by decide +kernel) rfl k
theorem fS_top (U : Ts K mg Ys) (k : Φ (.int (s.top : Nat))) : UnD K S (rFld K "top") (dSt Ys rule tb s) Φ := ud_fld U.cl U.nTop (n := 6) (by decide +kernel) rfl k
theorem fS_come (U : Ts K mg Ys) (k : Φ (.lst (dN s.seen))) : UnD K S (rFld K "come_to") (dSt Ys rule tb s) Φ := ud_fld U.cl U.nCome (n := 7) (by decide +kernel) rfl k
end
end
end Lf
namespace Lf
open PySem PySem.Spec PyProof.Rows L2
local macro_rules | `(tactic| walk_at "nq") => `(tactic| first | with_reducible assumption | with_reducible exact Ne.symm (by assumption) | with_reducible exact ne_of_none (by assumption) (by assumption) | with_reducible exact Ne.symm (ne_of_none (by assumption) (by assumption)))
local macro_rules | `(tactic| walk_at "gt") => `(tactic| first | with_reducible assumption | with_reducible exact upd_same | ((with_reducible refine' upd_new ?ha ?hb); (case hb => with_reducible assumption); (case ha => walk_at "gt")) | ((with_reducible refine' upd_old ?ha ?hb); (case hb => walk_at "nq"); (case ha => walk_at "gt")) | ((with_reducible refine' sm_get ?hb ?ha); (case hb => with_reducible assumption); (case ha => walk_at "gt")) | ((with_reducible refine' fr_get ?hb ?ha ?hc); (case hb => with_reducible assumption); (case hc => walk_at "nq"); (case ha => walk_at "gt")))
local macro_rules | `(tactic| walk_at "sl") => `(tactic| first | with_reducible assumption | ((with_reducible refine' sl_of ?ha); (case ha => walk_at "gt")) | ((with_reducible refine' sl_new ?ha ?hb); (case hb => with_reducible assumption); (case ha => walk_at "sl")) | ((with_reducible refine' sl_sm ?hb ?ha); (case hb => with_reducible assumption); (case ha => walk_at "sl")) | ((with_reducible refine' sl_fr ?hb ?hc ?ha); (case hb => with_reducible assumption); (case hc => walk_at "nq"); (case ha => walk_at "sl")))
local macro_rules | `(tactic| walk_at "st") => `(tactic| first | with_reducible assumption | ((with_reducible refine' st_of ?ha); (case ha => walk_at "gt")) | ((with_reducible refine' st_new ?ha ?hb); (case hb => with_reducible assumption); (case ha => walk_at "st")) | ((with_reducible refine' st_sm ?hb ?ha); (case hb => with_reducible assumption); (case ha => walk_at "st")) | ((with_reducible refine' st_fr ?hb ?hc ?ha); (case hb => with_reducible assumption); (case hc => walk_at "nq"); (case ha => walk_at "st")))
local macro_rules | `(tactic| walk_at "sa") => `(tactic| first | with_reducible assumption | ((with_reducible refine' sa_l ?ha); (case ha => walk_at "gt")) | ((with_reducible refine' sa_t ?ha); (case ha => walk_at "gt")) | ((with_reducible refine' sa_new ?ha ?hb); (case hb => with_reducible assumption); (case ha => walk_at "sa")) | ((with_reducible refine' sa_sm ?hb ?ha); (case hb => with_reducible assumption); (case ha => walk_at "sa")) | ((with_reducible refine' sa_fr ?hb ?hc ?ha); (case hb => with_reducible assumption); (case hc => walk_at "nq"); (case ha => walk_at "sa")) | ((with_reducible refine' Or.inl ?ha); (case ha => walk_at "sl")) | ((with_reducible refine' Or.inr ?ha); (case ha => walk_at "st")))
local macro_rules | `(tactic| walk_at "ln") => `(tactic| first | decide | omega | exact Nat.le_of_ble_eq_true rfl | (simp only [List.length_append, List.length_map, List.length_cons, List.length_nil, List.length_flatMap]; omega))
local macro_rules | `(tactic| walk_at "ty") => `(tactic| first | with_reducible assumption | with_reducible exact .base (.int _) | with_reducible exact .base (.str _) | with_reducible exact .base (.bl _) | with_reducible exact .base .non | ((with_reducible refine' TyX.base (TyOf.lst ?ha)); (case ha => walk_at "gt")) | ((with_reducible refine' TyX.base (TyOf.tup ?ha)); (case ha => walk_at "gt")) | ((with_reducible refine' TyX.base (TyOf.dK ?ha)); (case ha => walk_at "gt")) | ((with_reducible refine' ty_new ?ha ?hb); (case hb => with_reducible assumption); (case ha => walk_at "ty")) | ((with_reducible refine' ty_sm ?hb ?ha); (case hb => with_reducible assumption); (case ha => walk_at "ty")))
local macro_rules | `(tactic| walk_at "kb") => `(tactic| first | with_reducible assumption | exact kb_str_str | exact kb_int_str | exact kb_list_str | exact kb_tuple_str | exact kb_bool_str | exact kb_NoneType_str | exact kb_dict_str | exact kb_str_int | exact kb_int_int | exact kb_list_int | exact kb_tuple_int | exact kb_bool_int | exact kb_NoneType_int | exact kb_dict_int | exact kb_str_bool | exact kb_int_bool | exact kb_list_bool | exact kb_tuple_bool | exact kb_bool_bool | exact kb_NoneType_bool | exact kb_dict_bool | exact kb_str_list | exact kb_int_list | exact kb_list_list | exact kb_tuple_list | exact kb_bool_list | exact kb_NoneType_list | exact kb_dict_list | exact kb_str_tuple | exact kb_int_tuple | exact kb_list_tuple | exact kb_tuple_tuple | exact kb_bool_tuple | exact kb_NoneType_tuple | exact kb_dict_tuple | exact kb_str_dict | exact kb_int_dict | exact kb_list_dict | exact kb_tuple_dict | exact kb_bool_dict | exact kb_NoneType_dict | exact kb_dict_dict)
local macro_rules | `(tactic| walk_at "wk") => `(tactic| first | with_reducible assumption | ((with_reducible refine' WkAt.new ?ha ?hb); (case hb => with_reducible assumption); (case ha => walk_at "wk")) | ((with_reducible refine' WkAt.sm ?hb ?ha); (case hb => with_reducible assumption); (case ha => walk_at "wk")) | ((with_reducible refine' WkAt.dr ?hb ?hc ?ha); (case hb => with_reducible assumption); (case hc => with_reducible assumption); (case ha => walk_at "wk")))
local macro_rules | `(tactic| walk_at "ed") => `(tactic| first | with_reducible assumption | ((with_reducible refine' EdAt.new ?ha ?hb); (case hb => with_reducible assumption); (case ha => walk_at "ed")) | ((with_reducible refine' EdAt.sm ?hb ?ha); (case hb => with_reducible assumption); (case ha => walk_at "ed")) | ((with_reducible refine' EdAt.dr ?hb ?hc ?ha); (case hb => with_reducible assumption); (case hc => with_reducible assumption); (case ha => walk_at "ed")))
local macro_rules | `(tactic| walk_at "pl") => `(tactic| first | with_reducible assumption | ((with_reducible refine' PlAt.new ?ha ?hb); (case hb => with_reducible assumption); (case ha => walk_at "pl")) | ((with_reducible refine' PlAt.sm ?hb ?ha); (case hb => with_reducible assumption); (case ha => walk_at "pl")) | ((with_reducible refine' PlAt.dr ?hb ?hc ?ha); (case hb => with_reducible assumption); (case hc => with_reducible assumption); (case ha => walk_at "pl")))
local macro_rules | `(tactic| walk_at "fl") => `(tactic| first | with_reducible assumption | ((with_reducible refine' WkAt.rows ?hT ?hW); (case hT => assumption); (case hW => walk_at "wk")) | ((with_reducible refine' WkAt.name ?hT ?hW); (case hT => assumption); (case hW => walk_at "wk")) | ((with_reducible refine' EdAt.work ?hT ?hW); (case hT => assumption); (case hW => walk_at "ed")) | ((with_reducible refine' EdAt.nums ?hT ?hW); (case hT => assumption); (case hW => walk_at "ed")) | ((with_reducible refine' PlAt.edition ?hT ?hW); (case hT => assumption); (case hW => walk_at "pl")) | ((with_reducible refine' PlAt.count ?hT ?hW); (case hT => assumption); (case hW => walk_at "pl")))
local macro_rules | `(tactic| walk_at "mt") => `(tactic| first | with_reducible assumption | ((with_reducible refine' WkAt.mt ?hn1 ?hn2 ?hW); (case hW => walk_at "wk"); (case hn1 => decide +kernel); (case hn2 => decide +kernel)) | ((with_reducible refine' EdAt.mt ?hn1 ?hn2 ?hW); (case hW => walk_at "ed"); (case hn1 => decide +kernel); (case hn2 => decide +kernel)) | ((with_reducible refine' PlAt.mt ?hn1 ?hn2 ?hW); (case hW => walk_at "pl"); (case hn1 => decide +kernel); (case hn2 => decide +kernel)))
local macro_rules | `(tactic| walk_at "is") => `(tactic| first | with_reducible assumption | ((with_reducible refine' WkAt.is ?hW); (case hW => walk_at "wk")) | ((with_reducible refine' EdAt.is ?hW); (case hW => walk_at "ed")) | ((with_reducible refine' PlAt.is ?hW); (case hW => walk_at "pl")))
local macro_rules | `(tactic| walk_at "ic") => `(tactic| first
  | ((with_reducible show CMul _ _); first | exact Or.inl ⟨by decide, by decide⟩ | exact Or.inr ⟨by decide, by decide⟩ | exact Or.inl ⟨by omega, by omega⟩ | exact Or.inr ⟨by omega, by omega⟩)
  | ((with_reducible show CDiv _ _); first | exact ⟨by decide, by decide⟩ | exact ⟨by omega, by omega⟩)
  | ((with_reducible show CPow _ _); first | exact ⟨by decide, by decide, by decide⟩ | exact ⟨by decide, by decide, by omega⟩)
  | (show (0 : Int) < _; first | decide | omega))
local macro_rules | `(tactic| walk_at "s1") => `(tactic| first
  | with_reducible refine k_seq ?_
  | with_reducible refine k_set ?_
  | with_reducible refine k_asg ?_
  | with_reducible refine k_par ?_
  | with_reducible refine k_par2 ?_
  | with_reducible refine k_drop ?_
  | with_reducible refine k_ret ?_
  | with_reducible refine k_next ?_
  | with_reducible refine k_if ?_
  | ((with_reducible refine' k_aug ?hv ?_); (case hv => exact rfl))
  | with_reducible refine k_ipI ?_
  | with_reducible refine k_gname ?_
  | with_reducible refine k_gsub ?_
  | ((with_reducible refine' k_gtup ?hv ?hw ?_); (case hv => walk_at "st"); (case hw => rfl))
  | with_reducible refine k_gcons ?_
  | with_reducible refine k_gnil ?_
  | with_reducible refine k_test ?_
  | with_reducible refine k_B ?_
  | with_reducible refine k_blE ?_
  | with_reducible refine k_and ?_
  | with_reducible refine k_or ?_
  | with_reducible refine k_not ?_
  | with_reducible refine iteT ?_
  | with_reducible refine iteF ?_
  | with_reducible refine iteNT ?_
  | with_reducible refine iteNF ?_
  | ((with_reducible refine' k_var ?hv ?_); (case hv => exact rfl))
  | with_reducible refine k_c ?_
  | with_reducible refine k_op ?_
  | with_reducible refine k_un ?_
  | with_reducible refine k_U ?_
  | with_reducible refine k_I0 ?_
  | ((with_reducible refine' k_I ?hv ?_); (case hv => walk_at "ic"))
  | with_reducible refine k_eqI ?_
  | with_reducible refine k_neI ?_
  | with_reducible refine k_eqS ?_
  | with_reducible refine k_neS ?_
  | with_reducible refine k_eqB ?_
  | with_reducible refine k_neB ?_
  | with_reducible refine k_for ?_
  | with_reducible refine k_iE ?_
  | with_reducible refine k_iA ?_
  | ((with_reducible refine' k_itl ?hv ?_); (case hv => walk_at "sl"))
  | ((with_reducible refine' k_itt ?hv ?_); (case hv => walk_at "st"))
  | with_reducible refine k_its ?_
  | ((with_reducible refine' k_rg1n ?hv ?_); (case hv => first | decide | omega))
  | ((with_reducible refine' k_rg1 ?hv ?hw ?_); (case hv => first | decide | omega); (case hw => first | decide | omega))
  | ((with_reducible refine' k_inS ?hv ?_); (case hv => walk_at "sa"))
  | ((with_reducible refine' k_inI ?hv ?_); (case hv => walk_at "sa"))
  | ((with_reducible refine' k_ninS ?hv ?_); (case hv => walk_at "sa"))
  | ((with_reducible refine' k_ninI ?hv ?_); (case hv => walk_at "sa"))
  | ((with_reducible refine' k_zipl ?hv ?hw ?_); (case hv => walk_at "sl"); (case hw => walk_at "sl"))
  | with_reducible refine k_nil ?_
  | with_reducible refine k_cons ?_
  | with_reducible refine k_cb ?_
  | with_reducible refine k_call ?_
  | with_reducible refine k_lst ?_
  | with_reducible refine k_tup ?_
  | with_reducible refine k_ifx ?_
  | with_reducible refine k_andv ?_
  | with_reducible refine k_orv ?_
  | with_reducible refine k_notv ?_
  | with_reducible refine k_inti ?_
  | with_reducible refine k_intb ?_
  | with_reducible refine k_sl ?_
  | with_reducible refine k_nopart ?_
  | with_reducible refine k_part ?_
  | with_reducible refine k_parti ?_
  | ((with_reducible refine' k_lenl ?hv ?_); (case hv => walk_at "sl"))
  | ((with_reducible refine' k_lent ?hv ?_); (case hv => walk_at "st"))
  | ((with_reducible refine' k_lens ?hv ?_); (case hv => exact szl (by walk_at "ln")))
  | ((with_reducible refine' k_lena ?hv ?_); (case hv => walk_at "sa"))
  | ((with_reducible refine' k_ixl ?hv ?hn ?_); (case hv => walk_at "sl"); (case hn => first | rfl | assumption))
  | ((with_reducible refine' k_ixt ?hv ?hn ?_); (case hv => walk_at "st"); (case hn => first | rfl | assumption))
  | ((with_reducible refine' k_ixa ?hv ?hn ?_); (case hv => walk_at "sa"); (case hn => first | rfl | assumption))
  | with_reducible refine k_chain ?_
  | ((with_reducible refine' k_isi ?hv ?hw ?_); (case hv => walk_at "ty"); (case hw => walk_at "kb"))
  | ((with_reducible refine' k_isi2 ?hb ?hp ?hv ?hw ?hx ?_); (case hp => walk_at "gt"); (case hv => walk_at "ty"); (case hw => walk_at "kb"); (case hx => walk_at "kb"); (case hb => first | exact or_t | exact or_f))
  | ((with_reducible refine' k_all ?hv ?_); (case hv => walk_at "gt"))
  | ((with_reducible refine' k_any ?hv ?_); (case hv => walk_at "gt"))
  | with_reducible refine k_insign ?_
  | with_reducible refine k_fldR ?_
  | ((with_reducible refine' k_fl ?hv ?_); (case hv => walk_at "fl"))
  | with_reducible refine k_sfld ?_
  | with_reducible refine k_meth ?_
  | ((with_reducible refine' k_mt ?hv ?_); (case hv => walk_at "mt"))
  | with_reducible refine k_make ?_
  | ((with_reducible refine' k_own ?hv ?hw ?_); (case hv => walk_at "is"); (case hw => walk_at "is"))
  | ((with_reducible refine' k_ownin ?hv ?_); (case hv => walk_at "is"))
  | ((with_reducible refine' k_lenO ?hv ?_); (case hv => walk_at "is"))
  | with_reducible refine k_prop ?_
  | ((with_reducible refine' k_pr ?hv ?_); (case hv => walk_at "is"))
  | ((with_reducible refine' k_ownI ?hv ?_); (case hv => walk_at "is"))
  | ((with_reducible refine' k_ownR ?hv ?_); (case hv => walk_at "is"))
  | with_reducible refine k_mx ?_
  | with_reducible refine k_mn ?_
  | with_reducible refine k_lrg ?_
  | with_reducible refine k_rgt ?_
  | with_reducible refine k_rgti ?_
  | with_reducible refine k_bm ?_
  | with_reducible refine k_bm0 ?_
  | with_reducible refine k_tys ?_
  | ((with_reducible refine' k_tyl ?hv ?_); (case hv => walk_at "sl"))
  | ((with_reducible refine' k_ext ?hv ?hw ?hn ?_); (case hv => walk_at "gt"); (case hw => walk_at "gt"); (case hn => walk_at "ln"))
  | ((with_reducible refine' k_app ?hv ?hn ?_); (case hv => walk_at "gt"); (case hn => walk_at "ln"))
  | ((with_reducible refine' k_popat ?hv ?hn ?hw ?_); (case hv => walk_at "gt"); (case hn => with_reducible assumption); (case hw => walk_at "ln"))
  | with_reducible refine k_lc ?_
  | with_reducible refine k_yes0 ?_
  | ((with_reducible show wipe _ _ = wipe _ _ ∧ _); refine ⟨rfl, ?_⟩)
  | ((with_reducible refine' k_adds ?hv ?_); (case hv => walk_at "ln"))
  | ((with_reducible refine' k_st1 ?hv ?_); (case hv => walk_at "gt"))
  | ((with_reducible refine' k_st2 ?hv ?_); (case hv => walk_at "gt"))
  | ((with_reducible refine' k_st3 ?hv ?_); (case hv => walk_at "gt"))
  | ((with_reducible refine' k_setl ?hv ?hn ?_); (case hv => walk_at "gt"); (case hn => rfl)))
local macro_rules | `(tactic| walk_at "put") => `(tactic| ((refine' ⟨_, ?ha, sz ?hb, ?_⟩); (case ha => walk_at "gt"); (case hb => walk_at "ln")))
local macro_rules | `(tactic| walk_at "go") => `(tactic| repeat (walk_at "s1"))
local macro_rules | `(tactic| walk_at "dv") => `(tactic| first | exact rfl | with_reducible assumption)
local macro_rules | `(tactic| walk_at "dt") => `(tactic| first | with_reducible assumption | with_reducible exact .int | with_reducible exact .str | with_reducible exact .bl | with_reducible exact .non | with_reducible exact .lst | with_reducible exact .tup | with_reducible exact .dk | ((with_reducible refine' TyD.ins ?hc); (case hc => with_reducible assumption)))
local macro_rules | `(tactic| walk_at "dm") => `(tactic| first | exact trivial | exact List.mem_cons_self | exact List.mem_cons_of_mem _ List.mem_cons_self | exact List.mem_cons_of_mem _ (List.mem_cons_of_mem _ List.mem_cons_self))
local macro_rules | `(tactic| walk_at "dy") => `(tactic| first | exact Or.inl rfl | exact Or.inr rfl)
local macro_rules | `(tactic| walk_at "xExD") => `(tactic| first
  | ((with_reducible refine' ex_re ?hX ?_); (case hX => assumption))
  | ((with_reducible refine' ex_re2 ?hX ?_); (case hX => assumption))
  | ((with_reducible refine' ex_rz ?hX ?_); (case hX => assumption)))
local macro_rules | `(tactic| walk_at "xOpD") => `(tactic| first
  | ((with_reducible refine' od_ownX ?hX ?_); (case hX => assumption))
  | ((with_reducible refine' od_ownIX ?hX ?_); (case hX => assumption)))
local macro_rules | `(tactic| walk_at "xEvD") => `(tactic| first
  | ((with_reducible refine' ev_callT ?hX ?_); (case hX => assumption))
  | ((with_reducible refine' ev_callX ?hX ?_); (case hX => assumption))
  | ((with_reducible refine' ev_methX ?hX ?_); (case hX => assumption))
  | ((with_reducible refine' ev_makeX ?hX ?_); (case hX => assumption))
  | ((with_reducible refine' ev_kwX ?hX ?_); (case hX => assumption))
  | ((with_reducible refine' ev_mkKwX ?hX ?_); (case hX => assumption)))
local macro_rules | `(tactic| walk_at "gEvD") => `(tactic| first
  | ((with_reducible refine' ev_var ?hv ?_); (case hv => exact rfl))
  | ((with_reducible refine' ev_varO ?hv ?_); (case hv => exact rfl))
  | with_reducible refine ev_ci ?_
  | with_reducible refine ev_cs ?_
  | with_reducible refine ev_cb ?_
  | with_reducible refine ev_cn ?_
  | ((with_reducible refine' ev_kt ?h ?_); (case h => with_reducible assumption))
  | with_reducible refine ev_cr ?_
  | with_reducible refine ev_ct ?_
  | with_reducible refine ev_new (evN_op (r := rCat) ?_)
  | with_reducible refine ev_new (evN_op (r := rRep) ?_)
  | ((with_reducible refine' ev_ixO ?hv ?_); (case hv => exact rfl))
  | with_reducible refine ev_op ?_
  | with_reducible refine ev_un ?_
  | with_reducible refine ev_isi2 ?_
  | with_reducible refine ev_isi4 ?_
  | ((with_reducible refine' ev_new (evN_listO ?hv ?_)); (case hv => exact rfl))
  | with_reducible refine ev_new (evN_cb1 (f := rListOf _) ?_)
  | ((with_reducible refine' ev_lenO ?hv ?_); (case hv => exact rfl))
  | with_reducible refine ev_cb1 ?_
  | with_reducible refine ev_lst ?_
  | with_reducible refine ev_dnew ?_
  | with_reducible refine ev_tup ?_
  | with_reducible refine ev_if ?_
  | with_reducible refine ev_and ?_
  | with_reducible refine ev_or ?_
  | with_reducible refine ev_not ?_
  | with_reducible refine ev_chain ?_
  | ((with_reducible refine' ev_new (evN_lcO ?hv ?_)); (case hv => exact rfl))
  | with_reducible refine ev_new (evN_lc ?_)
  | with_reducible refine ev_new (evN_sl ?_)
  | with_reducible refine ev_slT ?_
  | ((with_reducible refine' ev_fldS (n := 0) ?hv ?hc ?hn ?h1 ?h2 ?_); (case hv => exact rfl); (case hc => with_reducible assumption); (case hn => with_reducible assumption); (case h1 => decide +kernel); (case h2 => exact rfl))
  | ((with_reducible refine' ev_fldS (n := 1) ?hv ?hc ?hn ?h1 ?h2 ?_); (case hv => exact rfl); (case hc => with_reducible assumption); (case hn => with_reducible assumption); (case h1 => decide +kernel); (case h2 => exact rfl))
  | ((with_reducible refine' ev_fldS (n := 2) ?hv ?hc ?hn ?h1 ?h2 ?_); (case hv => exact rfl); (case hc => with_reducible assumption); (case hn => with_reducible assumption); (case h1 => decide +kernel); (case h2 => exact rfl))
  | ((with_reducible refine' ev_fldS (n := 3) ?hv ?hc ?hn ?h1 ?h2 ?_); (case hv => exact rfl); (case hc => with_reducible assumption); (case hn => with_reducible assumption); (case h1 => decide +kernel); (case h2 => exact rfl))
  | with_reducible refine ev_fld ?_
  | with_reducible refine ev_call ?_
  | with_reducible refine ev_kw ?_
  | with_reducible refine ev_mkKw ?_
  | with_reducible refine ev_meth ?_
  | with_reducible refine ev_prop ?_
  | with_reducible refine ev_make ?_)
local macro_rules | `(tactic| walk_at "gOpD") => `(tactic| first
  | with_reducible refine od_int ?_
  | with_reducible refine od_bl ?_
  | ((with_reducible refine' od_I ?hv ?_); (case hv => walk_at "ic"))
  | with_reducible refine od_ip ?_
  | with_reducible refine od_eqI ?_
  | with_reducible refine od_neI ?_
  | with_reducible refine od_eqS ?_
  | with_reducible refine od_neS ?_
  | with_reducible refine od_eqB ?_
  | with_reducible refine od_neB ?_
  | with_reducible refine od_isbl ?_
  | ((with_reducible refine' od_ixl ?hv ?_); (case hv => walk_at "dv"))
  | ((with_reducible refine' od_ixt ?hv ?_); (case hv => walk_at "dv"))
  | ((with_reducible refine' od_ixL ?hv ?_); (case hv => walk_at "dv"))
  | ((with_reducible refine' od_ixT ?hv ?_); (case hv => walk_at "dv"))
  | ((with_reducible refine' od_inN ?hv ?_); (case hv => walk_at "dy"))
  | ((with_reducible refine' od_inI ?hv ?_); (case hv => walk_at "dy"))
  | ((with_reducible refine' od_inS ?hv ?_); (case hv => walk_at "dy"))
  | with_reducible refine od_sign ?_
  | ((with_reducible refine' od_adds ?hv ?_); (case hv => walk_at "ln"))
  | with_reducible refine od_own ?_
  | with_reducible refine od_ownI ?_
  | with_reducible refine od_ownR ?_
  | with_reducible refine od_ownin ?_)
local macro_rules | `(tactic| walk_at "gExD") => `(tactic| first
  | with_reducible refine ex_seq ?_
  | ((with_reducible refine' ex_new (te := tLst tNil) ?hi ?_); (case hi => exact Nat.le_of_ble_eq_true rfl))
  | ((with_reducible refine' ex_newO ?hi ?_); (case hi => exact Nat.le_of_ble_eq_true rfl))
  | with_reducible refine ex_set ?_
  | with_reducible refine ex_asg ?_
  | ((with_reducible refine' ex_par ?hi ?_); (case hi => decide))
  | with_reducible refine ex_par3 ?_
  | ((with_reducible refine' ex_retO ?hv ?_); (case hv => exact rfl))
  | with_reducible refine ex_ret ?_
  | with_reducible refine ex_retN ?_
  | with_reducible refine ex_next ?_
  | with_reducible refine ex_break ?_
  | with_reducible refine ex_cont ?_
  | with_reducible refine ex_ifB ?_
  | ((with_reducible refine' ex_aug ?hv ?_); (case hv => exact rfl))
  | ((with_reducible refine' ex_app ?hv ?hl ?_); (case hv => exact rfl); (case hl => walk_at "ln"))
  | ((with_reducible refine' ex_insO ?hv ?hl ?_); (case hv => exact rfl); (case hl => walk_at "ln"))
  | ((with_reducible refine' ex_fld ?hv ?hc ?hn ?hl ?_); (case hv => exact rfl); (case hc => with_reducible assumption); (case hn => with_reducible assumption); (case hl => exact Nat.le_of_ble_eq_true rfl))
  | ((with_reducible refine' ex_extO ?hv ?_); (case hv => exact rfl))
  | ((with_reducible refine' ex_clrO ?hv ?_); (case hv => exact rfl))
  | with_reducible refine ex_drop ?_
  | with_reducible refine ex_for ?_)
local macro_rules | `(tactic| walk_at "gEvT") => `(tactic| first
  | with_reducible refine et_test ?_
  | with_reducible refine et_B ?_
  | with_reducible refine et_and ?_
  | with_reducible refine et_or ?_
  | with_reducible refine et_not ?_
  | with_reducible refine et_yes ?_)
local macro_rules | `(tactic| walk_at "gite") => `(tactic| first
  | with_reducible refine iteT ?_
  | with_reducible refine iteF ?_
  | with_reducible refine iteNT ?_
  | with_reducible refine iteNF ?_)
local macro_rules | `(tactic| walk_at "gUnD") => `(tactic| first
  | with_reducible refine ud_U ?_
  | ((with_reducible refine' fW_name ?hT ?_); (case hT => assumption))
  | ((with_reducible refine' fW_rows ?hT ?_); (case hT => assumption))
  | ((with_reducible refine' fE_work ?hT ?_); (case hT => assumption))
  | ((with_reducible refine' fE_nums ?hT ?_); (case hT => assumption))
  | ((with_reducible refine' fP_edition ?hT ?_); (case hT => assumption))
  | ((with_reducible refine' fP_count ?hT ?_); (case hT => assumption))
  | ((with_reducible refine' fK_work ?hT ?_); (case hT => assumption))
  | ((with_reducible refine' fK_rows ?hT ?_); (case hT => assumption))
  | ((with_reducible refine' fK_told ?hT ?_); (case hT => assumption))
  | ((with_reducible refine' fS_rule ?hT ?_); (case hT => assumption))
  | ((with_reducible refine' fS_tables ?hT ?_); (case hT => assumption))
  | ((with_reducible refine' fS_spots ?hT ?_); (case hT => assumption))
  | ((with_reducible refine' fS_held ?hT ?_); (case hT => assumption))
  | ((with_reducible refine' fS_stamps ?hT ?_); (case hT => assumption))
  | ((with_reducible refine' fS_row ?hT ?_); (case hT => assumption))
  | ((with_reducible refine' fS_top ?hT ?_); (case hT => assumption))
  | ((with_reducible refine' fS_come ?hT ?_); (case hT => assumption))
  | ((with_reducible refine' fR_parts ?hT ?_); (case hT => assumption))
  | ((with_reducible refine' fR_way ?hT ?_); (case hT => assumption)))
local macro_rules | `(tactic| walk_at "gCbD") => `(tactic| first
  | ((with_reducible refine' cd_isi ?ht ?hk ?_); (case ht => walk_at "dt"); (case hk => walk_at "kb"))
  | ((with_reducible refine' cd_isiO ?ht ?hk ?_); (case ht => walk_at "dt"); (case hk => first | with_reducible assumption | exact kit_same))
  | ((with_reducible refine' cd_lens ?hv ?_); (case hv => walk_at "ln"))
  | with_reducible refine cd_len ?_
  | with_reducible refine cd_all ?_
  | with_reducible refine cd_any ?_
  | with_reducible refine cd_int ?_
  | with_reducible refine cd_intb ?_
  | with_reducible refine cd_mx ?_
  | with_reducible refine cd_mn ?_
  | with_reducible refine cd_tuple ?_
  | with_reducible refine cd_lenO ?_)
local macro_rules | `(tactic| walk_at "gEvI") => `(tactic| first
  | with_reducible refine ei_seq ?_
  | with_reducible refine ei_str ?_
  | with_reducible refine ei_rg1 ?_
  | with_reducible refine ei_rg2 ?_
  | with_reducible refine ei_enum ?_
  | with_reducible refine ei_zip ?_
  | with_reducible refine ei_zipA ?_
  | with_reducible refine ei_zipB ?_
  | with_reducible refine ei_zipB3 ?_)
local macro_rules | `(tactic| walk_at "gEvN") => `(tactic| first
  | ((with_reducible refine' evN_listO ?hv ?_); (case hv => exact rfl))
  | ((with_reducible refine' evN_lcO ?hv ?_); (case hv => exact rfl))
  | with_reducible refine evN_lc ?_
  | with_reducible refine evN_sl ?_
  | with_reducible refine evN_op ?_
  | with_reducible refine evN_cb1 ?_
  | with_reducible refine evN_lst ?_)
local macro_rules | `(tactic| walk_at "d1") => `(tactic| first
  | ((with_reducible show EvD _ _ _ _ _); walk_at "gEvD")
  | ((with_reducible show OpD _ _ _ _ _ _); walk_at "gOpD")
  | with_reducible refine ev_nil ?_
  | with_reducible refine ev_cons ?_
  | ((with_reducible show ExD _ _ _ _ _); walk_at "gExD")
  | ((with_reducible show EvT _ _ _ _ _); walk_at "gEvT")
  | with_reducible refine isB_mk ?_
  | walk_at "gite"
  | ((with_reducible show UnD _ _ _ _ _); walk_at "gUnD")
  | ((with_reducible show CbD _ _ _ _ _); walk_at "gCbD")
  | ((with_reducible refine' tg_name ?hi ?_); (case hi => walk_at "dm"))
  | ((with_reducible refine' tg_tup ?hi ?_); (case hi => exact rfl))
  | ((with_reducible refine' tg_unl ?hi ?_); (case hi => exact rfl))
  | with_reducible refine tg_cons ?_
  | with_reducible refine tg_nil ?_
  | ((with_reducible show EvI _ _ _ _ _); walk_at "gEvI")
  | ((with_reducible refine' few_mk ?hl ?_); (case hl => exact Nat.le_of_ble_eq_true rfl))
  | ((with_reducible show EvN _ _ _ _ _); walk_at "gEvN")
  | ((with_reducible refine' on_cat ?hv ?_); (case hv => walk_at "ln"))
  | ((with_reducible refine' on_rep ?hv ?hw ?_); (case hv => walk_at "ln"); (case hw => walk_at "ln"))
  | with_reducible refine cn_list ?_
  | with_reducible refine eo_no ?_
  | with_reducible refine eo_part ?_
  | with_reducible refine seq_l ?_
  | with_reducible refine seq_t ?_
  | with_reducible refine ⟨insD_mk (by decide +kernel), ?_⟩)
local macro_rules | `(tactic| walk_at "dx") => `(tactic| first
  | ((with_reducible show EvD _ _ _ _ _); walk_at "xEvD")
  | ((with_reducible show OpD _ _ _ _ _ _); walk_at "xOpD")
  | ((with_reducible show ExD _ _ _ _ _); walk_at "xExD"))
local macro_rules | `(tactic| walk_at "dX") => `(tactic| repeat (first | walk_at "d1" | walk_at "dx"))
local macro_rules | `(tactic| walk_at "dg") => `(tactic| repeat (walk_at "d1"))
section
set_option maxRecDepth 100000
set_option maxHeartbeats 2000000

section
variable {P : Program} {w : World} {K : PySem.W.Frag} {mg : Str → Option Value} {base : Heap} {Z : Cs} {Ys : Addr}
end
end
/-! Stand: reading pointers, changing cells. -/
section
set_option maxRecDepth 100000
set_option maxHeartbeats 2000000
section
variable {K : PySem.W.Frag} {mg : Str → Option Value} {Ys : Addr} {S : Sx} {ρ : List Sl} {Φ : D → Prop} {O : Oc} {rule tb : D} {s : Sd} {A : SA} {te ti tj : TE} {i k : Nat} {m : Bool} {t : TS}
abbrev HasS (Ys : Addr) (ρ : List Sl) (i : Nat) (m : Bool) (rule tb : D) (A : SA) (s : Sd) : Prop := ρ[i]? = some (.obj m (pD A.a) (stG Ys rule tb A s))
theorem HasS.a (h : HasS Ys ρ i m rule tb A s) : HasC ρ A.a (.i Ys stN (stF rule tb A s)) := .of i h List.mem_cons_self
theorem HasS.sp (h : HasS Ys ρ i m rule tb A s) : HasC ρ A.sp (.l (dN s.spots)) := .of i h (List.mem_cons_of_mem _ List.mem_cons_self)
theorem HasS.st (h : HasS Ys ρ i m rule tb A s) : HasC ρ A.st (.l (dN s.stamps)) := .of i h (List.mem_cons_of_mem _ (List.mem_cons_of_mem _ List.mem_cons_self))
theorem HasS.ct (h : HasS Ys ρ i m rule tb A s) : HasC ρ A.ct (.l (dN s.seen)) := .of i h (List.mem_cons_of_mem _ (List.mem_cons_of_mem _ (List.mem_cons_of_mem _ List.mem_cons_self)))
theorem HasS.hd (h : HasS Ys ρ i m rule tb A s) : HasC ρ A.hd (.l (A.ms.map pD)) := .of i h (List.mem_cons_of_mem _ (List.mem_cons_of_mem _ (List.mem_cons_of_mem _ (List.mem_cons_of_mem _ List.mem_cons_self))))
/-! reading -/
/-! changing -/
end
end
/-! Stand: reading on, jumping, beginning anew. -/
section
set_option maxRecDepth 100000
set_option maxHeartbeats 2000000

/-- the state fits the fields and the devices -/
structure WfS (nf nd : Nat) (s : Sd) : Prop where
  spots : s.spots.length = nd
  held : s.held.length = nd + 1
  marks : ∀ m ∈ s.held, m.length = nf
  stamps : s.stamps.length = nd + 1
theorem okF_at {f : List Str} {k : Nat} (h : OkF f) (hk : k < 7) : atI (dS f) (k : Int) = some (.str (f.getD k "")) := by
  have hl := h.len
  refine atI_nat ?_
  unfold dS
  rw [List.getElem?_map, List.getD_eq_getElem?_getD, List.getElem?_eq_getElem (show k < f.length by omega)]
  rfl
section
variable {P : Program} {w : World} {K : PySem.W.Frag} {mg : Str → Option Value} {base : Heap} {Z : Cs} {Ys : Addr} {Yr : Ra}
end
end
/-! Stand: beginning anew. -/
section
set_option maxRecDepth 100000
set_option maxHeartbeats 2000000

section
variable {P : Program} {w : World} {K : PySem.W.Frag} {mg : Str → Option Value} {base : Heap} {Z : Cs} {Ys : Addr} {Yr : Ra}
end
end
/-! Stand: giving. -/
section
set_option maxRecDepth 100000
set_option maxHeartbeats 2000000

section
variable {P : Program} {w : World} {K : PySem.W.Frag} {mg : Str → Option Value} {base : Heap} {Z : Cs} {Ys : Addr} {Yr : Ra}
end
end
/-! Stand: taking. -/
section
set_option maxRecDepth 100000
set_option maxHeartbeats 2000000
section
variable {K : PySem.W.Frag} {S : Sx} {ρ : List Sl} {Φ : D → Prop} {te : TE} {tr : TA}
end
end
section
set_option maxRecDepth 100000
set_option maxHeartbeats 2000000

section
variable {P : Program} {w : World} {K : PySem.W.Frag} {mg : Str → Option Value} {base : Heap} {Z : Cs} {Ys : Addr} {Yr : Ra}
end
end
/-! Stand: taking. -/
section
set_option maxRecDepth 100000
set_option maxHeartbeats 2000000

section
variable {P : Program} {w : World} {K : PySem.W.Frag} {mg : Str → Option Value} {base : Heap} {Z : Cs} {Ys : Addr} {Yr : Ra}
end
end
/-! Stand: what is told behind a deed. -/
section
set_option maxRecDepth 100000
set_option maxHeartbeats 2000000

section
variable {P : Program} {w : World} {K : PySem.W.Frag} {mg : Str → Option Value} {base : Heap} {Z : Cs} {Ys : Addr} {Yr : Ra}
variable {S : Sx} {ρ : List Sl} {O : Oc} {i j : Nat} {ta tb : TE}
end
end
/-! Stand: whether a deed can be done. -/
section
set_option maxRecDepth 100000
set_option maxHeartbeats 2000000
/-- SIZES -/
def sizesL : List (Str × Nat) := [("read", 3), ("jump", 3), ("anew", 2), ("give", 2), ("take", 2)]
structure Tz (K : PySem.W.Frag) (w : World) (mg : Str → Option Value) (zA : Addr) : Prop where
  sizes : mg "SIZES" = some (.ref zA)
  kd : ∃ es n, KDict K w zA es n
  get : ∀ p ∈ sizesL, ∃ u, PySem.W.nsIn K zA p.1 = some (some u) ∧ RelV (.int (p.2 : Nat)) u
  most : ∃ t, mg "MOST_DEVICES" = some (.int 3 t)
section
variable {K : PySem.W.Frag} {w : World} {S : Sx} {ρ : List Sl} {Φ : D → Prop} {te ti : TE} {mg : Str → Option Value} {zA : Addr}
end
end
section
set_option maxRecDepth 100000
set_option maxHeartbeats 2000000

/-- a deed -/
structure Dd where
  word : Str
  dev : Nat
  far : Option Nat
section
variable {P : Program} {w : World} {K : PySem.W.Frag} {mg : Str → Option Value} {base : Heap} {Z : Cs} {Ys zA : Addr} {Yr : Ra}
end
end
/-! What stands: its form and the bounds of its values stay. -/
section
set_option maxRecDepth 100000
set_option maxHeartbeats 2000000
structure AllIn (B : Nat → Prop) (s : Sd) : Prop where
  spots : ∀ v ∈ s.spots, B v
  held : ∀ m ∈ s.held, ∀ v ∈ m, B v
  seen : ∀ v ∈ s.seen, B v
section
variable {B : Nat → Prop} {s : Sd} {nf nd d e : Nat} {rows : List (List Str)} {x way nm : Str} {tt : Option (List Nat)}
def InTb (tb : Tbl) (v : Nat) : Prop := ∀ tt ∈ tb, inT tt v
/-- tables of kernels: closed -/
structure TbW (tb : Tbl) : Prop where
  zero : InTb tb 0
  ker : ∀ tt ∈ tb, ∀ v, InTb tb v → InTb tb (kerT tt v)
  one : ∀ tt ∈ tb, ∀ v, inT tt v → InTb tb v
end
end
/-! Stand: doing a deed. -/
section
set_option maxRecDepth 100000
set_option maxHeartbeats 2000000

section
variable {P : Program} {w : World} {K : PySem.W.Frag} {mg : Str → Option Value} {base : Heap} {Z : Cs} {Ys zA : Addr} {Yr : Ra}
end
end
/-! Stand: how it begins. -/
section
set_option maxRecDepth 100000
set_option maxHeartbeats 2000000
section
variable {K : PySem.W.Frag} {S : Sx} {ρ : List Sl} {O : Oc} {te : TE} {a C : Addr} {ns : List Str} {ds : List D} {γ : Gh} {f : Str}
end
end
section
set_option maxRecDepth 100000
set_option maxHeartbeats 2000000

section
variable {P : Program} {w : World} {K : PySem.W.Frag} {mg : Str → Option Value} {base : Heap} {Z : Cs} {Ys zA : Addr} {Yr : Ra}
end
end
/-! Walks at the level of data: how they are made. -/
end Lf
namespace Lf
section
set_option maxRecDepth 100000
set_option maxHeartbeats 2000000
open PySem L2
/-- the kernels of all cuts -/
def rowK (m : Nat) (ns : List Nat) : List Nat := (List.range (m + 1)).map (kr (inN ns))
/-- what a walk tells of a cut -/
def ledN (nss : List (List Nat)) (c : Nat) : Nat := nss.foldl (fun c ns => kr (inN ns) c) c
def toldN (m : Nat) (nss : List (List Nat)) : List Nat := (List.range (m + 1)).map (ledN nss)
structure Tk (K : PySem.W.Frag) (mg : Str → Option Value) (Yk : Addr) : Prop where
  mg : mg "Walk" = some (.ref Yk)
  ca : PySem.W.findIn K (.ref Yk) "__class__" = some (some (.builtin "object.__class__"))
  cm : PySem.W.mroIn K Yk (.type "object") = some true
  sf : PySem.W.selfFirst K Yk = true
  cl : Cls K Yk
  nWork : NoAttr K Yk "work"
  nRows : NoAttr K Yk "rows"
  nTold : NoAttr K Yk "told"
abbrev dK (Z : Cs) (Yk : Addr) (nm : Str) (ws : List Str) (nss : List (List Nat)) : D := .ins Yk ["work", "rows", "told"] [dW Z nm ws, .lst (nss.map fun ns => dE Z nm ws ns), .lst (dN (toldN ws.length nss))]
section
variable {K : PySem.W.Frag} {mg : Str → Option Value} {Z : Cs} {Yk : Addr} {S : Sx} {Φ : D → Prop} {nm : Str} {ws : List Str} {nss : List (List Nat)}
theorem fK_work (U : Tk K mg Yk) (k : Φ (dW Z nm ws)) : UnD K S (rFld K "work") (dK Z Yk nm ws nss) Φ := ud_fld U.cl U.nWork (n := 0) (by decide +kernel) rfl k
theorem fK_rows (U : Tk K mg Yk) (k : Φ (.lst (nss.map fun ns => dE Z nm ws ns))) : UnD K S (rFld K "rows") (dK Z Yk nm ws nss) Φ := ud_fld U.cl U.nRows (n := 1) (by decide +kernel) rfl k
theorem fK_told (U : Tk K mg Yk) (k : Φ (.lst (dN (toldN ws.length nss)))) : UnD K S (rFld K "told") (dK Z Yk nm ws nss) Φ := ud_fld U.cl U.nTold (n := 2) (by decide +kernel) rfl k
end
end
end Lf
namespace Lf
open PySem L2
local macro_rules | `(tactic| walk_at "nq") => `(tactic| first | with_reducible assumption | with_reducible exact Ne.symm (by assumption) | with_reducible exact ne_of_none (by assumption) (by assumption) | with_reducible exact Ne.symm (ne_of_none (by assumption) (by assumption)))
local macro_rules | `(tactic| walk_at "gt") => `(tactic| first | with_reducible assumption | with_reducible exact upd_same | ((with_reducible refine' upd_new ?ha ?hb); (case hb => with_reducible assumption); (case ha => walk_at "gt")) | ((with_reducible refine' upd_old ?ha ?hb); (case hb => walk_at "nq"); (case ha => walk_at "gt")) | ((with_reducible refine' sm_get ?hb ?ha); (case hb => with_reducible assumption); (case ha => walk_at "gt")) | ((with_reducible refine' fr_get ?hb ?ha ?hc); (case hb => with_reducible assumption); (case hc => walk_at "nq"); (case ha => walk_at "gt")))
local macro_rules | `(tactic| walk_at "sl") => `(tactic| first | with_reducible assumption | ((with_reducible refine' sl_of ?ha); (case ha => walk_at "gt")) | ((with_reducible refine' sl_new ?ha ?hb); (case hb => with_reducible assumption); (case ha => walk_at "sl")) | ((with_reducible refine' sl_sm ?hb ?ha); (case hb => with_reducible assumption); (case ha => walk_at "sl")) | ((with_reducible refine' sl_fr ?hb ?hc ?ha); (case hb => with_reducible assumption); (case hc => walk_at "nq"); (case ha => walk_at "sl")))
local macro_rules | `(tactic| walk_at "st") => `(tactic| first | with_reducible assumption | ((with_reducible refine' st_of ?ha); (case ha => walk_at "gt")) | ((with_reducible refine' st_new ?ha ?hb); (case hb => with_reducible assumption); (case ha => walk_at "st")) | ((with_reducible refine' st_sm ?hb ?ha); (case hb => with_reducible assumption); (case ha => walk_at "st")) | ((with_reducible refine' st_fr ?hb ?hc ?ha); (case hb => with_reducible assumption); (case hc => walk_at "nq"); (case ha => walk_at "st")))
local macro_rules | `(tactic| walk_at "sa") => `(tactic| first | with_reducible assumption | ((with_reducible refine' sa_l ?ha); (case ha => walk_at "gt")) | ((with_reducible refine' sa_t ?ha); (case ha => walk_at "gt")) | ((with_reducible refine' sa_new ?ha ?hb); (case hb => with_reducible assumption); (case ha => walk_at "sa")) | ((with_reducible refine' sa_sm ?hb ?ha); (case hb => with_reducible assumption); (case ha => walk_at "sa")) | ((with_reducible refine' sa_fr ?hb ?hc ?ha); (case hb => with_reducible assumption); (case hc => walk_at "nq"); (case ha => walk_at "sa")) | ((with_reducible refine' Or.inl ?ha); (case ha => walk_at "sl")) | ((with_reducible refine' Or.inr ?ha); (case ha => walk_at "st")))
local macro_rules | `(tactic| walk_at "ln") => `(tactic| first | decide | omega | exact Nat.le_of_ble_eq_true rfl | (simp only [List.length_append, List.length_map, List.length_cons, List.length_nil, List.length_flatMap]; omega))
local macro_rules | `(tactic| walk_at "ty") => `(tactic| first | with_reducible assumption | with_reducible exact .base (.int _) | with_reducible exact .base (.str _) | with_reducible exact .base (.bl _) | with_reducible exact .base .non | ((with_reducible refine' TyX.base (TyOf.lst ?ha)); (case ha => walk_at "gt")) | ((with_reducible refine' TyX.base (TyOf.tup ?ha)); (case ha => walk_at "gt")) | ((with_reducible refine' TyX.base (TyOf.dK ?ha)); (case ha => walk_at "gt")) | ((with_reducible refine' ty_new ?ha ?hb); (case hb => with_reducible assumption); (case ha => walk_at "ty")) | ((with_reducible refine' ty_sm ?hb ?ha); (case hb => with_reducible assumption); (case ha => walk_at "ty")))
local macro_rules | `(tactic| walk_at "kb") => `(tactic| first | with_reducible assumption | exact kb_str_str | exact kb_int_str | exact kb_list_str | exact kb_tuple_str | exact kb_bool_str | exact kb_NoneType_str | exact kb_dict_str | exact kb_str_int | exact kb_int_int | exact kb_list_int | exact kb_tuple_int | exact kb_bool_int | exact kb_NoneType_int | exact kb_dict_int | exact kb_str_bool | exact kb_int_bool | exact kb_list_bool | exact kb_tuple_bool | exact kb_bool_bool | exact kb_NoneType_bool | exact kb_dict_bool | exact kb_str_list | exact kb_int_list | exact kb_list_list | exact kb_tuple_list | exact kb_bool_list | exact kb_NoneType_list | exact kb_dict_list | exact kb_str_tuple | exact kb_int_tuple | exact kb_list_tuple | exact kb_tuple_tuple | exact kb_bool_tuple | exact kb_NoneType_tuple | exact kb_dict_tuple | exact kb_str_dict | exact kb_int_dict | exact kb_list_dict | exact kb_tuple_dict | exact kb_bool_dict | exact kb_NoneType_dict | exact kb_dict_dict)
local macro_rules | `(tactic| walk_at "wk") => `(tactic| first | with_reducible assumption | ((with_reducible refine' WkAt.new ?ha ?hb); (case hb => with_reducible assumption); (case ha => walk_at "wk")) | ((with_reducible refine' WkAt.sm ?hb ?ha); (case hb => with_reducible assumption); (case ha => walk_at "wk")) | ((with_reducible refine' WkAt.dr ?hb ?hc ?ha); (case hb => with_reducible assumption); (case hc => with_reducible assumption); (case ha => walk_at "wk")))
local macro_rules | `(tactic| walk_at "ed") => `(tactic| first | with_reducible assumption | ((with_reducible refine' EdAt.new ?ha ?hb); (case hb => with_reducible assumption); (case ha => walk_at "ed")) | ((with_reducible refine' EdAt.sm ?hb ?ha); (case hb => with_reducible assumption); (case ha => walk_at "ed")) | ((with_reducible refine' EdAt.dr ?hb ?hc ?ha); (case hb => with_reducible assumption); (case hc => with_reducible assumption); (case ha => walk_at "ed")))
local macro_rules | `(tactic| walk_at "pl") => `(tactic| first | with_reducible assumption | ((with_reducible refine' PlAt.new ?ha ?hb); (case hb => with_reducible assumption); (case ha => walk_at "pl")) | ((with_reducible refine' PlAt.sm ?hb ?ha); (case hb => with_reducible assumption); (case ha => walk_at "pl")) | ((with_reducible refine' PlAt.dr ?hb ?hc ?ha); (case hb => with_reducible assumption); (case hc => with_reducible assumption); (case ha => walk_at "pl")))
local macro_rules | `(tactic| walk_at "fl") => `(tactic| first | with_reducible assumption | ((with_reducible refine' WkAt.rows ?hT ?hW); (case hT => assumption); (case hW => walk_at "wk")) | ((with_reducible refine' WkAt.name ?hT ?hW); (case hT => assumption); (case hW => walk_at "wk")) | ((with_reducible refine' EdAt.work ?hT ?hW); (case hT => assumption); (case hW => walk_at "ed")) | ((with_reducible refine' EdAt.nums ?hT ?hW); (case hT => assumption); (case hW => walk_at "ed")) | ((with_reducible refine' PlAt.edition ?hT ?hW); (case hT => assumption); (case hW => walk_at "pl")) | ((with_reducible refine' PlAt.count ?hT ?hW); (case hT => assumption); (case hW => walk_at "pl")))
local macro_rules | `(tactic| walk_at "mt") => `(tactic| first | with_reducible assumption | ((with_reducible refine' WkAt.mt ?hn1 ?hn2 ?hW); (case hW => walk_at "wk"); (case hn1 => decide +kernel); (case hn2 => decide +kernel)) | ((with_reducible refine' EdAt.mt ?hn1 ?hn2 ?hW); (case hW => walk_at "ed"); (case hn1 => decide +kernel); (case hn2 => decide +kernel)) | ((with_reducible refine' PlAt.mt ?hn1 ?hn2 ?hW); (case hW => walk_at "pl"); (case hn1 => decide +kernel); (case hn2 => decide +kernel)))
local macro_rules | `(tactic| walk_at "is") => `(tactic| first | with_reducible assumption | ((with_reducible refine' WkAt.is ?hW); (case hW => walk_at "wk")) | ((with_reducible refine' EdAt.is ?hW); (case hW => walk_at "ed")) | ((with_reducible refine' PlAt.is ?hW); (case hW => walk_at "pl")))
local macro_rules | `(tactic| walk_at "ic") => `(tactic| first
  | ((with_reducible show CMul _ _); first | exact Or.inl ⟨by decide, by decide⟩ | exact Or.inr ⟨by decide, by decide⟩ | exact Or.inl ⟨by omega, by omega⟩ | exact Or.inr ⟨by omega, by omega⟩)
  | ((with_reducible show CDiv _ _); first | exact ⟨by decide, by decide⟩ | exact ⟨by omega, by omega⟩)
  | ((with_reducible show CPow _ _); first | exact ⟨by decide, by decide, by decide⟩ | exact ⟨by decide, by decide, by omega⟩)
  | (show (0 : Int) < _; first | decide | omega))
local macro_rules | `(tactic| walk_at "s1") => `(tactic| first
  | with_reducible refine k_seq ?_
  | with_reducible refine k_set ?_
  | with_reducible refine k_asg ?_
  | with_reducible refine k_par ?_
  | with_reducible refine k_par2 ?_
  | with_reducible refine k_drop ?_
  | with_reducible refine k_ret ?_
  | with_reducible refine k_next ?_
  | with_reducible refine k_if ?_
  | ((with_reducible refine' k_aug ?hv ?_); (case hv => exact rfl))
  | with_reducible refine k_ipI ?_
  | with_reducible refine k_gname ?_
  | with_reducible refine k_gsub ?_
  | ((with_reducible refine' k_gtup ?hv ?hw ?_); (case hv => walk_at "st"); (case hw => rfl))
  | with_reducible refine k_gcons ?_
  | with_reducible refine k_gnil ?_
  | with_reducible refine k_test ?_
  | with_reducible refine k_B ?_
  | with_reducible refine k_blE ?_
  | with_reducible refine k_and ?_
  | with_reducible refine k_or ?_
  | with_reducible refine k_not ?_
  | with_reducible refine iteT ?_
  | with_reducible refine iteF ?_
  | with_reducible refine iteNT ?_
  | with_reducible refine iteNF ?_
  | ((with_reducible refine' k_var ?hv ?_); (case hv => exact rfl))
  | with_reducible refine k_c ?_
  | with_reducible refine k_op ?_
  | with_reducible refine k_un ?_
  | with_reducible refine k_U ?_
  | with_reducible refine k_I0 ?_
  | ((with_reducible refine' k_I ?hv ?_); (case hv => walk_at "ic"))
  | with_reducible refine k_eqI ?_
  | with_reducible refine k_neI ?_
  | with_reducible refine k_eqS ?_
  | with_reducible refine k_neS ?_
  | with_reducible refine k_eqB ?_
  | with_reducible refine k_neB ?_
  | with_reducible refine k_for ?_
  | with_reducible refine k_iE ?_
  | with_reducible refine k_iA ?_
  | ((with_reducible refine' k_itl ?hv ?_); (case hv => walk_at "sl"))
  | ((with_reducible refine' k_itt ?hv ?_); (case hv => walk_at "st"))
  | with_reducible refine k_its ?_
  | ((with_reducible refine' k_rg1n ?hv ?_); (case hv => first | decide | omega))
  | ((with_reducible refine' k_rg1 ?hv ?hw ?_); (case hv => first | decide | omega); (case hw => first | decide | omega))
  | ((with_reducible refine' k_inS ?hv ?_); (case hv => walk_at "sa"))
  | ((with_reducible refine' k_inI ?hv ?_); (case hv => walk_at "sa"))
  | ((with_reducible refine' k_ninS ?hv ?_); (case hv => walk_at "sa"))
  | ((with_reducible refine' k_ninI ?hv ?_); (case hv => walk_at "sa"))
  | ((with_reducible refine' k_zipl ?hv ?hw ?_); (case hv => walk_at "sl"); (case hw => walk_at "sl"))
  | with_reducible refine k_nil ?_
  | with_reducible refine k_cons ?_
  | with_reducible refine k_cb ?_
  | with_reducible refine k_call ?_
  | with_reducible refine k_lst ?_
  | with_reducible refine k_tup ?_
  | with_reducible refine k_ifx ?_
  | with_reducible refine k_andv ?_
  | with_reducible refine k_orv ?_
  | with_reducible refine k_notv ?_
  | with_reducible refine k_inti ?_
  | with_reducible refine k_intb ?_
  | with_reducible refine k_sl ?_
  | with_reducible refine k_nopart ?_
  | with_reducible refine k_part ?_
  | with_reducible refine k_parti ?_
  | ((with_reducible refine' k_lenl ?hv ?_); (case hv => walk_at "sl"))
  | ((with_reducible refine' k_lent ?hv ?_); (case hv => walk_at "st"))
  | ((with_reducible refine' k_lens ?hv ?_); (case hv => exact szl (by walk_at "ln")))
  | ((with_reducible refine' k_lena ?hv ?_); (case hv => walk_at "sa"))
  | ((with_reducible refine' k_ixl ?hv ?hn ?_); (case hv => walk_at "sl"); (case hn => first | rfl | assumption))
  | ((with_reducible refine' k_ixt ?hv ?hn ?_); (case hv => walk_at "st"); (case hn => first | rfl | assumption))
  | ((with_reducible refine' k_ixa ?hv ?hn ?_); (case hv => walk_at "sa"); (case hn => first | rfl | assumption))
  | with_reducible refine k_chain ?_
  | ((with_reducible refine' k_isi ?hv ?hw ?_); (case hv => walk_at "ty"); (case hw => walk_at "kb"))
  | ((with_reducible refine' k_isi2 ?hb ?hp ?hv ?hw ?hx ?_); (case hp => walk_at "gt"); (case hv => walk_at "ty"); (case hw => walk_at "kb"); (case hx => walk_at "kb"); (case hb => first | exact or_t | exact or_f))
  | ((with_reducible refine' k_all ?hv ?_); (case hv => walk_at "gt"))
  | ((with_reducible refine' k_any ?hv ?_); (case hv => walk_at "gt"))
  | with_reducible refine k_insign ?_
  | with_reducible refine k_fldR ?_
  | ((with_reducible refine' k_fl ?hv ?_); (case hv => walk_at "fl"))
  | with_reducible refine k_sfld ?_
  | with_reducible refine k_meth ?_
  | ((with_reducible refine' k_mt ?hv ?_); (case hv => walk_at "mt"))
  | with_reducible refine k_make ?_
  | ((with_reducible refine' k_own ?hv ?hw ?_); (case hv => walk_at "is"); (case hw => walk_at "is"))
  | ((with_reducible refine' k_ownin ?hv ?_); (case hv => walk_at "is"))
  | ((with_reducible refine' k_lenO ?hv ?_); (case hv => walk_at "is"))
  | with_reducible refine k_prop ?_
  | ((with_reducible refine' k_pr ?hv ?_); (case hv => walk_at "is"))
  | ((with_reducible refine' k_ownI ?hv ?_); (case hv => walk_at "is"))
  | ((with_reducible refine' k_ownR ?hv ?_); (case hv => walk_at "is"))
  | with_reducible refine k_mx ?_
  | with_reducible refine k_mn ?_
  | with_reducible refine k_lrg ?_
  | with_reducible refine k_rgt ?_
  | with_reducible refine k_rgti ?_
  | with_reducible refine k_bm ?_
  | with_reducible refine k_bm0 ?_
  | with_reducible refine k_tys ?_
  | ((with_reducible refine' k_tyl ?hv ?_); (case hv => walk_at "sl"))
  | ((with_reducible refine' k_ext ?hv ?hw ?hn ?_); (case hv => walk_at "gt"); (case hw => walk_at "gt"); (case hn => walk_at "ln"))
  | ((with_reducible refine' k_app ?hv ?hn ?_); (case hv => walk_at "gt"); (case hn => walk_at "ln"))
  | ((with_reducible refine' k_popat ?hv ?hn ?hw ?_); (case hv => walk_at "gt"); (case hn => with_reducible assumption); (case hw => walk_at "ln"))
  | with_reducible refine k_lc ?_
  | with_reducible refine k_yes0 ?_
  | ((with_reducible show wipe _ _ = wipe _ _ ∧ _); refine ⟨rfl, ?_⟩)
  | ((with_reducible refine' k_adds ?hv ?_); (case hv => walk_at "ln"))
  | ((with_reducible refine' k_st1 ?hv ?_); (case hv => walk_at "gt"))
  | ((with_reducible refine' k_st2 ?hv ?_); (case hv => walk_at "gt"))
  | ((with_reducible refine' k_st3 ?hv ?_); (case hv => walk_at "gt"))
  | ((with_reducible refine' k_setl ?hv ?hn ?_); (case hv => walk_at "gt"); (case hn => rfl)))
local macro_rules | `(tactic| walk_at "put") => `(tactic| ((refine' ⟨_, ?ha, sz ?hb, ?_⟩); (case ha => walk_at "gt"); (case hb => walk_at "ln")))
local macro_rules | `(tactic| walk_at "go") => `(tactic| repeat (walk_at "s1"))
local macro_rules | `(tactic| walk_at "dv") => `(tactic| first | exact rfl | with_reducible assumption)
local macro_rules | `(tactic| walk_at "dt") => `(tactic| first | with_reducible assumption | with_reducible exact .int | with_reducible exact .str | with_reducible exact .bl | with_reducible exact .non | with_reducible exact .lst | with_reducible exact .tup | with_reducible exact .dk | ((with_reducible refine' TyD.ins ?hc); (case hc => with_reducible assumption)))
local macro_rules | `(tactic| walk_at "dm") => `(tactic| first | exact trivial | exact List.mem_cons_self | exact List.mem_cons_of_mem _ List.mem_cons_self | exact List.mem_cons_of_mem _ (List.mem_cons_of_mem _ List.mem_cons_self))
local macro_rules | `(tactic| walk_at "dy") => `(tactic| first | exact Or.inl rfl | exact Or.inr rfl)
local macro_rules | `(tactic| walk_at "xExD") => `(tactic| first
  | ((with_reducible refine' ex_re ?hX ?_); (case hX => assumption))
  | ((with_reducible refine' ex_re2 ?hX ?_); (case hX => assumption))
  | ((with_reducible refine' ex_rz ?hX ?_); (case hX => assumption)))
local macro_rules | `(tactic| walk_at "xOpD") => `(tactic| first
  | ((with_reducible refine' od_ownX ?hX ?_); (case hX => assumption))
  | ((with_reducible refine' od_ownIX ?hX ?_); (case hX => assumption)))
local macro_rules | `(tactic| walk_at "xEvD") => `(tactic| first
  | ((with_reducible refine' ev_callT ?hX ?_); (case hX => assumption))
  | ((with_reducible refine' ev_callX ?hX ?_); (case hX => assumption))
  | ((with_reducible refine' ev_methX ?hX ?_); (case hX => assumption))
  | ((with_reducible refine' ev_makeX ?hX ?_); (case hX => assumption))
  | ((with_reducible refine' ev_kwX ?hX ?_); (case hX => assumption))
  | ((with_reducible refine' ev_mkKwX ?hX ?_); (case hX => assumption)))
local macro_rules | `(tactic| walk_at "gEvD") => `(tactic| first
  | ((with_reducible refine' ev_var ?hv ?_); (case hv => exact rfl))
  | ((with_reducible refine' ev_varO ?hv ?_); (case hv => exact rfl))
  | with_reducible refine ev_ci ?_
  | with_reducible refine ev_cs ?_
  | with_reducible refine ev_cb ?_
  | with_reducible refine ev_cn ?_
  | ((with_reducible refine' ev_kt ?h ?_); (case h => with_reducible assumption))
  | with_reducible refine ev_cr ?_
  | with_reducible refine ev_ct ?_
  | with_reducible refine ev_new (evN_op (r := rCat) ?_)
  | with_reducible refine ev_new (evN_op (r := rRep) ?_)
  | ((with_reducible refine' ev_ixO ?hv ?_); (case hv => exact rfl))
  | with_reducible refine ev_op ?_
  | with_reducible refine ev_un ?_
  | with_reducible refine ev_isi2 ?_
  | with_reducible refine ev_isi4 ?_
  | ((with_reducible refine' ev_new (evN_listO ?hv ?_)); (case hv => exact rfl))
  | with_reducible refine ev_new (evN_cb1 (f := rListOf _) ?_)
  | ((with_reducible refine' ev_lenO ?hv ?_); (case hv => exact rfl))
  | with_reducible refine ev_cb1 ?_
  | with_reducible refine ev_lst ?_
  | with_reducible refine ev_dnew ?_
  | with_reducible refine ev_tup ?_
  | with_reducible refine ev_if ?_
  | with_reducible refine ev_and ?_
  | with_reducible refine ev_or ?_
  | with_reducible refine ev_not ?_
  | with_reducible refine ev_chain ?_
  | ((with_reducible refine' ev_new (evN_lcO ?hv ?_)); (case hv => exact rfl))
  | with_reducible refine ev_new (evN_lc ?_)
  | with_reducible refine ev_new (evN_sl ?_)
  | with_reducible refine ev_slT ?_
  | ((with_reducible refine' ev_fldS (n := 0) ?hv ?hc ?hn ?h1 ?h2 ?_); (case hv => exact rfl); (case hc => with_reducible assumption); (case hn => with_reducible assumption); (case h1 => decide +kernel); (case h2 => exact rfl))
  | ((with_reducible refine' ev_fldS (n := 1) ?hv ?hc ?hn ?h1 ?h2 ?_); (case hv => exact rfl); (case hc => with_reducible assumption); (case hn => with_reducible assumption); (case h1 => decide +kernel); (case h2 => exact rfl))
  | ((with_reducible refine' ev_fldS (n := 2) ?hv ?hc ?hn ?h1 ?h2 ?_); (case hv => exact rfl); (case hc => with_reducible assumption); (case hn => with_reducible assumption); (case h1 => decide +kernel); (case h2 => exact rfl))
  | ((with_reducible refine' ev_fldS (n := 3) ?hv ?hc ?hn ?h1 ?h2 ?_); (case hv => exact rfl); (case hc => with_reducible assumption); (case hn => with_reducible assumption); (case h1 => decide +kernel); (case h2 => exact rfl))
  | with_reducible refine ev_fld ?_
  | with_reducible refine ev_call ?_
  | with_reducible refine ev_kw ?_
  | with_reducible refine ev_mkKw ?_
  | with_reducible refine ev_meth ?_
  | with_reducible refine ev_prop ?_
  | with_reducible refine ev_make ?_)
local macro_rules | `(tactic| walk_at "gOpD") => `(tactic| first
  | with_reducible refine od_int ?_
  | with_reducible refine od_bl ?_
  | ((with_reducible refine' od_I ?hv ?_); (case hv => walk_at "ic"))
  | with_reducible refine od_ip ?_
  | with_reducible refine od_eqI ?_
  | with_reducible refine od_neI ?_
  | with_reducible refine od_eqS ?_
  | with_reducible refine od_neS ?_
  | with_reducible refine od_eqB ?_
  | with_reducible refine od_neB ?_
  | with_reducible refine od_isbl ?_
  | ((with_reducible refine' od_ixl ?hv ?_); (case hv => walk_at "dv"))
  | ((with_reducible refine' od_ixt ?hv ?_); (case hv => walk_at "dv"))
  | ((with_reducible refine' od_ixL ?hv ?_); (case hv => walk_at "dv"))
  | ((with_reducible refine' od_ixT ?hv ?_); (case hv => walk_at "dv"))
  | ((with_reducible refine' od_inN ?hv ?_); (case hv => walk_at "dy"))
  | ((with_reducible refine' od_inI ?hv ?_); (case hv => walk_at "dy"))
  | ((with_reducible refine' od_inS ?hv ?_); (case hv => walk_at "dy"))
  | with_reducible refine od_sign ?_
  | ((with_reducible refine' od_adds ?hv ?_); (case hv => walk_at "ln"))
  | with_reducible refine od_own ?_
  | with_reducible refine od_ownI ?_
  | with_reducible refine od_ownR ?_
  | with_reducible refine od_ownin ?_)
local macro_rules | `(tactic| walk_at "gExD") => `(tactic| first
  | with_reducible refine ex_seq ?_
  | ((with_reducible refine' ex_new (te := tLst tNil) ?hi ?_); (case hi => exact Nat.le_of_ble_eq_true rfl))
  | ((with_reducible refine' ex_newO ?hi ?_); (case hi => exact Nat.le_of_ble_eq_true rfl))
  | with_reducible refine ex_set ?_
  | with_reducible refine ex_asg ?_
  | ((with_reducible refine' ex_par ?hi ?_); (case hi => decide))
  | with_reducible refine ex_par3 ?_
  | ((with_reducible refine' ex_retO ?hv ?_); (case hv => exact rfl))
  | with_reducible refine ex_ret ?_
  | with_reducible refine ex_retN ?_
  | with_reducible refine ex_next ?_
  | with_reducible refine ex_break ?_
  | with_reducible refine ex_cont ?_
  | with_reducible refine ex_ifB ?_
  | ((with_reducible refine' ex_aug ?hv ?_); (case hv => exact rfl))
  | ((with_reducible refine' ex_app ?hv ?hl ?_); (case hv => exact rfl); (case hl => walk_at "ln"))
  | ((with_reducible refine' ex_insO ?hv ?hl ?_); (case hv => exact rfl); (case hl => walk_at "ln"))
  | ((with_reducible refine' ex_fld ?hv ?hc ?hn ?hl ?_); (case hv => exact rfl); (case hc => with_reducible assumption); (case hn => with_reducible assumption); (case hl => exact Nat.le_of_ble_eq_true rfl))
  | ((with_reducible refine' ex_extO ?hv ?_); (case hv => exact rfl))
  | ((with_reducible refine' ex_clrO ?hv ?_); (case hv => exact rfl))
  | with_reducible refine ex_drop ?_
  | with_reducible refine ex_for ?_)
local macro_rules | `(tactic| walk_at "gEvT") => `(tactic| first
  | with_reducible refine et_test ?_
  | with_reducible refine et_B ?_
  | with_reducible refine et_and ?_
  | with_reducible refine et_or ?_
  | with_reducible refine et_not ?_
  | with_reducible refine et_yes ?_)
local macro_rules | `(tactic| walk_at "gite") => `(tactic| first
  | with_reducible refine iteT ?_
  | with_reducible refine iteF ?_
  | with_reducible refine iteNT ?_
  | with_reducible refine iteNF ?_)
local macro_rules | `(tactic| walk_at "gUnD") => `(tactic| first
  | with_reducible refine ud_U ?_
  | ((with_reducible refine' fW_name ?hT ?_); (case hT => assumption))
  | ((with_reducible refine' fW_rows ?hT ?_); (case hT => assumption))
  | ((with_reducible refine' fE_work ?hT ?_); (case hT => assumption))
  | ((with_reducible refine' fE_nums ?hT ?_); (case hT => assumption))
  | ((with_reducible refine' fP_edition ?hT ?_); (case hT => assumption))
  | ((with_reducible refine' fP_count ?hT ?_); (case hT => assumption))
  | ((with_reducible refine' fK_work ?hT ?_); (case hT => assumption))
  | ((with_reducible refine' fK_rows ?hT ?_); (case hT => assumption))
  | ((with_reducible refine' fK_told ?hT ?_); (case hT => assumption))
  | ((with_reducible refine' fS_rule ?hT ?_); (case hT => assumption))
  | ((with_reducible refine' fS_tables ?hT ?_); (case hT => assumption))
  | ((with_reducible refine' fS_spots ?hT ?_); (case hT => assumption))
  | ((with_reducible refine' fS_held ?hT ?_); (case hT => assumption))
  | ((with_reducible refine' fS_stamps ?hT ?_); (case hT => assumption))
  | ((with_reducible refine' fS_row ?hT ?_); (case hT => assumption))
  | ((with_reducible refine' fS_top ?hT ?_); (case hT => assumption))
  | ((with_reducible refine' fS_come ?hT ?_); (case hT => assumption))
  | ((with_reducible refine' fR_parts ?hT ?_); (case hT => assumption))
  | ((with_reducible refine' fR_way ?hT ?_); (case hT => assumption)))
local macro_rules | `(tactic| walk_at "gCbD") => `(tactic| first
  | ((with_reducible refine' cd_isi ?ht ?hk ?_); (case ht => walk_at "dt"); (case hk => walk_at "kb"))
  | ((with_reducible refine' cd_isiO ?ht ?hk ?_); (case ht => walk_at "dt"); (case hk => first | with_reducible assumption | exact kit_same))
  | ((with_reducible refine' cd_lens ?hv ?_); (case hv => walk_at "ln"))
  | with_reducible refine cd_len ?_
  | with_reducible refine cd_all ?_
  | with_reducible refine cd_any ?_
  | with_reducible refine cd_int ?_
  | with_reducible refine cd_intb ?_
  | with_reducible refine cd_mx ?_
  | with_reducible refine cd_mn ?_
  | with_reducible refine cd_tuple ?_
  | with_reducible refine cd_lenO ?_)
local macro_rules | `(tactic| walk_at "gEvI") => `(tactic| first
  | with_reducible refine ei_seq ?_
  | with_reducible refine ei_str ?_
  | with_reducible refine ei_rg1 ?_
  | with_reducible refine ei_rg2 ?_
  | with_reducible refine ei_enum ?_
  | with_reducible refine ei_zip ?_
  | with_reducible refine ei_zipA ?_
  | with_reducible refine ei_zipB ?_
  | with_reducible refine ei_zipB3 ?_)
local macro_rules | `(tactic| walk_at "gEvN") => `(tactic| first
  | ((with_reducible refine' evN_listO ?hv ?_); (case hv => exact rfl))
  | ((with_reducible refine' evN_lcO ?hv ?_); (case hv => exact rfl))
  | with_reducible refine evN_lc ?_
  | with_reducible refine evN_sl ?_
  | with_reducible refine evN_op ?_
  | with_reducible refine evN_cb1 ?_
  | with_reducible refine evN_lst ?_)
local macro_rules | `(tactic| walk_at "d1") => `(tactic| first
  | ((with_reducible show EvD _ _ _ _ _); walk_at "gEvD")
  | ((with_reducible show OpD _ _ _ _ _ _); walk_at "gOpD")
  | with_reducible refine ev_nil ?_
  | with_reducible refine ev_cons ?_
  | ((with_reducible show ExD _ _ _ _ _); walk_at "gExD")
  | ((with_reducible show EvT _ _ _ _ _); walk_at "gEvT")
  | with_reducible refine isB_mk ?_
  | walk_at "gite"
  | ((with_reducible show UnD _ _ _ _ _); walk_at "gUnD")
  | ((with_reducible show CbD _ _ _ _ _); walk_at "gCbD")
  | ((with_reducible refine' tg_name ?hi ?_); (case hi => walk_at "dm"))
  | ((with_reducible refine' tg_tup ?hi ?_); (case hi => exact rfl))
  | ((with_reducible refine' tg_unl ?hi ?_); (case hi => exact rfl))
  | with_reducible refine tg_cons ?_
  | with_reducible refine tg_nil ?_
  | ((with_reducible show EvI _ _ _ _ _); walk_at "gEvI")
  | ((with_reducible refine' few_mk ?hl ?_); (case hl => exact Nat.le_of_ble_eq_true rfl))
  | ((with_reducible show EvN _ _ _ _ _); walk_at "gEvN")
  | ((with_reducible refine' on_cat ?hv ?_); (case hv => walk_at "ln"))
  | ((with_reducible refine' on_rep ?hv ?hw ?_); (case hv => walk_at "ln"); (case hw => walk_at "ln"))
  | with_reducible refine cn_list ?_
  | with_reducible refine eo_no ?_
  | with_reducible refine eo_part ?_
  | with_reducible refine seq_l ?_
  | with_reducible refine seq_t ?_
  | with_reducible refine ⟨insD_mk (by decide +kernel), ?_⟩)
local macro_rules | `(tactic| walk_at "dx") => `(tactic| first
  | ((with_reducible show EvD _ _ _ _ _); walk_at "xEvD")
  | ((with_reducible show OpD _ _ _ _ _ _); walk_at "xOpD")
  | ((with_reducible show ExD _ _ _ _ _); walk_at "xExD"))
local macro_rules | `(tactic| walk_at "dX") => `(tactic| repeat (first | walk_at "d1" | walk_at "dx"))
local macro_rules | `(tactic| walk_at "dg") => `(tactic| repeat (walk_at "d1"))
section
set_option maxRecDepth 100000
set_option maxHeartbeats 2000000

section
variable {P : Program} {w : World} {K : PySem.W.Frag} {mg : Str → Option Value} {base : Heap} {Z : Cs} {Yk : Addr}
end
end
/-! Walks at the level of data: courses, rests, turns. -/
section
set_option maxRecDepth 100000
set_option maxHeartbeats 2000000

section
variable {P : Program} {w : World} {K : PySem.W.Frag} {mg : Str → Option Value} {base : Heap} {Z : Cs} {Yk : Addr}
/-- the greatest of some numbers, and where it stands first -/
def IsLong (ts : List Nat) (M k : Nat) : Prop := (∀ t ∈ ts, t ≤ M) ∧ ts[k]? = some M ∧ ∀ j, j < k → ts[j]? ≠ some M
theorem IsLong.one {ts : List Nat} {M k M' k' : Nat} (h : IsLong ts M k) (h' : IsLong ts M' k') : M = M' ∧ k = k' := by
  have e : M = M' := Nat.le_antisymm (h'.1 M (List.mem_of_getElem? h.2.1)) (h.1 M' (List.mem_of_getElem? h'.2.1))
  subst e
  refine ⟨rfl, ?_⟩
  rcases Nat.lt_trichotomy k k' with q | q | q
  · exact absurd h.2.1 (h'.2.2 k q)
  · exact q
  · exact absurd h'.2.1 (h.2.2 k' q)
section
variable {S : Sx} {ρ : List Sl} {Φ : D → Prop} {te : TE} {tr : TA}
end
end
end
/-! The law's own cuts, kernels, tables, courses, and its walks. -/
section
set_option maxRecDepth 100000
set_option maxHeartbeats 2000000

section
variable {P : Program} {w : World} {K : PySem.W.Frag} {mg : Str → Option Value} {base : Heap} {Z : Cs} {Yk : Addr}
end
end
/-! Histories: settings, runs. -/
section
set_option maxRecDepth 100000
set_option maxHeartbeats 2000000
open PySem PySem.Spec PyProof.Rows L2
section
variable {K : PySem.W.Frag} {S : Sx} {ρ : List Sl} {O : Oc} {i j : Nat} {ta tb : TE}
end
end
end Lf
namespace Lf
open PySem PySem.Spec PyProof.Rows L2
local macro_rules | `(tactic| walk_at "nq") => `(tactic| first | with_reducible assumption | with_reducible exact Ne.symm (by assumption) | with_reducible exact ne_of_none (by assumption) (by assumption) | with_reducible exact Ne.symm (ne_of_none (by assumption) (by assumption)))
local macro_rules | `(tactic| walk_at "gt") => `(tactic| first | with_reducible assumption | with_reducible exact upd_same | ((with_reducible refine' upd_new ?ha ?hb); (case hb => with_reducible assumption); (case ha => walk_at "gt")) | ((with_reducible refine' upd_old ?ha ?hb); (case hb => walk_at "nq"); (case ha => walk_at "gt")) | ((with_reducible refine' sm_get ?hb ?ha); (case hb => with_reducible assumption); (case ha => walk_at "gt")) | ((with_reducible refine' fr_get ?hb ?ha ?hc); (case hb => with_reducible assumption); (case hc => walk_at "nq"); (case ha => walk_at "gt")))
local macro_rules | `(tactic| walk_at "sl") => `(tactic| first | with_reducible assumption | ((with_reducible refine' sl_of ?ha); (case ha => walk_at "gt")) | ((with_reducible refine' sl_new ?ha ?hb); (case hb => with_reducible assumption); (case ha => walk_at "sl")) | ((with_reducible refine' sl_sm ?hb ?ha); (case hb => with_reducible assumption); (case ha => walk_at "sl")) | ((with_reducible refine' sl_fr ?hb ?hc ?ha); (case hb => with_reducible assumption); (case hc => walk_at "nq"); (case ha => walk_at "sl")))
local macro_rules | `(tactic| walk_at "st") => `(tactic| first | with_reducible assumption | ((with_reducible refine' st_of ?ha); (case ha => walk_at "gt")) | ((with_reducible refine' st_new ?ha ?hb); (case hb => with_reducible assumption); (case ha => walk_at "st")) | ((with_reducible refine' st_sm ?hb ?ha); (case hb => with_reducible assumption); (case ha => walk_at "st")) | ((with_reducible refine' st_fr ?hb ?hc ?ha); (case hb => with_reducible assumption); (case hc => walk_at "nq"); (case ha => walk_at "st")))
local macro_rules | `(tactic| walk_at "sa") => `(tactic| first | with_reducible assumption | ((with_reducible refine' sa_l ?ha); (case ha => walk_at "gt")) | ((with_reducible refine' sa_t ?ha); (case ha => walk_at "gt")) | ((with_reducible refine' sa_new ?ha ?hb); (case hb => with_reducible assumption); (case ha => walk_at "sa")) | ((with_reducible refine' sa_sm ?hb ?ha); (case hb => with_reducible assumption); (case ha => walk_at "sa")) | ((with_reducible refine' sa_fr ?hb ?hc ?ha); (case hb => with_reducible assumption); (case hc => walk_at "nq"); (case ha => walk_at "sa")) | ((with_reducible refine' Or.inl ?ha); (case ha => walk_at "sl")) | ((with_reducible refine' Or.inr ?ha); (case ha => walk_at "st")))
local macro_rules | `(tactic| walk_at "ln") => `(tactic| first | decide | omega | exact Nat.le_of_ble_eq_true rfl | (simp only [List.length_append, List.length_map, List.length_cons, List.length_nil, List.length_flatMap]; omega))
local macro_rules | `(tactic| walk_at "ty") => `(tactic| first | with_reducible assumption | with_reducible exact .base (.int _) | with_reducible exact .base (.str _) | with_reducible exact .base (.bl _) | with_reducible exact .base .non | ((with_reducible refine' TyX.base (TyOf.lst ?ha)); (case ha => walk_at "gt")) | ((with_reducible refine' TyX.base (TyOf.tup ?ha)); (case ha => walk_at "gt")) | ((with_reducible refine' TyX.base (TyOf.dK ?ha)); (case ha => walk_at "gt")) | ((with_reducible refine' ty_new ?ha ?hb); (case hb => with_reducible assumption); (case ha => walk_at "ty")) | ((with_reducible refine' ty_sm ?hb ?ha); (case hb => with_reducible assumption); (case ha => walk_at "ty")))
local macro_rules | `(tactic| walk_at "kb") => `(tactic| first | with_reducible assumption | exact kb_str_str | exact kb_int_str | exact kb_list_str | exact kb_tuple_str | exact kb_bool_str | exact kb_NoneType_str | exact kb_dict_str | exact kb_str_int | exact kb_int_int | exact kb_list_int | exact kb_tuple_int | exact kb_bool_int | exact kb_NoneType_int | exact kb_dict_int | exact kb_str_bool | exact kb_int_bool | exact kb_list_bool | exact kb_tuple_bool | exact kb_bool_bool | exact kb_NoneType_bool | exact kb_dict_bool | exact kb_str_list | exact kb_int_list | exact kb_list_list | exact kb_tuple_list | exact kb_bool_list | exact kb_NoneType_list | exact kb_dict_list | exact kb_str_tuple | exact kb_int_tuple | exact kb_list_tuple | exact kb_tuple_tuple | exact kb_bool_tuple | exact kb_NoneType_tuple | exact kb_dict_tuple | exact kb_str_dict | exact kb_int_dict | exact kb_list_dict | exact kb_tuple_dict | exact kb_bool_dict | exact kb_NoneType_dict | exact kb_dict_dict)
local macro_rules | `(tactic| walk_at "wk") => `(tactic| first | with_reducible assumption | ((with_reducible refine' WkAt.new ?ha ?hb); (case hb => with_reducible assumption); (case ha => walk_at "wk")) | ((with_reducible refine' WkAt.sm ?hb ?ha); (case hb => with_reducible assumption); (case ha => walk_at "wk")) | ((with_reducible refine' WkAt.dr ?hb ?hc ?ha); (case hb => with_reducible assumption); (case hc => with_reducible assumption); (case ha => walk_at "wk")))
local macro_rules | `(tactic| walk_at "ed") => `(tactic| first | with_reducible assumption | ((with_reducible refine' EdAt.new ?ha ?hb); (case hb => with_reducible assumption); (case ha => walk_at "ed")) | ((with_reducible refine' EdAt.sm ?hb ?ha); (case hb => with_reducible assumption); (case ha => walk_at "ed")) | ((with_reducible refine' EdAt.dr ?hb ?hc ?ha); (case hb => with_reducible assumption); (case hc => with_reducible assumption); (case ha => walk_at "ed")))
local macro_rules | `(tactic| walk_at "pl") => `(tactic| first | with_reducible assumption | ((with_reducible refine' PlAt.new ?ha ?hb); (case hb => with_reducible assumption); (case ha => walk_at "pl")) | ((with_reducible refine' PlAt.sm ?hb ?ha); (case hb => with_reducible assumption); (case ha => walk_at "pl")) | ((with_reducible refine' PlAt.dr ?hb ?hc ?ha); (case hb => with_reducible assumption); (case hc => with_reducible assumption); (case ha => walk_at "pl")))
local macro_rules | `(tactic| walk_at "fl") => `(tactic| first | with_reducible assumption | ((with_reducible refine' WkAt.rows ?hT ?hW); (case hT => assumption); (case hW => walk_at "wk")) | ((with_reducible refine' WkAt.name ?hT ?hW); (case hT => assumption); (case hW => walk_at "wk")) | ((with_reducible refine' EdAt.work ?hT ?hW); (case hT => assumption); (case hW => walk_at "ed")) | ((with_reducible refine' EdAt.nums ?hT ?hW); (case hT => assumption); (case hW => walk_at "ed")) | ((with_reducible refine' PlAt.edition ?hT ?hW); (case hT => assumption); (case hW => walk_at "pl")) | ((with_reducible refine' PlAt.count ?hT ?hW); (case hT => assumption); (case hW => walk_at "pl")))
local macro_rules | `(tactic| walk_at "mt") => `(tactic| first | with_reducible assumption | ((with_reducible refine' WkAt.mt ?hn1 ?hn2 ?hW); (case hW => walk_at "wk"); (case hn1 => decide +kernel); (case hn2 => decide +kernel)) | ((with_reducible refine' EdAt.mt ?hn1 ?hn2 ?hW); (case hW => walk_at "ed"); (case hn1 => decide +kernel); (case hn2 => decide +kernel)) | ((with_reducible refine' PlAt.mt ?hn1 ?hn2 ?hW); (case hW => walk_at "pl"); (case hn1 => decide +kernel); (case hn2 => decide +kernel)))
local macro_rules | `(tactic| walk_at "is") => `(tactic| first | with_reducible assumption | ((with_reducible refine' WkAt.is ?hW); (case hW => walk_at "wk")) | ((with_reducible refine' EdAt.is ?hW); (case hW => walk_at "ed")) | ((with_reducible refine' PlAt.is ?hW); (case hW => walk_at "pl")))
local macro_rules | `(tactic| walk_at "ic") => `(tactic| first
  | ((with_reducible show CMul _ _); first | exact Or.inl ⟨by decide, by decide⟩ | exact Or.inr ⟨by decide, by decide⟩ | exact Or.inl ⟨by omega, by omega⟩ | exact Or.inr ⟨by omega, by omega⟩)
  | ((with_reducible show CDiv _ _); first | exact ⟨by decide, by decide⟩ | exact ⟨by omega, by omega⟩)
  | ((with_reducible show CPow _ _); first | exact ⟨by decide, by decide, by decide⟩ | exact ⟨by decide, by decide, by omega⟩)
  | (show (0 : Int) < _; first | decide | omega))
local macro_rules | `(tactic| walk_at "s1") => `(tactic| first
  | with_reducible refine k_seq ?_
  | with_reducible refine k_set ?_
  | with_reducible refine k_asg ?_
  | with_reducible refine k_par ?_
  | with_reducible refine k_par2 ?_
  | with_reducible refine k_drop ?_
  | with_reducible refine k_ret ?_
  | with_reducible refine k_next ?_
  | with_reducible refine k_if ?_
  | ((with_reducible refine' k_aug ?hv ?_); (case hv => exact rfl))
  | with_reducible refine k_ipI ?_
  | with_reducible refine k_gname ?_
  | with_reducible refine k_gsub ?_
  | ((with_reducible refine' k_gtup ?hv ?hw ?_); (case hv => walk_at "st"); (case hw => rfl))
  | with_reducible refine k_gcons ?_
  | with_reducible refine k_gnil ?_
  | with_reducible refine k_test ?_
  | with_reducible refine k_B ?_
  | with_reducible refine k_blE ?_
  | with_reducible refine k_and ?_
  | with_reducible refine k_or ?_
  | with_reducible refine k_not ?_
  | with_reducible refine iteT ?_
  | with_reducible refine iteF ?_
  | with_reducible refine iteNT ?_
  | with_reducible refine iteNF ?_
  | ((with_reducible refine' k_var ?hv ?_); (case hv => exact rfl))
  | with_reducible refine k_c ?_
  | with_reducible refine k_op ?_
  | with_reducible refine k_un ?_
  | with_reducible refine k_U ?_
  | with_reducible refine k_I0 ?_
  | ((with_reducible refine' k_I ?hv ?_); (case hv => walk_at "ic"))
  | with_reducible refine k_eqI ?_
  | with_reducible refine k_neI ?_
  | with_reducible refine k_eqS ?_
  | with_reducible refine k_neS ?_
  | with_reducible refine k_eqB ?_
  | with_reducible refine k_neB ?_
  | with_reducible refine k_for ?_
  | with_reducible refine k_iE ?_
  | with_reducible refine k_iA ?_
  | ((with_reducible refine' k_itl ?hv ?_); (case hv => walk_at "sl"))
  | ((with_reducible refine' k_itt ?hv ?_); (case hv => walk_at "st"))
  | with_reducible refine k_its ?_
  | ((with_reducible refine' k_rg1n ?hv ?_); (case hv => first | decide | omega))
  | ((with_reducible refine' k_rg1 ?hv ?hw ?_); (case hv => first | decide | omega); (case hw => first | decide | omega))
  | ((with_reducible refine' k_inS ?hv ?_); (case hv => walk_at "sa"))
  | ((with_reducible refine' k_inI ?hv ?_); (case hv => walk_at "sa"))
  | ((with_reducible refine' k_ninS ?hv ?_); (case hv => walk_at "sa"))
  | ((with_reducible refine' k_ninI ?hv ?_); (case hv => walk_at "sa"))
  | ((with_reducible refine' k_zipl ?hv ?hw ?_); (case hv => walk_at "sl"); (case hw => walk_at "sl"))
  | with_reducible refine k_nil ?_
  | with_reducible refine k_cons ?_
  | with_reducible refine k_cb ?_
  | with_reducible refine k_call ?_
  | with_reducible refine k_lst ?_
  | with_reducible refine k_tup ?_
  | with_reducible refine k_ifx ?_
  | with_reducible refine k_andv ?_
  | with_reducible refine k_orv ?_
  | with_reducible refine k_notv ?_
  | with_reducible refine k_inti ?_
  | with_reducible refine k_intb ?_
  | with_reducible refine k_sl ?_
  | with_reducible refine k_nopart ?_
  | with_reducible refine k_part ?_
  | with_reducible refine k_parti ?_
  | ((with_reducible refine' k_lenl ?hv ?_); (case hv => walk_at "sl"))
  | ((with_reducible refine' k_lent ?hv ?_); (case hv => walk_at "st"))
  | ((with_reducible refine' k_lens ?hv ?_); (case hv => exact szl (by walk_at "ln")))
  | ((with_reducible refine' k_lena ?hv ?_); (case hv => walk_at "sa"))
  | ((with_reducible refine' k_ixl ?hv ?hn ?_); (case hv => walk_at "sl"); (case hn => first | rfl | assumption))
  | ((with_reducible refine' k_ixt ?hv ?hn ?_); (case hv => walk_at "st"); (case hn => first | rfl | assumption))
  | ((with_reducible refine' k_ixa ?hv ?hn ?_); (case hv => walk_at "sa"); (case hn => first | rfl | assumption))
  | with_reducible refine k_chain ?_
  | ((with_reducible refine' k_isi ?hv ?hw ?_); (case hv => walk_at "ty"); (case hw => walk_at "kb"))
  | ((with_reducible refine' k_isi2 ?hb ?hp ?hv ?hw ?hx ?_); (case hp => walk_at "gt"); (case hv => walk_at "ty"); (case hw => walk_at "kb"); (case hx => walk_at "kb"); (case hb => first | exact or_t | exact or_f))
  | ((with_reducible refine' k_all ?hv ?_); (case hv => walk_at "gt"))
  | ((with_reducible refine' k_any ?hv ?_); (case hv => walk_at "gt"))
  | with_reducible refine k_insign ?_
  | with_reducible refine k_fldR ?_
  | ((with_reducible refine' k_fl ?hv ?_); (case hv => walk_at "fl"))
  | with_reducible refine k_sfld ?_
  | with_reducible refine k_meth ?_
  | ((with_reducible refine' k_mt ?hv ?_); (case hv => walk_at "mt"))
  | with_reducible refine k_make ?_
  | ((with_reducible refine' k_own ?hv ?hw ?_); (case hv => walk_at "is"); (case hw => walk_at "is"))
  | ((with_reducible refine' k_ownin ?hv ?_); (case hv => walk_at "is"))
  | ((with_reducible refine' k_lenO ?hv ?_); (case hv => walk_at "is"))
  | with_reducible refine k_prop ?_
  | ((with_reducible refine' k_pr ?hv ?_); (case hv => walk_at "is"))
  | ((with_reducible refine' k_ownI ?hv ?_); (case hv => walk_at "is"))
  | ((with_reducible refine' k_ownR ?hv ?_); (case hv => walk_at "is"))
  | with_reducible refine k_mx ?_
  | with_reducible refine k_mn ?_
  | with_reducible refine k_lrg ?_
  | with_reducible refine k_rgt ?_
  | with_reducible refine k_rgti ?_
  | with_reducible refine k_bm ?_
  | with_reducible refine k_bm0 ?_
  | with_reducible refine k_tys ?_
  | ((with_reducible refine' k_tyl ?hv ?_); (case hv => walk_at "sl"))
  | ((with_reducible refine' k_ext ?hv ?hw ?hn ?_); (case hv => walk_at "gt"); (case hw => walk_at "gt"); (case hn => walk_at "ln"))
  | ((with_reducible refine' k_app ?hv ?hn ?_); (case hv => walk_at "gt"); (case hn => walk_at "ln"))
  | ((with_reducible refine' k_popat ?hv ?hn ?hw ?_); (case hv => walk_at "gt"); (case hn => with_reducible assumption); (case hw => walk_at "ln"))
  | with_reducible refine k_lc ?_
  | with_reducible refine k_yes0 ?_
  | ((with_reducible show wipe _ _ = wipe _ _ ∧ _); refine ⟨rfl, ?_⟩)
  | ((with_reducible refine' k_adds ?hv ?_); (case hv => walk_at "ln"))
  | ((with_reducible refine' k_st1 ?hv ?_); (case hv => walk_at "gt"))
  | ((with_reducible refine' k_st2 ?hv ?_); (case hv => walk_at "gt"))
  | ((with_reducible refine' k_st3 ?hv ?_); (case hv => walk_at "gt"))
  | ((with_reducible refine' k_setl ?hv ?hn ?_); (case hv => walk_at "gt"); (case hn => rfl)))
local macro_rules | `(tactic| walk_at "put") => `(tactic| ((refine' ⟨_, ?ha, sz ?hb, ?_⟩); (case ha => walk_at "gt"); (case hb => walk_at "ln")))
local macro_rules | `(tactic| walk_at "go") => `(tactic| repeat (walk_at "s1"))
local macro_rules | `(tactic| walk_at "dv") => `(tactic| first | exact rfl | with_reducible assumption)
local macro_rules | `(tactic| walk_at "dt") => `(tactic| first | with_reducible assumption | with_reducible exact .int | with_reducible exact .str | with_reducible exact .bl | with_reducible exact .non | with_reducible exact .lst | with_reducible exact .tup | with_reducible exact .dk | ((with_reducible refine' TyD.ins ?hc); (case hc => with_reducible assumption)))
local macro_rules | `(tactic| walk_at "dm") => `(tactic| first | exact trivial | exact List.mem_cons_self | exact List.mem_cons_of_mem _ List.mem_cons_self | exact List.mem_cons_of_mem _ (List.mem_cons_of_mem _ List.mem_cons_self))
local macro_rules | `(tactic| walk_at "dy") => `(tactic| first | exact Or.inl rfl | exact Or.inr rfl)
local macro_rules | `(tactic| walk_at "xExD") => `(tactic| first
  | ((with_reducible refine' ex_re ?hX ?_); (case hX => assumption))
  | ((with_reducible refine' ex_re2 ?hX ?_); (case hX => assumption))
  | ((with_reducible refine' ex_rz ?hX ?_); (case hX => assumption)))
local macro_rules | `(tactic| walk_at "xOpD") => `(tactic| first
  | ((with_reducible refine' od_ownX ?hX ?_); (case hX => assumption))
  | ((with_reducible refine' od_ownIX ?hX ?_); (case hX => assumption)))
local macro_rules | `(tactic| walk_at "xEvD") => `(tactic| first
  | ((with_reducible refine' ev_callT ?hX ?_); (case hX => assumption))
  | ((with_reducible refine' ev_callX ?hX ?_); (case hX => assumption))
  | ((with_reducible refine' ev_methX ?hX ?_); (case hX => assumption))
  | ((with_reducible refine' ev_makeX ?hX ?_); (case hX => assumption))
  | ((with_reducible refine' ev_kwX ?hX ?_); (case hX => assumption))
  | ((with_reducible refine' ev_mkKwX ?hX ?_); (case hX => assumption)))
local macro_rules | `(tactic| walk_at "gEvD") => `(tactic| first
  | ((with_reducible refine' ev_var ?hv ?_); (case hv => exact rfl))
  | ((with_reducible refine' ev_varO ?hv ?_); (case hv => exact rfl))
  | with_reducible refine ev_ci ?_
  | with_reducible refine ev_cs ?_
  | with_reducible refine ev_cb ?_
  | with_reducible refine ev_cn ?_
  | ((with_reducible refine' ev_kt ?h ?_); (case h => with_reducible assumption))
  | with_reducible refine ev_cr ?_
  | with_reducible refine ev_ct ?_
  | with_reducible refine ev_new (evN_op (r := rCat) ?_)
  | with_reducible refine ev_new (evN_op (r := rRep) ?_)
  | ((with_reducible refine' ev_ixO ?hv ?_); (case hv => exact rfl))
  | with_reducible refine ev_op ?_
  | with_reducible refine ev_un ?_
  | with_reducible refine ev_isi2 ?_
  | with_reducible refine ev_isi4 ?_
  | ((with_reducible refine' ev_new (evN_listO ?hv ?_)); (case hv => exact rfl))
  | with_reducible refine ev_new (evN_cb1 (f := rListOf _) ?_)
  | ((with_reducible refine' ev_lenO ?hv ?_); (case hv => exact rfl))
  | with_reducible refine ev_cb1 ?_
  | with_reducible refine ev_lst ?_
  | with_reducible refine ev_dnew ?_
  | with_reducible refine ev_tup ?_
  | with_reducible refine ev_if ?_
  | with_reducible refine ev_and ?_
  | with_reducible refine ev_or ?_
  | with_reducible refine ev_not ?_
  | with_reducible refine ev_chain ?_
  | ((with_reducible refine' ev_new (evN_lcO ?hv ?_)); (case hv => exact rfl))
  | with_reducible refine ev_new (evN_lc ?_)
  | with_reducible refine ev_new (evN_sl ?_)
  | with_reducible refine ev_slT ?_
  | ((with_reducible refine' ev_fldS (n := 0) ?hv ?hc ?hn ?h1 ?h2 ?_); (case hv => exact rfl); (case hc => with_reducible assumption); (case hn => with_reducible assumption); (case h1 => decide +kernel); (case h2 => exact rfl))
  | ((with_reducible refine' ev_fldS (n := 1) ?hv ?hc ?hn ?h1 ?h2 ?_); (case hv => exact rfl); (case hc => with_reducible assumption); (case hn => with_reducible assumption); (case h1 => decide +kernel); (case h2 => exact rfl))
  | ((with_reducible refine' ev_fldS (n := 2) ?hv ?hc ?hn ?h1 ?h2 ?_); (case hv => exact rfl); (case hc => with_reducible assumption); (case hn => with_reducible assumption); (case h1 => decide +kernel); (case h2 => exact rfl))
  | ((with_reducible refine' ev_fldS (n := 3) ?hv ?hc ?hn ?h1 ?h2 ?_); (case hv => exact rfl); (case hc => with_reducible assumption); (case hn => with_reducible assumption); (case h1 => decide +kernel); (case h2 => exact rfl))
  | with_reducible refine ev_fld ?_
  | with_reducible refine ev_call ?_
  | with_reducible refine ev_kw ?_
  | with_reducible refine ev_mkKw ?_
  | with_reducible refine ev_meth ?_
  | with_reducible refine ev_prop ?_
  | with_reducible refine ev_make ?_)
local macro_rules | `(tactic| walk_at "gOpD") => `(tactic| first
  | with_reducible refine od_int ?_
  | with_reducible refine od_bl ?_
  | ((with_reducible refine' od_I ?hv ?_); (case hv => walk_at "ic"))
  | with_reducible refine od_ip ?_
  | with_reducible refine od_eqI ?_
  | with_reducible refine od_neI ?_
  | with_reducible refine od_eqS ?_
  | with_reducible refine od_neS ?_
  | with_reducible refine od_eqB ?_
  | with_reducible refine od_neB ?_
  | with_reducible refine od_isbl ?_
  | ((with_reducible refine' od_ixl ?hv ?_); (case hv => walk_at "dv"))
  | ((with_reducible refine' od_ixt ?hv ?_); (case hv => walk_at "dv"))
  | ((with_reducible refine' od_ixL ?hv ?_); (case hv => walk_at "dv"))
  | ((with_reducible refine' od_ixT ?hv ?_); (case hv => walk_at "dv"))
  | ((with_reducible refine' od_inN ?hv ?_); (case hv => walk_at "dy"))
  | ((with_reducible refine' od_inI ?hv ?_); (case hv => walk_at "dy"))
  | ((with_reducible refine' od_inS ?hv ?_); (case hv => walk_at "dy"))
  | with_reducible refine od_sign ?_
  | ((with_reducible refine' od_adds ?hv ?_); (case hv => walk_at "ln"))
  | with_reducible refine od_own ?_
  | with_reducible refine od_ownI ?_
  | with_reducible refine od_ownR ?_
  | with_reducible refine od_ownin ?_)
local macro_rules | `(tactic| walk_at "gExD") => `(tactic| first
  | with_reducible refine ex_seq ?_
  | ((with_reducible refine' ex_new (te := tLst tNil) ?hi ?_); (case hi => exact Nat.le_of_ble_eq_true rfl))
  | ((with_reducible refine' ex_newO ?hi ?_); (case hi => exact Nat.le_of_ble_eq_true rfl))
  | with_reducible refine ex_set ?_
  | with_reducible refine ex_asg ?_
  | ((with_reducible refine' ex_par ?hi ?_); (case hi => decide))
  | with_reducible refine ex_par3 ?_
  | ((with_reducible refine' ex_retO ?hv ?_); (case hv => exact rfl))
  | with_reducible refine ex_ret ?_
  | with_reducible refine ex_retN ?_
  | with_reducible refine ex_next ?_
  | with_reducible refine ex_break ?_
  | with_reducible refine ex_cont ?_
  | with_reducible refine ex_ifB ?_
  | ((with_reducible refine' ex_aug ?hv ?_); (case hv => exact rfl))
  | ((with_reducible refine' ex_app ?hv ?hl ?_); (case hv => exact rfl); (case hl => walk_at "ln"))
  | ((with_reducible refine' ex_insO ?hv ?hl ?_); (case hv => exact rfl); (case hl => walk_at "ln"))
  | ((with_reducible refine' ex_fld ?hv ?hc ?hn ?hl ?_); (case hv => exact rfl); (case hc => with_reducible assumption); (case hn => with_reducible assumption); (case hl => exact Nat.le_of_ble_eq_true rfl))
  | ((with_reducible refine' ex_extO ?hv ?_); (case hv => exact rfl))
  | ((with_reducible refine' ex_clrO ?hv ?_); (case hv => exact rfl))
  | with_reducible refine ex_drop ?_
  | with_reducible refine ex_for ?_)
local macro_rules | `(tactic| walk_at "gEvT") => `(tactic| first
  | with_reducible refine et_test ?_
  | with_reducible refine et_B ?_
  | with_reducible refine et_and ?_
  | with_reducible refine et_or ?_
  | with_reducible refine et_not ?_
  | with_reducible refine et_yes ?_)
local macro_rules | `(tactic| walk_at "gite") => `(tactic| first
  | with_reducible refine iteT ?_
  | with_reducible refine iteF ?_
  | with_reducible refine iteNT ?_
  | with_reducible refine iteNF ?_)
local macro_rules | `(tactic| walk_at "gUnD") => `(tactic| first
  | with_reducible refine ud_U ?_
  | ((with_reducible refine' fW_name ?hT ?_); (case hT => assumption))
  | ((with_reducible refine' fW_rows ?hT ?_); (case hT => assumption))
  | ((with_reducible refine' fE_work ?hT ?_); (case hT => assumption))
  | ((with_reducible refine' fE_nums ?hT ?_); (case hT => assumption))
  | ((with_reducible refine' fP_edition ?hT ?_); (case hT => assumption))
  | ((with_reducible refine' fP_count ?hT ?_); (case hT => assumption))
  | ((with_reducible refine' fK_work ?hT ?_); (case hT => assumption))
  | ((with_reducible refine' fK_rows ?hT ?_); (case hT => assumption))
  | ((with_reducible refine' fK_told ?hT ?_); (case hT => assumption))
  | ((with_reducible refine' fS_rule ?hT ?_); (case hT => assumption))
  | ((with_reducible refine' fS_tables ?hT ?_); (case hT => assumption))
  | ((with_reducible refine' fS_spots ?hT ?_); (case hT => assumption))
  | ((with_reducible refine' fS_held ?hT ?_); (case hT => assumption))
  | ((with_reducible refine' fS_stamps ?hT ?_); (case hT => assumption))
  | ((with_reducible refine' fS_row ?hT ?_); (case hT => assumption))
  | ((with_reducible refine' fS_top ?hT ?_); (case hT => assumption))
  | ((with_reducible refine' fS_come ?hT ?_); (case hT => assumption))
  | ((with_reducible refine' fR_parts ?hT ?_); (case hT => assumption))
  | ((with_reducible refine' fR_way ?hT ?_); (case hT => assumption)))
local macro_rules | `(tactic| walk_at "gCbD") => `(tactic| first
  | ((with_reducible refine' cd_isi ?ht ?hk ?_); (case ht => walk_at "dt"); (case hk => walk_at "kb"))
  | ((with_reducible refine' cd_isiO ?ht ?hk ?_); (case ht => walk_at "dt"); (case hk => first | with_reducible assumption | exact kit_same))
  | ((with_reducible refine' cd_lens ?hv ?_); (case hv => walk_at "ln"))
  | with_reducible refine cd_len ?_
  | with_reducible refine cd_all ?_
  | with_reducible refine cd_any ?_
  | with_reducible refine cd_int ?_
  | with_reducible refine cd_intb ?_
  | with_reducible refine cd_mx ?_
  | with_reducible refine cd_mn ?_
  | with_reducible refine cd_tuple ?_
  | with_reducible refine cd_lenO ?_)
local macro_rules | `(tactic| walk_at "gEvI") => `(tactic| first
  | with_reducible refine ei_seq ?_
  | with_reducible refine ei_str ?_
  | with_reducible refine ei_rg1 ?_
  | with_reducible refine ei_rg2 ?_
  | with_reducible refine ei_enum ?_
  | with_reducible refine ei_zip ?_
  | with_reducible refine ei_zipA ?_
  | with_reducible refine ei_zipB ?_
  | with_reducible refine ei_zipB3 ?_)
local macro_rules | `(tactic| walk_at "gEvN") => `(tactic| first
  | ((with_reducible refine' evN_listO ?hv ?_); (case hv => exact rfl))
  | ((with_reducible refine' evN_lcO ?hv ?_); (case hv => exact rfl))
  | with_reducible refine evN_lc ?_
  | with_reducible refine evN_sl ?_
  | with_reducible refine evN_op ?_
  | with_reducible refine evN_cb1 ?_
  | with_reducible refine evN_lst ?_)
local macro_rules | `(tactic| walk_at "d1") => `(tactic| first
  | ((with_reducible show EvD _ _ _ _ _); walk_at "gEvD")
  | ((with_reducible show OpD _ _ _ _ _ _); walk_at "gOpD")
  | with_reducible refine ev_nil ?_
  | with_reducible refine ev_cons ?_
  | ((with_reducible show ExD _ _ _ _ _); walk_at "gExD")
  | ((with_reducible show EvT _ _ _ _ _); walk_at "gEvT")
  | with_reducible refine isB_mk ?_
  | walk_at "gite"
  | ((with_reducible show UnD _ _ _ _ _); walk_at "gUnD")
  | ((with_reducible show CbD _ _ _ _ _); walk_at "gCbD")
  | ((with_reducible refine' tg_name ?hi ?_); (case hi => walk_at "dm"))
  | ((with_reducible refine' tg_tup ?hi ?_); (case hi => exact rfl))
  | ((with_reducible refine' tg_unl ?hi ?_); (case hi => exact rfl))
  | with_reducible refine tg_cons ?_
  | with_reducible refine tg_nil ?_
  | ((with_reducible show EvI _ _ _ _ _); walk_at "gEvI")
  | ((with_reducible refine' few_mk ?hl ?_); (case hl => exact Nat.le_of_ble_eq_true rfl))
  | ((with_reducible show EvN _ _ _ _ _); walk_at "gEvN")
  | ((with_reducible refine' on_cat ?hv ?_); (case hv => walk_at "ln"))
  | ((with_reducible refine' on_rep ?hv ?hw ?_); (case hv => walk_at "ln"); (case hw => walk_at "ln"))
  | with_reducible refine cn_list ?_
  | with_reducible refine eo_no ?_
  | with_reducible refine eo_part ?_
  | with_reducible refine seq_l ?_
  | with_reducible refine seq_t ?_
  | with_reducible refine ⟨insD_mk (by decide +kernel), ?_⟩)
local macro_rules | `(tactic| walk_at "dx") => `(tactic| first
  | ((with_reducible show EvD _ _ _ _ _); walk_at "xEvD")
  | ((with_reducible show OpD _ _ _ _ _ _); walk_at "xOpD")
  | ((with_reducible show ExD _ _ _ _ _); walk_at "xExD"))
local macro_rules | `(tactic| walk_at "dX") => `(tactic| repeat (first | walk_at "d1" | walk_at "dx"))
local macro_rules | `(tactic| walk_at "dg") => `(tactic| repeat (walk_at "d1"))
section
set_option maxRecDepth 100000
set_option maxHeartbeats 2000000

/-- a setting and its tables -/
def SetD (Z : Cs) (x : D) (tb : Tbl) : Prop := (∃ n : Nat, 1 ≤ n ∧ n ≤ 3 ∧ x = .int (n : Nat) ∧ tb = List.replicate n none) ∨
  ∃ nm ws, ∃ nss : List (List Nat), (x = .lst (nss.map fun ns => dE Z nm ws ns) ∨ x = .tup (nss.map fun ns => dE Z nm ws ns)) ∧ okS ws ∧ 1 ≤ nss.length ∧ nss.length ≤ 3 ∧ ws.length ≤ 100 ∧ tb = nss.map fun ns => some (rowK ws.length ns)
theorem SetD.len {Z : Cs} {x : D} {tb : Tbl} (h : SetD Z x tb) : 1 ≤ tb.length ∧ tb.length ≤ 3 := by
  rcases h with ⟨n, h1, h2, _, rfl⟩ | ⟨_, _, nss, _, _, h1, h2, _, rfl⟩
  · rw [List.length_replicate]; exact ⟨h1, h2⟩
  · rw [List.length_map]; exact ⟨h1, h2⟩
section
variable {P : Program} {w : World} {K : PySem.W.Frag} {mg : Str → Option Value} {base : Heap} {Z : Cs} {Ys zA : Addr} {Yr : Ra}
end
end
/-! Histories: a deed more, their faults. -/
section
set_option maxRecDepth 100000
set_option maxHeartbeats 2000000
section
variable {rows : List (List Str)} {way nm : Str} {tb : Tbl} {dds : List Dd}
end
end
/-! The law's settings. -/
end Lf
namespace Lf
open PySem PySem.Spec PyProof.Rows L2
local macro_rules | `(tactic| walk_at "nq") => `(tactic| first | with_reducible assumption | with_reducible exact Ne.symm (by assumption) | with_reducible exact ne_of_none (by assumption) (by assumption) | with_reducible exact Ne.symm (ne_of_none (by assumption) (by assumption)))
local macro_rules | `(tactic| walk_at "gt") => `(tactic| first | with_reducible assumption | with_reducible exact upd_same | ((with_reducible refine' upd_new ?ha ?hb); (case hb => with_reducible assumption); (case ha => walk_at "gt")) | ((with_reducible refine' upd_old ?ha ?hb); (case hb => walk_at "nq"); (case ha => walk_at "gt")) | ((with_reducible refine' sm_get ?hb ?ha); (case hb => with_reducible assumption); (case ha => walk_at "gt")) | ((with_reducible refine' fr_get ?hb ?ha ?hc); (case hb => with_reducible assumption); (case hc => walk_at "nq"); (case ha => walk_at "gt")))
local macro_rules | `(tactic| walk_at "sl") => `(tactic| first | with_reducible assumption | ((with_reducible refine' sl_of ?ha); (case ha => walk_at "gt")) | ((with_reducible refine' sl_new ?ha ?hb); (case hb => with_reducible assumption); (case ha => walk_at "sl")) | ((with_reducible refine' sl_sm ?hb ?ha); (case hb => with_reducible assumption); (case ha => walk_at "sl")) | ((with_reducible refine' sl_fr ?hb ?hc ?ha); (case hb => with_reducible assumption); (case hc => walk_at "nq"); (case ha => walk_at "sl")))
local macro_rules | `(tactic| walk_at "st") => `(tactic| first | with_reducible assumption | ((with_reducible refine' st_of ?ha); (case ha => walk_at "gt")) | ((with_reducible refine' st_new ?ha ?hb); (case hb => with_reducible assumption); (case ha => walk_at "st")) | ((with_reducible refine' st_sm ?hb ?ha); (case hb => with_reducible assumption); (case ha => walk_at "st")) | ((with_reducible refine' st_fr ?hb ?hc ?ha); (case hb => with_reducible assumption); (case hc => walk_at "nq"); (case ha => walk_at "st")))
local macro_rules | `(tactic| walk_at "sa") => `(tactic| first | with_reducible assumption | ((with_reducible refine' sa_l ?ha); (case ha => walk_at "gt")) | ((with_reducible refine' sa_t ?ha); (case ha => walk_at "gt")) | ((with_reducible refine' sa_new ?ha ?hb); (case hb => with_reducible assumption); (case ha => walk_at "sa")) | ((with_reducible refine' sa_sm ?hb ?ha); (case hb => with_reducible assumption); (case ha => walk_at "sa")) | ((with_reducible refine' sa_fr ?hb ?hc ?ha); (case hb => with_reducible assumption); (case hc => walk_at "nq"); (case ha => walk_at "sa")) | ((with_reducible refine' Or.inl ?ha); (case ha => walk_at "sl")) | ((with_reducible refine' Or.inr ?ha); (case ha => walk_at "st")))
local macro_rules | `(tactic| walk_at "ln") => `(tactic| first | decide | omega | exact Nat.le_of_ble_eq_true rfl | (simp only [List.length_append, List.length_map, List.length_cons, List.length_nil, List.length_flatMap]; omega))
local macro_rules | `(tactic| walk_at "ty") => `(tactic| first | with_reducible assumption | with_reducible exact .base (.int _) | with_reducible exact .base (.str _) | with_reducible exact .base (.bl _) | with_reducible exact .base .non | ((with_reducible refine' TyX.base (TyOf.lst ?ha)); (case ha => walk_at "gt")) | ((with_reducible refine' TyX.base (TyOf.tup ?ha)); (case ha => walk_at "gt")) | ((with_reducible refine' TyX.base (TyOf.dK ?ha)); (case ha => walk_at "gt")) | ((with_reducible refine' ty_new ?ha ?hb); (case hb => with_reducible assumption); (case ha => walk_at "ty")) | ((with_reducible refine' ty_sm ?hb ?ha); (case hb => with_reducible assumption); (case ha => walk_at "ty")))
local macro_rules | `(tactic| walk_at "kb") => `(tactic| first | with_reducible assumption | exact kb_str_str | exact kb_int_str | exact kb_list_str | exact kb_tuple_str | exact kb_bool_str | exact kb_NoneType_str | exact kb_dict_str | exact kb_str_int | exact kb_int_int | exact kb_list_int | exact kb_tuple_int | exact kb_bool_int | exact kb_NoneType_int | exact kb_dict_int | exact kb_str_bool | exact kb_int_bool | exact kb_list_bool | exact kb_tuple_bool | exact kb_bool_bool | exact kb_NoneType_bool | exact kb_dict_bool | exact kb_str_list | exact kb_int_list | exact kb_list_list | exact kb_tuple_list | exact kb_bool_list | exact kb_NoneType_list | exact kb_dict_list | exact kb_str_tuple | exact kb_int_tuple | exact kb_list_tuple | exact kb_tuple_tuple | exact kb_bool_tuple | exact kb_NoneType_tuple | exact kb_dict_tuple | exact kb_str_dict | exact kb_int_dict | exact kb_list_dict | exact kb_tuple_dict | exact kb_bool_dict | exact kb_NoneType_dict | exact kb_dict_dict)
local macro_rules | `(tactic| walk_at "wk") => `(tactic| first | with_reducible assumption | ((with_reducible refine' WkAt.new ?ha ?hb); (case hb => with_reducible assumption); (case ha => walk_at "wk")) | ((with_reducible refine' WkAt.sm ?hb ?ha); (case hb => with_reducible assumption); (case ha => walk_at "wk")) | ((with_reducible refine' WkAt.dr ?hb ?hc ?ha); (case hb => with_reducible assumption); (case hc => with_reducible assumption); (case ha => walk_at "wk")))
local macro_rules | `(tactic| walk_at "ed") => `(tactic| first | with_reducible assumption | ((with_reducible refine' EdAt.new ?ha ?hb); (case hb => with_reducible assumption); (case ha => walk_at "ed")) | ((with_reducible refine' EdAt.sm ?hb ?ha); (case hb => with_reducible assumption); (case ha => walk_at "ed")) | ((with_reducible refine' EdAt.dr ?hb ?hc ?ha); (case hb => with_reducible assumption); (case hc => with_reducible assumption); (case ha => walk_at "ed")))
local macro_rules | `(tactic| walk_at "pl") => `(tactic| first | with_reducible assumption | ((with_reducible refine' PlAt.new ?ha ?hb); (case hb => with_reducible assumption); (case ha => walk_at "pl")) | ((with_reducible refine' PlAt.sm ?hb ?ha); (case hb => with_reducible assumption); (case ha => walk_at "pl")) | ((with_reducible refine' PlAt.dr ?hb ?hc ?ha); (case hb => with_reducible assumption); (case hc => with_reducible assumption); (case ha => walk_at "pl")))
local macro_rules | `(tactic| walk_at "fl") => `(tactic| first | with_reducible assumption | ((with_reducible refine' WkAt.rows ?hT ?hW); (case hT => assumption); (case hW => walk_at "wk")) | ((with_reducible refine' WkAt.name ?hT ?hW); (case hT => assumption); (case hW => walk_at "wk")) | ((with_reducible refine' EdAt.work ?hT ?hW); (case hT => assumption); (case hW => walk_at "ed")) | ((with_reducible refine' EdAt.nums ?hT ?hW); (case hT => assumption); (case hW => walk_at "ed")) | ((with_reducible refine' PlAt.edition ?hT ?hW); (case hT => assumption); (case hW => walk_at "pl")) | ((with_reducible refine' PlAt.count ?hT ?hW); (case hT => assumption); (case hW => walk_at "pl")))
local macro_rules | `(tactic| walk_at "mt") => `(tactic| first | with_reducible assumption | ((with_reducible refine' WkAt.mt ?hn1 ?hn2 ?hW); (case hW => walk_at "wk"); (case hn1 => decide +kernel); (case hn2 => decide +kernel)) | ((with_reducible refine' EdAt.mt ?hn1 ?hn2 ?hW); (case hW => walk_at "ed"); (case hn1 => decide +kernel); (case hn2 => decide +kernel)) | ((with_reducible refine' PlAt.mt ?hn1 ?hn2 ?hW); (case hW => walk_at "pl"); (case hn1 => decide +kernel); (case hn2 => decide +kernel)))
local macro_rules | `(tactic| walk_at "is") => `(tactic| first | with_reducible assumption | ((with_reducible refine' WkAt.is ?hW); (case hW => walk_at "wk")) | ((with_reducible refine' EdAt.is ?hW); (case hW => walk_at "ed")) | ((with_reducible refine' PlAt.is ?hW); (case hW => walk_at "pl")))
local macro_rules | `(tactic| walk_at "ic") => `(tactic| first
  | ((with_reducible show CMul _ _); first | exact Or.inl ⟨by decide, by decide⟩ | exact Or.inr ⟨by decide, by decide⟩ | exact Or.inl ⟨by omega, by omega⟩ | exact Or.inr ⟨by omega, by omega⟩)
  | ((with_reducible show CDiv _ _); first | exact ⟨by decide, by decide⟩ | exact ⟨by omega, by omega⟩)
  | ((with_reducible show CPow _ _); first | exact ⟨by decide, by decide, by decide⟩ | exact ⟨by decide, by decide, by omega⟩)
  | (show (0 : Int) < _; first | decide | omega))
local macro_rules | `(tactic| walk_at "s1") => `(tactic| first
  | with_reducible refine k_seq ?_
  | with_reducible refine k_set ?_
  | with_reducible refine k_asg ?_
  | with_reducible refine k_par ?_
  | with_reducible refine k_par2 ?_
  | with_reducible refine k_drop ?_
  | with_reducible refine k_ret ?_
  | with_reducible refine k_next ?_
  | with_reducible refine k_if ?_
  | ((with_reducible refine' k_aug ?hv ?_); (case hv => exact rfl))
  | with_reducible refine k_ipI ?_
  | with_reducible refine k_gname ?_
  | with_reducible refine k_gsub ?_
  | ((with_reducible refine' k_gtup ?hv ?hw ?_); (case hv => walk_at "st"); (case hw => rfl))
  | with_reducible refine k_gcons ?_
  | with_reducible refine k_gnil ?_
  | with_reducible refine k_test ?_
  | with_reducible refine k_B ?_
  | with_reducible refine k_blE ?_
  | with_reducible refine k_and ?_
  | with_reducible refine k_or ?_
  | with_reducible refine k_not ?_
  | with_reducible refine iteT ?_
  | with_reducible refine iteF ?_
  | with_reducible refine iteNT ?_
  | with_reducible refine iteNF ?_
  | ((with_reducible refine' k_var ?hv ?_); (case hv => exact rfl))
  | with_reducible refine k_c ?_
  | with_reducible refine k_op ?_
  | with_reducible refine k_un ?_
  | with_reducible refine k_U ?_
  | with_reducible refine k_I0 ?_
  | ((with_reducible refine' k_I ?hv ?_); (case hv => walk_at "ic"))
  | with_reducible refine k_eqI ?_
  | with_reducible refine k_neI ?_
  | with_reducible refine k_eqS ?_
  | with_reducible refine k_neS ?_
  | with_reducible refine k_eqB ?_
  | with_reducible refine k_neB ?_
  | with_reducible refine k_for ?_
  | with_reducible refine k_iE ?_
  | with_reducible refine k_iA ?_
  | ((with_reducible refine' k_itl ?hv ?_); (case hv => walk_at "sl"))
  | ((with_reducible refine' k_itt ?hv ?_); (case hv => walk_at "st"))
  | with_reducible refine k_its ?_
  | ((with_reducible refine' k_rg1n ?hv ?_); (case hv => first | decide | omega))
  | ((with_reducible refine' k_rg1 ?hv ?hw ?_); (case hv => first | decide | omega); (case hw => first | decide | omega))
  | ((with_reducible refine' k_inS ?hv ?_); (case hv => walk_at "sa"))
  | ((with_reducible refine' k_inI ?hv ?_); (case hv => walk_at "sa"))
  | ((with_reducible refine' k_ninS ?hv ?_); (case hv => walk_at "sa"))
  | ((with_reducible refine' k_ninI ?hv ?_); (case hv => walk_at "sa"))
  | ((with_reducible refine' k_zipl ?hv ?hw ?_); (case hv => walk_at "sl"); (case hw => walk_at "sl"))
  | with_reducible refine k_nil ?_
  | with_reducible refine k_cons ?_
  | with_reducible refine k_cb ?_
  | with_reducible refine k_call ?_
  | with_reducible refine k_lst ?_
  | with_reducible refine k_tup ?_
  | with_reducible refine k_ifx ?_
  | with_reducible refine k_andv ?_
  | with_reducible refine k_orv ?_
  | with_reducible refine k_notv ?_
  | with_reducible refine k_inti ?_
  | with_reducible refine k_intb ?_
  | with_reducible refine k_sl ?_
  | with_reducible refine k_nopart ?_
  | with_reducible refine k_part ?_
  | with_reducible refine k_parti ?_
  | ((with_reducible refine' k_lenl ?hv ?_); (case hv => walk_at "sl"))
  | ((with_reducible refine' k_lent ?hv ?_); (case hv => walk_at "st"))
  | ((with_reducible refine' k_lens ?hv ?_); (case hv => exact szl (by walk_at "ln")))
  | ((with_reducible refine' k_lena ?hv ?_); (case hv => walk_at "sa"))
  | ((with_reducible refine' k_ixl ?hv ?hn ?_); (case hv => walk_at "sl"); (case hn => first | rfl | assumption))
  | ((with_reducible refine' k_ixt ?hv ?hn ?_); (case hv => walk_at "st"); (case hn => first | rfl | assumption))
  | ((with_reducible refine' k_ixa ?hv ?hn ?_); (case hv => walk_at "sa"); (case hn => first | rfl | assumption))
  | with_reducible refine k_chain ?_
  | ((with_reducible refine' k_isi ?hv ?hw ?_); (case hv => walk_at "ty"); (case hw => walk_at "kb"))
  | ((with_reducible refine' k_isi2 ?hb ?hp ?hv ?hw ?hx ?_); (case hp => walk_at "gt"); (case hv => walk_at "ty"); (case hw => walk_at "kb"); (case hx => walk_at "kb"); (case hb => first | exact or_t | exact or_f))
  | ((with_reducible refine' k_all ?hv ?_); (case hv => walk_at "gt"))
  | ((with_reducible refine' k_any ?hv ?_); (case hv => walk_at "gt"))
  | with_reducible refine k_insign ?_
  | with_reducible refine k_fldR ?_
  | ((with_reducible refine' k_fl ?hv ?_); (case hv => walk_at "fl"))
  | with_reducible refine k_sfld ?_
  | with_reducible refine k_meth ?_
  | ((with_reducible refine' k_mt ?hv ?_); (case hv => walk_at "mt"))
  | with_reducible refine k_make ?_
  | ((with_reducible refine' k_own ?hv ?hw ?_); (case hv => walk_at "is"); (case hw => walk_at "is"))
  | ((with_reducible refine' k_ownin ?hv ?_); (case hv => walk_at "is"))
  | ((with_reducible refine' k_lenO ?hv ?_); (case hv => walk_at "is"))
  | with_reducible refine k_prop ?_
  | ((with_reducible refine' k_pr ?hv ?_); (case hv => walk_at "is"))
  | ((with_reducible refine' k_ownI ?hv ?_); (case hv => walk_at "is"))
  | ((with_reducible refine' k_ownR ?hv ?_); (case hv => walk_at "is"))
  | with_reducible refine k_mx ?_
  | with_reducible refine k_mn ?_
  | with_reducible refine k_lrg ?_
  | with_reducible refine k_rgt ?_
  | with_reducible refine k_rgti ?_
  | with_reducible refine k_bm ?_
  | with_reducible refine k_bm0 ?_
  | with_reducible refine k_tys ?_
  | ((with_reducible refine' k_tyl ?hv ?_); (case hv => walk_at "sl"))
  | ((with_reducible refine' k_ext ?hv ?hw ?hn ?_); (case hv => walk_at "gt"); (case hw => walk_at "gt"); (case hn => walk_at "ln"))
  | ((with_reducible refine' k_app ?hv ?hn ?_); (case hv => walk_at "gt"); (case hn => walk_at "ln"))
  | ((with_reducible refine' k_popat ?hv ?hn ?hw ?_); (case hv => walk_at "gt"); (case hn => with_reducible assumption); (case hw => walk_at "ln"))
  | with_reducible refine k_lc ?_
  | with_reducible refine k_yes0 ?_
  | ((with_reducible show wipe _ _ = wipe _ _ ∧ _); refine ⟨rfl, ?_⟩)
  | ((with_reducible refine' k_adds ?hv ?_); (case hv => walk_at "ln"))
  | ((with_reducible refine' k_st1 ?hv ?_); (case hv => walk_at "gt"))
  | ((with_reducible refine' k_st2 ?hv ?_); (case hv => walk_at "gt"))
  | ((with_reducible refine' k_st3 ?hv ?_); (case hv => walk_at "gt"))
  | ((with_reducible refine' k_setl ?hv ?hn ?_); (case hv => walk_at "gt"); (case hn => rfl)))
local macro_rules | `(tactic| walk_at "put") => `(tactic| ((refine' ⟨_, ?ha, sz ?hb, ?_⟩); (case ha => walk_at "gt"); (case hb => walk_at "ln")))
local macro_rules | `(tactic| walk_at "go") => `(tactic| repeat (walk_at "s1"))
local macro_rules | `(tactic| walk_at "dv") => `(tactic| first | exact rfl | with_reducible assumption)
local macro_rules | `(tactic| walk_at "dt") => `(tactic| first | with_reducible assumption | with_reducible exact .int | with_reducible exact .str | with_reducible exact .bl | with_reducible exact .non | with_reducible exact .lst | with_reducible exact .tup | with_reducible exact .dk | ((with_reducible refine' TyD.ins ?hc); (case hc => with_reducible assumption)))
local macro_rules | `(tactic| walk_at "dm") => `(tactic| first | exact trivial | exact List.mem_cons_self | exact List.mem_cons_of_mem _ List.mem_cons_self | exact List.mem_cons_of_mem _ (List.mem_cons_of_mem _ List.mem_cons_self))
local macro_rules | `(tactic| walk_at "dy") => `(tactic| first | exact Or.inl rfl | exact Or.inr rfl)
local macro_rules | `(tactic| walk_at "xExD") => `(tactic| first
  | ((with_reducible refine' ex_re ?hX ?_); (case hX => assumption))
  | ((with_reducible refine' ex_re2 ?hX ?_); (case hX => assumption))
  | ((with_reducible refine' ex_rz ?hX ?_); (case hX => assumption)))
local macro_rules | `(tactic| walk_at "xOpD") => `(tactic| first
  | ((with_reducible refine' od_ownX ?hX ?_); (case hX => assumption))
  | ((with_reducible refine' od_ownIX ?hX ?_); (case hX => assumption)))
local macro_rules | `(tactic| walk_at "xEvD") => `(tactic| first
  | ((with_reducible refine' ev_callT ?hX ?_); (case hX => assumption))
  | ((with_reducible refine' ev_callX ?hX ?_); (case hX => assumption))
  | ((with_reducible refine' ev_methX ?hX ?_); (case hX => assumption))
  | ((with_reducible refine' ev_makeX ?hX ?_); (case hX => assumption))
  | ((with_reducible refine' ev_kwX ?hX ?_); (case hX => assumption))
  | ((with_reducible refine' ev_mkKwX ?hX ?_); (case hX => assumption)))
local macro_rules | `(tactic| walk_at "gEvD") => `(tactic| first
  | ((with_reducible refine' ev_var ?hv ?_); (case hv => exact rfl))
  | ((with_reducible refine' ev_varO ?hv ?_); (case hv => exact rfl))
  | with_reducible refine ev_ci ?_
  | with_reducible refine ev_cs ?_
  | with_reducible refine ev_cb ?_
  | with_reducible refine ev_cn ?_
  | ((with_reducible refine' ev_kt ?h ?_); (case h => with_reducible assumption))
  | with_reducible refine ev_cr ?_
  | with_reducible refine ev_ct ?_
  | with_reducible refine ev_new (evN_op (r := rCat) ?_)
  | with_reducible refine ev_new (evN_op (r := rRep) ?_)
  | ((with_reducible refine' ev_ixO ?hv ?_); (case hv => exact rfl))
  | with_reducible refine ev_op ?_
  | with_reducible refine ev_un ?_
  | with_reducible refine ev_isi2 ?_
  | with_reducible refine ev_isi4 ?_
  | ((with_reducible refine' ev_new (evN_listO ?hv ?_)); (case hv => exact rfl))
  | with_reducible refine ev_new (evN_cb1 (f := rListOf _) ?_)
  | ((with_reducible refine' ev_lenO ?hv ?_); (case hv => exact rfl))
  | with_reducible refine ev_cb1 ?_
  | with_reducible refine ev_lst ?_
  | with_reducible refine ev_dnew ?_
  | with_reducible refine ev_tup ?_
  | with_reducible refine ev_if ?_
  | with_reducible refine ev_and ?_
  | with_reducible refine ev_or ?_
  | with_reducible refine ev_not ?_
  | with_reducible refine ev_chain ?_
  | ((with_reducible refine' ev_new (evN_lcO ?hv ?_)); (case hv => exact rfl))
  | with_reducible refine ev_new (evN_lc ?_)
  | with_reducible refine ev_new (evN_sl ?_)
  | with_reducible refine ev_slT ?_
  | ((with_reducible refine' ev_fldS (n := 0) ?hv ?hc ?hn ?h1 ?h2 ?_); (case hv => exact rfl); (case hc => with_reducible assumption); (case hn => with_reducible assumption); (case h1 => decide +kernel); (case h2 => exact rfl))
  | ((with_reducible refine' ev_fldS (n := 1) ?hv ?hc ?hn ?h1 ?h2 ?_); (case hv => exact rfl); (case hc => with_reducible assumption); (case hn => with_reducible assumption); (case h1 => decide +kernel); (case h2 => exact rfl))
  | ((with_reducible refine' ev_fldS (n := 2) ?hv ?hc ?hn ?h1 ?h2 ?_); (case hv => exact rfl); (case hc => with_reducible assumption); (case hn => with_reducible assumption); (case h1 => decide +kernel); (case h2 => exact rfl))
  | ((with_reducible refine' ev_fldS (n := 3) ?hv ?hc ?hn ?h1 ?h2 ?_); (case hv => exact rfl); (case hc => with_reducible assumption); (case hn => with_reducible assumption); (case h1 => decide +kernel); (case h2 => exact rfl))
  | with_reducible refine ev_fld ?_
  | with_reducible refine ev_call ?_
  | with_reducible refine ev_kw ?_
  | with_reducible refine ev_mkKw ?_
  | with_reducible refine ev_meth ?_
  | with_reducible refine ev_prop ?_
  | with_reducible refine ev_make ?_)
local macro_rules | `(tactic| walk_at "gOpD") => `(tactic| first
  | with_reducible refine od_int ?_
  | with_reducible refine od_bl ?_
  | ((with_reducible refine' od_I ?hv ?_); (case hv => walk_at "ic"))
  | with_reducible refine od_ip ?_
  | with_reducible refine od_eqI ?_
  | with_reducible refine od_neI ?_
  | with_reducible refine od_eqS ?_
  | with_reducible refine od_neS ?_
  | with_reducible refine od_eqB ?_
  | with_reducible refine od_neB ?_
  | with_reducible refine od_isbl ?_
  | ((with_reducible refine' od_ixl ?hv ?_); (case hv => walk_at "dv"))
  | ((with_reducible refine' od_ixt ?hv ?_); (case hv => walk_at "dv"))
  | ((with_reducible refine' od_ixL ?hv ?_); (case hv => walk_at "dv"))
  | ((with_reducible refine' od_ixT ?hv ?_); (case hv => walk_at "dv"))
  | ((with_reducible refine' od_inN ?hv ?_); (case hv => walk_at "dy"))
  | ((with_reducible refine' od_inI ?hv ?_); (case hv => walk_at "dy"))
  | ((with_reducible refine' od_inS ?hv ?_); (case hv => walk_at "dy"))
  | with_reducible refine od_sign ?_
  | ((with_reducible refine' od_adds ?hv ?_); (case hv => walk_at "ln"))
  | with_reducible refine od_own ?_
  | with_reducible refine od_ownI ?_
  | with_reducible refine od_ownR ?_
  | with_reducible refine od_ownin ?_)
local macro_rules | `(tactic| walk_at "gExD") => `(tactic| first
  | with_reducible refine ex_seq ?_
  | ((with_reducible refine' ex_new (te := tLst tNil) ?hi ?_); (case hi => exact Nat.le_of_ble_eq_true rfl))
  | ((with_reducible refine' ex_newO ?hi ?_); (case hi => exact Nat.le_of_ble_eq_true rfl))
  | with_reducible refine ex_set ?_
  | with_reducible refine ex_asg ?_
  | ((with_reducible refine' ex_par ?hi ?_); (case hi => decide))
  | with_reducible refine ex_par3 ?_
  | ((with_reducible refine' ex_retO ?hv ?_); (case hv => exact rfl))
  | with_reducible refine ex_ret ?_
  | with_reducible refine ex_retN ?_
  | with_reducible refine ex_next ?_
  | with_reducible refine ex_break ?_
  | with_reducible refine ex_cont ?_
  | with_reducible refine ex_ifB ?_
  | ((with_reducible refine' ex_aug ?hv ?_); (case hv => exact rfl))
  | ((with_reducible refine' ex_app ?hv ?hl ?_); (case hv => exact rfl); (case hl => walk_at "ln"))
  | ((with_reducible refine' ex_insO ?hv ?hl ?_); (case hv => exact rfl); (case hl => walk_at "ln"))
  | ((with_reducible refine' ex_fld ?hv ?hc ?hn ?hl ?_); (case hv => exact rfl); (case hc => with_reducible assumption); (case hn => with_reducible assumption); (case hl => exact Nat.le_of_ble_eq_true rfl))
  | ((with_reducible refine' ex_extO ?hv ?_); (case hv => exact rfl))
  | ((with_reducible refine' ex_clrO ?hv ?_); (case hv => exact rfl))
  | with_reducible refine ex_drop ?_
  | with_reducible refine ex_for ?_)
local macro_rules | `(tactic| walk_at "gEvT") => `(tactic| first
  | with_reducible refine et_test ?_
  | with_reducible refine et_B ?_
  | with_reducible refine et_and ?_
  | with_reducible refine et_or ?_
  | with_reducible refine et_not ?_
  | with_reducible refine et_yes ?_)
local macro_rules | `(tactic| walk_at "gite") => `(tactic| first
  | with_reducible refine iteT ?_
  | with_reducible refine iteF ?_
  | with_reducible refine iteNT ?_
  | with_reducible refine iteNF ?_)
local macro_rules | `(tactic| walk_at "gUnD") => `(tactic| first
  | with_reducible refine ud_U ?_
  | ((with_reducible refine' fW_name ?hT ?_); (case hT => assumption))
  | ((with_reducible refine' fW_rows ?hT ?_); (case hT => assumption))
  | ((with_reducible refine' fE_work ?hT ?_); (case hT => assumption))
  | ((with_reducible refine' fE_nums ?hT ?_); (case hT => assumption))
  | ((with_reducible refine' fP_edition ?hT ?_); (case hT => assumption))
  | ((with_reducible refine' fP_count ?hT ?_); (case hT => assumption))
  | ((with_reducible refine' fK_work ?hT ?_); (case hT => assumption))
  | ((with_reducible refine' fK_rows ?hT ?_); (case hT => assumption))
  | ((with_reducible refine' fK_told ?hT ?_); (case hT => assumption))
  | ((with_reducible refine' fS_rule ?hT ?_); (case hT => assumption))
  | ((with_reducible refine' fS_tables ?hT ?_); (case hT => assumption))
  | ((with_reducible refine' fS_spots ?hT ?_); (case hT => assumption))
  | ((with_reducible refine' fS_held ?hT ?_); (case hT => assumption))
  | ((with_reducible refine' fS_stamps ?hT ?_); (case hT => assumption))
  | ((with_reducible refine' fS_row ?hT ?_); (case hT => assumption))
  | ((with_reducible refine' fS_top ?hT ?_); (case hT => assumption))
  | ((with_reducible refine' fS_come ?hT ?_); (case hT => assumption))
  | ((with_reducible refine' fR_parts ?hT ?_); (case hT => assumption))
  | ((with_reducible refine' fR_way ?hT ?_); (case hT => assumption)))
local macro_rules | `(tactic| walk_at "gCbD") => `(tactic| first
  | ((with_reducible refine' cd_isi ?ht ?hk ?_); (case ht => walk_at "dt"); (case hk => walk_at "kb"))
  | ((with_reducible refine' cd_isiO ?ht ?hk ?_); (case ht => walk_at "dt"); (case hk => first | with_reducible assumption | exact kit_same))
  | ((with_reducible refine' cd_lens ?hv ?_); (case hv => walk_at "ln"))
  | with_reducible refine cd_len ?_
  | with_reducible refine cd_all ?_
  | with_reducible refine cd_any ?_
  | with_reducible refine cd_int ?_
  | with_reducible refine cd_intb ?_
  | with_reducible refine cd_mx ?_
  | with_reducible refine cd_mn ?_
  | with_reducible refine cd_tuple ?_
  | with_reducible refine cd_lenO ?_)
local macro_rules | `(tactic| walk_at "gEvI") => `(tactic| first
  | with_reducible refine ei_seq ?_
  | with_reducible refine ei_str ?_
  | with_reducible refine ei_rg1 ?_
  | with_reducible refine ei_rg2 ?_
  | with_reducible refine ei_enum ?_
  | with_reducible refine ei_zip ?_
  | with_reducible refine ei_zipA ?_
  | with_reducible refine ei_zipB ?_
  | with_reducible refine ei_zipB3 ?_)
local macro_rules | `(tactic| walk_at "gEvN") => `(tactic| first
  | ((with_reducible refine' evN_listO ?hv ?_); (case hv => exact rfl))
  | ((with_reducible refine' evN_lcO ?hv ?_); (case hv => exact rfl))
  | with_reducible refine evN_lc ?_
  | with_reducible refine evN_sl ?_
  | with_reducible refine evN_op ?_
  | with_reducible refine evN_cb1 ?_
  | with_reducible refine evN_lst ?_)
local macro_rules | `(tactic| walk_at "d1") => `(tactic| first
  | ((with_reducible show EvD _ _ _ _ _); walk_at "gEvD")
  | ((with_reducible show OpD _ _ _ _ _ _); walk_at "gOpD")
  | with_reducible refine ev_nil ?_
  | with_reducible refine ev_cons ?_
  | ((with_reducible show ExD _ _ _ _ _); walk_at "gExD")
  | ((with_reducible show EvT _ _ _ _ _); walk_at "gEvT")
  | with_reducible refine isB_mk ?_
  | walk_at "gite"
  | ((with_reducible show UnD _ _ _ _ _); walk_at "gUnD")
  | ((with_reducible show CbD _ _ _ _ _); walk_at "gCbD")
  | ((with_reducible refine' tg_name ?hi ?_); (case hi => walk_at "dm"))
  | ((with_reducible refine' tg_tup ?hi ?_); (case hi => exact rfl))
  | ((with_reducible refine' tg_unl ?hi ?_); (case hi => exact rfl))
  | with_reducible refine tg_cons ?_
  | with_reducible refine tg_nil ?_
  | ((with_reducible show EvI _ _ _ _ _); walk_at "gEvI")
  | ((with_reducible refine' few_mk ?hl ?_); (case hl => exact Nat.le_of_ble_eq_true rfl))
  | ((with_reducible show EvN _ _ _ _ _); walk_at "gEvN")
  | ((with_reducible refine' on_cat ?hv ?_); (case hv => walk_at "ln"))
  | ((with_reducible refine' on_rep ?hv ?hw ?_); (case hv => walk_at "ln"); (case hw => walk_at "ln"))
  | with_reducible refine cn_list ?_
  | with_reducible refine eo_no ?_
  | with_reducible refine eo_part ?_
  | with_reducible refine seq_l ?_
  | with_reducible refine seq_t ?_
  | with_reducible refine ⟨insD_mk (by decide +kernel), ?_⟩)
local macro_rules | `(tactic| walk_at "dx") => `(tactic| first
  | ((with_reducible show EvD _ _ _ _ _); walk_at "xEvD")
  | ((with_reducible show OpD _ _ _ _ _ _); walk_at "xOpD")
  | ((with_reducible show ExD _ _ _ _ _); walk_at "xExD"))
local macro_rules | `(tactic| walk_at "dX") => `(tactic| repeat (first | walk_at "d1" | walk_at "dx"))
local macro_rules | `(tactic| walk_at "dg") => `(tactic| repeat (walk_at "d1"))
local macro_rules | `(tactic| walk_at "d1") => `(tactic| first
  | ((with_reducible refine' ev_vspots ?hv ?_); (case hv => exact rfl))
  | ((with_reducible refine' ev_vmarks ?hv ?_); (case hv => exact rfl))
  | ((with_reducible refine' ev_vstamps ?hv ?_); (case hv => exact rfl))
  | ((with_reducible refine' ev_vrow ?hv ?_); (case hv => exact rfl))
  | ((with_reducible refine' ev_vtop ?hv ?_); (case hv => exact rfl))
  | ((with_reducible refine' ev_vseen ?hv ?_); (case hv => exact rfl)))
section
set_option maxRecDepth 100000
set_option maxHeartbeats 2000000

section
variable {P : Program} {w : World} {K : PySem.W.Frag} {mg : Str → Option Value} {base : Heap} {Z : Cs} {Ys zA : Addr} {Yr : Ra}
end
end
/-! A drawn history, played. -/
end Lf
namespace Lf
open PySem PySem.Spec PyProof.Rows L2
local macro_rules | `(tactic| walk_at "nq") => `(tactic| first | with_reducible assumption | with_reducible exact Ne.symm (by assumption) | with_reducible exact ne_of_none (by assumption) (by assumption) | with_reducible exact Ne.symm (ne_of_none (by assumption) (by assumption)))
local macro_rules | `(tactic| walk_at "gt") => `(tactic| first | with_reducible assumption | with_reducible exact upd_same | ((with_reducible refine' upd_new ?ha ?hb); (case hb => with_reducible assumption); (case ha => walk_at "gt")) | ((with_reducible refine' upd_old ?ha ?hb); (case hb => walk_at "nq"); (case ha => walk_at "gt")) | ((with_reducible refine' sm_get ?hb ?ha); (case hb => with_reducible assumption); (case ha => walk_at "gt")) | ((with_reducible refine' fr_get ?hb ?ha ?hc); (case hb => with_reducible assumption); (case hc => walk_at "nq"); (case ha => walk_at "gt")))
local macro_rules | `(tactic| walk_at "sl") => `(tactic| first | with_reducible assumption | ((with_reducible refine' sl_of ?ha); (case ha => walk_at "gt")) | ((with_reducible refine' sl_new ?ha ?hb); (case hb => with_reducible assumption); (case ha => walk_at "sl")) | ((with_reducible refine' sl_sm ?hb ?ha); (case hb => with_reducible assumption); (case ha => walk_at "sl")) | ((with_reducible refine' sl_fr ?hb ?hc ?ha); (case hb => with_reducible assumption); (case hc => walk_at "nq"); (case ha => walk_at "sl")))
local macro_rules | `(tactic| walk_at "st") => `(tactic| first | with_reducible assumption | ((with_reducible refine' st_of ?ha); (case ha => walk_at "gt")) | ((with_reducible refine' st_new ?ha ?hb); (case hb => with_reducible assumption); (case ha => walk_at "st")) | ((with_reducible refine' st_sm ?hb ?ha); (case hb => with_reducible assumption); (case ha => walk_at "st")) | ((with_reducible refine' st_fr ?hb ?hc ?ha); (case hb => with_reducible assumption); (case hc => walk_at "nq"); (case ha => walk_at "st")))
local macro_rules | `(tactic| walk_at "sa") => `(tactic| first | with_reducible assumption | ((with_reducible refine' sa_l ?ha); (case ha => walk_at "gt")) | ((with_reducible refine' sa_t ?ha); (case ha => walk_at "gt")) | ((with_reducible refine' sa_new ?ha ?hb); (case hb => with_reducible assumption); (case ha => walk_at "sa")) | ((with_reducible refine' sa_sm ?hb ?ha); (case hb => with_reducible assumption); (case ha => walk_at "sa")) | ((with_reducible refine' sa_fr ?hb ?hc ?ha); (case hb => with_reducible assumption); (case hc => walk_at "nq"); (case ha => walk_at "sa")) | ((with_reducible refine' Or.inl ?ha); (case ha => walk_at "sl")) | ((with_reducible refine' Or.inr ?ha); (case ha => walk_at "st")))
local macro_rules | `(tactic| walk_at "ln") => `(tactic| first | decide | omega | exact Nat.le_of_ble_eq_true rfl | (simp only [List.length_append, List.length_map, List.length_cons, List.length_nil, List.length_flatMap]; omega))
local macro_rules | `(tactic| walk_at "ty") => `(tactic| first | with_reducible assumption | with_reducible exact .base (.int _) | with_reducible exact .base (.str _) | with_reducible exact .base (.bl _) | with_reducible exact .base .non | ((with_reducible refine' TyX.base (TyOf.lst ?ha)); (case ha => walk_at "gt")) | ((with_reducible refine' TyX.base (TyOf.tup ?ha)); (case ha => walk_at "gt")) | ((with_reducible refine' TyX.base (TyOf.dK ?ha)); (case ha => walk_at "gt")) | ((with_reducible refine' ty_new ?ha ?hb); (case hb => with_reducible assumption); (case ha => walk_at "ty")) | ((with_reducible refine' ty_sm ?hb ?ha); (case hb => with_reducible assumption); (case ha => walk_at "ty")))
local macro_rules | `(tactic| walk_at "kb") => `(tactic| first | with_reducible assumption | exact kb_str_str | exact kb_int_str | exact kb_list_str | exact kb_tuple_str | exact kb_bool_str | exact kb_NoneType_str | exact kb_dict_str | exact kb_str_int | exact kb_int_int | exact kb_list_int | exact kb_tuple_int | exact kb_bool_int | exact kb_NoneType_int | exact kb_dict_int | exact kb_str_bool | exact kb_int_bool | exact kb_list_bool | exact kb_tuple_bool | exact kb_bool_bool | exact kb_NoneType_bool | exact kb_dict_bool | exact kb_str_list | exact kb_int_list | exact kb_list_list | exact kb_tuple_list | exact kb_bool_list | exact kb_NoneType_list | exact kb_dict_list | exact kb_str_tuple | exact kb_int_tuple | exact kb_list_tuple | exact kb_tuple_tuple | exact kb_bool_tuple | exact kb_NoneType_tuple | exact kb_dict_tuple | exact kb_str_dict | exact kb_int_dict | exact kb_list_dict | exact kb_tuple_dict | exact kb_bool_dict | exact kb_NoneType_dict | exact kb_dict_dict)
local macro_rules | `(tactic| walk_at "wk") => `(tactic| first | with_reducible assumption | ((with_reducible refine' WkAt.new ?ha ?hb); (case hb => with_reducible assumption); (case ha => walk_at "wk")) | ((with_reducible refine' WkAt.sm ?hb ?ha); (case hb => with_reducible assumption); (case ha => walk_at "wk")) | ((with_reducible refine' WkAt.dr ?hb ?hc ?ha); (case hb => with_reducible assumption); (case hc => with_reducible assumption); (case ha => walk_at "wk")))
local macro_rules | `(tactic| walk_at "ed") => `(tactic| first | with_reducible assumption | ((with_reducible refine' EdAt.new ?ha ?hb); (case hb => with_reducible assumption); (case ha => walk_at "ed")) | ((with_reducible refine' EdAt.sm ?hb ?ha); (case hb => with_reducible assumption); (case ha => walk_at "ed")) | ((with_reducible refine' EdAt.dr ?hb ?hc ?ha); (case hb => with_reducible assumption); (case hc => with_reducible assumption); (case ha => walk_at "ed")))
local macro_rules | `(tactic| walk_at "pl") => `(tactic| first | with_reducible assumption | ((with_reducible refine' PlAt.new ?ha ?hb); (case hb => with_reducible assumption); (case ha => walk_at "pl")) | ((with_reducible refine' PlAt.sm ?hb ?ha); (case hb => with_reducible assumption); (case ha => walk_at "pl")) | ((with_reducible refine' PlAt.dr ?hb ?hc ?ha); (case hb => with_reducible assumption); (case hc => with_reducible assumption); (case ha => walk_at "pl")))
local macro_rules | `(tactic| walk_at "fl") => `(tactic| first | with_reducible assumption | ((with_reducible refine' WkAt.rows ?hT ?hW); (case hT => assumption); (case hW => walk_at "wk")) | ((with_reducible refine' WkAt.name ?hT ?hW); (case hT => assumption); (case hW => walk_at "wk")) | ((with_reducible refine' EdAt.work ?hT ?hW); (case hT => assumption); (case hW => walk_at "ed")) | ((with_reducible refine' EdAt.nums ?hT ?hW); (case hT => assumption); (case hW => walk_at "ed")) | ((with_reducible refine' PlAt.edition ?hT ?hW); (case hT => assumption); (case hW => walk_at "pl")) | ((with_reducible refine' PlAt.count ?hT ?hW); (case hT => assumption); (case hW => walk_at "pl")))
local macro_rules | `(tactic| walk_at "mt") => `(tactic| first | with_reducible assumption | ((with_reducible refine' WkAt.mt ?hn1 ?hn2 ?hW); (case hW => walk_at "wk"); (case hn1 => decide +kernel); (case hn2 => decide +kernel)) | ((with_reducible refine' EdAt.mt ?hn1 ?hn2 ?hW); (case hW => walk_at "ed"); (case hn1 => decide +kernel); (case hn2 => decide +kernel)) | ((with_reducible refine' PlAt.mt ?hn1 ?hn2 ?hW); (case hW => walk_at "pl"); (case hn1 => decide +kernel); (case hn2 => decide +kernel)))
local macro_rules | `(tactic| walk_at "is") => `(tactic| first | with_reducible assumption | ((with_reducible refine' WkAt.is ?hW); (case hW => walk_at "wk")) | ((with_reducible refine' EdAt.is ?hW); (case hW => walk_at "ed")) | ((with_reducible refine' PlAt.is ?hW); (case hW => walk_at "pl")))
local macro_rules | `(tactic| walk_at "ic") => `(tactic| first
  | ((with_reducible show CMul _ _); first | exact Or.inl ⟨by decide, by decide⟩ | exact Or.inr ⟨by decide, by decide⟩ | exact Or.inl ⟨by omega, by omega⟩ | exact Or.inr ⟨by omega, by omega⟩)
  | ((with_reducible show CDiv _ _); first | exact ⟨by decide, by decide⟩ | exact ⟨by omega, by omega⟩)
  | ((with_reducible show CPow _ _); first | exact ⟨by decide, by decide, by decide⟩ | exact ⟨by decide, by decide, by omega⟩)
  | (show (0 : Int) < _; first | decide | omega))
local macro_rules | `(tactic| walk_at "s1") => `(tactic| first
  | with_reducible refine k_seq ?_
  | with_reducible refine k_set ?_
  | with_reducible refine k_asg ?_
  | with_reducible refine k_par ?_
  | with_reducible refine k_par2 ?_
  | with_reducible refine k_drop ?_
  | with_reducible refine k_ret ?_
  | with_reducible refine k_next ?_
  | with_reducible refine k_if ?_
  | ((with_reducible refine' k_aug ?hv ?_); (case hv => exact rfl))
  | with_reducible refine k_ipI ?_
  | with_reducible refine k_gname ?_
  | with_reducible refine k_gsub ?_
  | ((with_reducible refine' k_gtup ?hv ?hw ?_); (case hv => walk_at "st"); (case hw => rfl))
  | with_reducible refine k_gcons ?_
  | with_reducible refine k_gnil ?_
  | with_reducible refine k_test ?_
  | with_reducible refine k_B ?_
  | with_reducible refine k_blE ?_
  | with_reducible refine k_and ?_
  | with_reducible refine k_or ?_
  | with_reducible refine k_not ?_
  | with_reducible refine iteT ?_
  | with_reducible refine iteF ?_
  | with_reducible refine iteNT ?_
  | with_reducible refine iteNF ?_
  | ((with_reducible refine' k_var ?hv ?_); (case hv => exact rfl))
  | with_reducible refine k_c ?_
  | with_reducible refine k_op ?_
  | with_reducible refine k_un ?_
  | with_reducible refine k_U ?_
  | with_reducible refine k_I0 ?_
  | ((with_reducible refine' k_I ?hv ?_); (case hv => walk_at "ic"))
  | with_reducible refine k_eqI ?_
  | with_reducible refine k_neI ?_
  | with_reducible refine k_eqS ?_
  | with_reducible refine k_neS ?_
  | with_reducible refine k_eqB ?_
  | with_reducible refine k_neB ?_
  | with_reducible refine k_for ?_
  | with_reducible refine k_iE ?_
  | with_reducible refine k_iA ?_
  | ((with_reducible refine' k_itl ?hv ?_); (case hv => walk_at "sl"))
  | ((with_reducible refine' k_itt ?hv ?_); (case hv => walk_at "st"))
  | with_reducible refine k_its ?_
  | ((with_reducible refine' k_rg1n ?hv ?_); (case hv => first | decide | omega))
  | ((with_reducible refine' k_rg1 ?hv ?hw ?_); (case hv => first | decide | omega); (case hw => first | decide | omega))
  | ((with_reducible refine' k_inS ?hv ?_); (case hv => walk_at "sa"))
  | ((with_reducible refine' k_inI ?hv ?_); (case hv => walk_at "sa"))
  | ((with_reducible refine' k_ninS ?hv ?_); (case hv => walk_at "sa"))
  | ((with_reducible refine' k_ninI ?hv ?_); (case hv => walk_at "sa"))
  | ((with_reducible refine' k_zipl ?hv ?hw ?_); (case hv => walk_at "sl"); (case hw => walk_at "sl"))
  | with_reducible refine k_nil ?_
  | with_reducible refine k_cons ?_
  | with_reducible refine k_cb ?_
  | with_reducible refine k_call ?_
  | with_reducible refine k_lst ?_
  | with_reducible refine k_tup ?_
  | with_reducible refine k_ifx ?_
  | with_reducible refine k_andv ?_
  | with_reducible refine k_orv ?_
  | with_reducible refine k_notv ?_
  | with_reducible refine k_inti ?_
  | with_reducible refine k_intb ?_
  | with_reducible refine k_sl ?_
  | with_reducible refine k_nopart ?_
  | with_reducible refine k_part ?_
  | with_reducible refine k_parti ?_
  | ((with_reducible refine' k_lenl ?hv ?_); (case hv => walk_at "sl"))
  | ((with_reducible refine' k_lent ?hv ?_); (case hv => walk_at "st"))
  | ((with_reducible refine' k_lens ?hv ?_); (case hv => exact szl (by walk_at "ln")))
  | ((with_reducible refine' k_lena ?hv ?_); (case hv => walk_at "sa"))
  | ((with_reducible refine' k_ixl ?hv ?hn ?_); (case hv => walk_at "sl"); (case hn => first | rfl | assumption))
  | ((with_reducible refine' k_ixt ?hv ?hn ?_); (case hv => walk_at "st"); (case hn => first | rfl | assumption))
  | ((with_reducible refine' k_ixa ?hv ?hn ?_); (case hv => walk_at "sa"); (case hn => first | rfl | assumption))
  | with_reducible refine k_chain ?_
  | ((with_reducible refine' k_isi ?hv ?hw ?_); (case hv => walk_at "ty"); (case hw => walk_at "kb"))
  | ((with_reducible refine' k_isi2 ?hb ?hp ?hv ?hw ?hx ?_); (case hp => walk_at "gt"); (case hv => walk_at "ty"); (case hw => walk_at "kb"); (case hx => walk_at "kb"); (case hb => first | exact or_t | exact or_f))
  | ((with_reducible refine' k_all ?hv ?_); (case hv => walk_at "gt"))
  | ((with_reducible refine' k_any ?hv ?_); (case hv => walk_at "gt"))
  | with_reducible refine k_insign ?_
  | with_reducible refine k_fldR ?_
  | ((with_reducible refine' k_fl ?hv ?_); (case hv => walk_at "fl"))
  | with_reducible refine k_sfld ?_
  | with_reducible refine k_meth ?_
  | ((with_reducible refine' k_mt ?hv ?_); (case hv => walk_at "mt"))
  | with_reducible refine k_make ?_
  | ((with_reducible refine' k_own ?hv ?hw ?_); (case hv => walk_at "is"); (case hw => walk_at "is"))
  | ((with_reducible refine' k_ownin ?hv ?_); (case hv => walk_at "is"))
  | ((with_reducible refine' k_lenO ?hv ?_); (case hv => walk_at "is"))
  | with_reducible refine k_prop ?_
  | ((with_reducible refine' k_pr ?hv ?_); (case hv => walk_at "is"))
  | ((with_reducible refine' k_ownI ?hv ?_); (case hv => walk_at "is"))
  | ((with_reducible refine' k_ownR ?hv ?_); (case hv => walk_at "is"))
  | with_reducible refine k_mx ?_
  | with_reducible refine k_mn ?_
  | with_reducible refine k_lrg ?_
  | with_reducible refine k_rgt ?_
  | with_reducible refine k_rgti ?_
  | with_reducible refine k_bm ?_
  | with_reducible refine k_bm0 ?_
  | with_reducible refine k_tys ?_
  | ((with_reducible refine' k_tyl ?hv ?_); (case hv => walk_at "sl"))
  | ((with_reducible refine' k_ext ?hv ?hw ?hn ?_); (case hv => walk_at "gt"); (case hw => walk_at "gt"); (case hn => walk_at "ln"))
  | ((with_reducible refine' k_app ?hv ?hn ?_); (case hv => walk_at "gt"); (case hn => walk_at "ln"))
  | ((with_reducible refine' k_popat ?hv ?hn ?hw ?_); (case hv => walk_at "gt"); (case hn => with_reducible assumption); (case hw => walk_at "ln"))
  | with_reducible refine k_lc ?_
  | with_reducible refine k_yes0 ?_
  | ((with_reducible show wipe _ _ = wipe _ _ ∧ _); refine ⟨rfl, ?_⟩)
  | ((with_reducible refine' k_adds ?hv ?_); (case hv => walk_at "ln"))
  | ((with_reducible refine' k_st1 ?hv ?_); (case hv => walk_at "gt"))
  | ((with_reducible refine' k_st2 ?hv ?_); (case hv => walk_at "gt"))
  | ((with_reducible refine' k_st3 ?hv ?_); (case hv => walk_at "gt"))
  | ((with_reducible refine' k_setl ?hv ?hn ?_); (case hv => walk_at "gt"); (case hn => rfl)))
local macro_rules | `(tactic| walk_at "put") => `(tactic| ((refine' ⟨_, ?ha, sz ?hb, ?_⟩); (case ha => walk_at "gt"); (case hb => walk_at "ln")))
local macro_rules | `(tactic| walk_at "go") => `(tactic| repeat (walk_at "s1"))
local macro_rules | `(tactic| walk_at "dv") => `(tactic| first | exact rfl | with_reducible assumption)
local macro_rules | `(tactic| walk_at "dt") => `(tactic| first | with_reducible assumption | with_reducible exact .int | with_reducible exact .str | with_reducible exact .bl | with_reducible exact .non | with_reducible exact .lst | with_reducible exact .tup | with_reducible exact .dk | ((with_reducible refine' TyD.ins ?hc); (case hc => with_reducible assumption)))
local macro_rules | `(tactic| walk_at "dm") => `(tactic| first | exact trivial | exact List.mem_cons_self | exact List.mem_cons_of_mem _ List.mem_cons_self | exact List.mem_cons_of_mem _ (List.mem_cons_of_mem _ List.mem_cons_self))
local macro_rules | `(tactic| walk_at "dy") => `(tactic| first | exact Or.inl rfl | exact Or.inr rfl)
local macro_rules | `(tactic| walk_at "xExD") => `(tactic| first
  | ((with_reducible refine' ex_re ?hX ?_); (case hX => assumption))
  | ((with_reducible refine' ex_re2 ?hX ?_); (case hX => assumption))
  | ((with_reducible refine' ex_rz ?hX ?_); (case hX => assumption)))
local macro_rules | `(tactic| walk_at "xOpD") => `(tactic| first
  | ((with_reducible refine' od_ownX ?hX ?_); (case hX => assumption))
  | ((with_reducible refine' od_ownIX ?hX ?_); (case hX => assumption)))
local macro_rules | `(tactic| walk_at "xEvD") => `(tactic| first
  | ((with_reducible refine' ev_callT ?hX ?_); (case hX => assumption))
  | ((with_reducible refine' ev_callX ?hX ?_); (case hX => assumption))
  | ((with_reducible refine' ev_methX ?hX ?_); (case hX => assumption))
  | ((with_reducible refine' ev_makeX ?hX ?_); (case hX => assumption))
  | ((with_reducible refine' ev_kwX ?hX ?_); (case hX => assumption))
  | ((with_reducible refine' ev_mkKwX ?hX ?_); (case hX => assumption)))
local macro_rules | `(tactic| walk_at "gEvD") => `(tactic| first
  | ((with_reducible refine' ev_var ?hv ?_); (case hv => exact rfl))
  | ((with_reducible refine' ev_varO ?hv ?_); (case hv => exact rfl))
  | with_reducible refine ev_ci ?_
  | with_reducible refine ev_cs ?_
  | with_reducible refine ev_cb ?_
  | with_reducible refine ev_cn ?_
  | ((with_reducible refine' ev_kt ?h ?_); (case h => with_reducible assumption))
  | with_reducible refine ev_cr ?_
  | with_reducible refine ev_ct ?_
  | with_reducible refine ev_new (evN_op (r := rCat) ?_)
  | with_reducible refine ev_new (evN_op (r := rRep) ?_)
  | ((with_reducible refine' ev_ixO ?hv ?_); (case hv => exact rfl))
  | with_reducible refine ev_op ?_
  | with_reducible refine ev_un ?_
  | with_reducible refine ev_isi2 ?_
  | with_reducible refine ev_isi4 ?_
  | ((with_reducible refine' ev_new (evN_listO ?hv ?_)); (case hv => exact rfl))
  | with_reducible refine ev_new (evN_cb1 (f := rListOf _) ?_)
  | ((with_reducible refine' ev_lenO ?hv ?_); (case hv => exact rfl))
  | with_reducible refine ev_cb1 ?_
  | with_reducible refine ev_lst ?_
  | with_reducible refine ev_dnew ?_
  | with_reducible refine ev_tup ?_
  | with_reducible refine ev_if ?_
  | with_reducible refine ev_and ?_
  | with_reducible refine ev_or ?_
  | with_reducible refine ev_not ?_
  | with_reducible refine ev_chain ?_
  | ((with_reducible refine' ev_new (evN_lcO ?hv ?_)); (case hv => exact rfl))
  | with_reducible refine ev_new (evN_lc ?_)
  | with_reducible refine ev_new (evN_sl ?_)
  | with_reducible refine ev_slT ?_
  | ((with_reducible refine' ev_fldS (n := 0) ?hv ?hc ?hn ?h1 ?h2 ?_); (case hv => exact rfl); (case hc => with_reducible assumption); (case hn => with_reducible assumption); (case h1 => decide +kernel); (case h2 => exact rfl))
  | ((with_reducible refine' ev_fldS (n := 1) ?hv ?hc ?hn ?h1 ?h2 ?_); (case hv => exact rfl); (case hc => with_reducible assumption); (case hn => with_reducible assumption); (case h1 => decide +kernel); (case h2 => exact rfl))
  | ((with_reducible refine' ev_fldS (n := 2) ?hv ?hc ?hn ?h1 ?h2 ?_); (case hv => exact rfl); (case hc => with_reducible assumption); (case hn => with_reducible assumption); (case h1 => decide +kernel); (case h2 => exact rfl))
  | ((with_reducible refine' ev_fldS (n := 3) ?hv ?hc ?hn ?h1 ?h2 ?_); (case hv => exact rfl); (case hc => with_reducible assumption); (case hn => with_reducible assumption); (case h1 => decide +kernel); (case h2 => exact rfl))
  | with_reducible refine ev_fld ?_
  | with_reducible refine ev_call ?_
  | with_reducible refine ev_kw ?_
  | with_reducible refine ev_mkKw ?_
  | with_reducible refine ev_meth ?_
  | with_reducible refine ev_prop ?_
  | with_reducible refine ev_make ?_)
local macro_rules | `(tactic| walk_at "gOpD") => `(tactic| first
  | with_reducible refine od_int ?_
  | with_reducible refine od_bl ?_
  | ((with_reducible refine' od_I ?hv ?_); (case hv => walk_at "ic"))
  | with_reducible refine od_ip ?_
  | with_reducible refine od_eqI ?_
  | with_reducible refine od_neI ?_
  | with_reducible refine od_eqS ?_
  | with_reducible refine od_neS ?_
  | with_reducible refine od_eqB ?_
  | with_reducible refine od_neB ?_
  | with_reducible refine od_isbl ?_
  | ((with_reducible refine' od_ixl ?hv ?_); (case hv => walk_at "dv"))
  | ((with_reducible refine' od_ixt ?hv ?_); (case hv => walk_at "dv"))
  | ((with_reducible refine' od_ixL ?hv ?_); (case hv => walk_at "dv"))
  | ((with_reducible refine' od_ixT ?hv ?_); (case hv => walk_at "dv"))
  | ((with_reducible refine' od_inN ?hv ?_); (case hv => walk_at "dy"))
  | ((with_reducible refine' od_inI ?hv ?_); (case hv => walk_at "dy"))
  | ((with_reducible refine' od_inS ?hv ?_); (case hv => walk_at "dy"))
  | with_reducible refine od_sign ?_
  | ((with_reducible refine' od_adds ?hv ?_); (case hv => walk_at "ln"))
  | with_reducible refine od_own ?_
  | with_reducible refine od_ownI ?_
  | with_reducible refine od_ownR ?_
  | with_reducible refine od_ownin ?_)
local macro_rules | `(tactic| walk_at "gExD") => `(tactic| first
  | with_reducible refine ex_seq ?_
  | ((with_reducible refine' ex_new (te := tLst tNil) ?hi ?_); (case hi => exact Nat.le_of_ble_eq_true rfl))
  | ((with_reducible refine' ex_newO ?hi ?_); (case hi => exact Nat.le_of_ble_eq_true rfl))
  | with_reducible refine ex_set ?_
  | with_reducible refine ex_asg ?_
  | ((with_reducible refine' ex_par ?hi ?_); (case hi => decide))
  | with_reducible refine ex_par3 ?_
  | ((with_reducible refine' ex_retO ?hv ?_); (case hv => exact rfl))
  | with_reducible refine ex_ret ?_
  | with_reducible refine ex_retN ?_
  | with_reducible refine ex_next ?_
  | with_reducible refine ex_break ?_
  | with_reducible refine ex_cont ?_
  | with_reducible refine ex_ifB ?_
  | ((with_reducible refine' ex_aug ?hv ?_); (case hv => exact rfl))
  | ((with_reducible refine' ex_app ?hv ?hl ?_); (case hv => exact rfl); (case hl => walk_at "ln"))
  | ((with_reducible refine' ex_insO ?hv ?hl ?_); (case hv => exact rfl); (case hl => walk_at "ln"))
  | ((with_reducible refine' ex_fld ?hv ?hc ?hn ?hl ?_); (case hv => exact rfl); (case hc => with_reducible assumption); (case hn => with_reducible assumption); (case hl => exact Nat.le_of_ble_eq_true rfl))
  | ((with_reducible refine' ex_extO ?hv ?_); (case hv => exact rfl))
  | ((with_reducible refine' ex_clrO ?hv ?_); (case hv => exact rfl))
  | with_reducible refine ex_drop ?_
  | with_reducible refine ex_for ?_)
local macro_rules | `(tactic| walk_at "gEvT") => `(tactic| first
  | with_reducible refine et_test ?_
  | with_reducible refine et_B ?_
  | with_reducible refine et_and ?_
  | with_reducible refine et_or ?_
  | with_reducible refine et_not ?_
  | with_reducible refine et_yes ?_)
local macro_rules | `(tactic| walk_at "gite") => `(tactic| first
  | with_reducible refine iteT ?_
  | with_reducible refine iteF ?_
  | with_reducible refine iteNT ?_
  | with_reducible refine iteNF ?_)
local macro_rules | `(tactic| walk_at "gUnD") => `(tactic| first
  | with_reducible refine ud_U ?_
  | ((with_reducible refine' fW_name ?hT ?_); (case hT => assumption))
  | ((with_reducible refine' fW_rows ?hT ?_); (case hT => assumption))
  | ((with_reducible refine' fE_work ?hT ?_); (case hT => assumption))
  | ((with_reducible refine' fE_nums ?hT ?_); (case hT => assumption))
  | ((with_reducible refine' fP_edition ?hT ?_); (case hT => assumption))
  | ((with_reducible refine' fP_count ?hT ?_); (case hT => assumption))
  | ((with_reducible refine' fK_work ?hT ?_); (case hT => assumption))
  | ((with_reducible refine' fK_rows ?hT ?_); (case hT => assumption))
  | ((with_reducible refine' fK_told ?hT ?_); (case hT => assumption))
  | ((with_reducible refine' fS_rule ?hT ?_); (case hT => assumption))
  | ((with_reducible refine' fS_tables ?hT ?_); (case hT => assumption))
  | ((with_reducible refine' fS_spots ?hT ?_); (case hT => assumption))
  | ((with_reducible refine' fS_held ?hT ?_); (case hT => assumption))
  | ((with_reducible refine' fS_stamps ?hT ?_); (case hT => assumption))
  | ((with_reducible refine' fS_row ?hT ?_); (case hT => assumption))
  | ((with_reducible refine' fS_top ?hT ?_); (case hT => assumption))
  | ((with_reducible refine' fS_come ?hT ?_); (case hT => assumption))
  | ((with_reducible refine' fR_parts ?hT ?_); (case hT => assumption))
  | ((with_reducible refine' fR_way ?hT ?_); (case hT => assumption)))
local macro_rules | `(tactic| walk_at "gCbD") => `(tactic| first
  | ((with_reducible refine' cd_isi ?ht ?hk ?_); (case ht => walk_at "dt"); (case hk => walk_at "kb"))
  | ((with_reducible refine' cd_isiO ?ht ?hk ?_); (case ht => walk_at "dt"); (case hk => first | with_reducible assumption | exact kit_same))
  | ((with_reducible refine' cd_lens ?hv ?_); (case hv => walk_at "ln"))
  | with_reducible refine cd_len ?_
  | with_reducible refine cd_all ?_
  | with_reducible refine cd_any ?_
  | with_reducible refine cd_int ?_
  | with_reducible refine cd_intb ?_
  | with_reducible refine cd_mx ?_
  | with_reducible refine cd_mn ?_
  | with_reducible refine cd_tuple ?_
  | with_reducible refine cd_lenO ?_)
local macro_rules | `(tactic| walk_at "gEvI") => `(tactic| first
  | with_reducible refine ei_seq ?_
  | with_reducible refine ei_str ?_
  | with_reducible refine ei_rg1 ?_
  | with_reducible refine ei_rg2 ?_
  | with_reducible refine ei_enum ?_
  | with_reducible refine ei_zip ?_
  | with_reducible refine ei_zipA ?_
  | with_reducible refine ei_zipB ?_
  | with_reducible refine ei_zipB3 ?_)
local macro_rules | `(tactic| walk_at "gEvN") => `(tactic| first
  | ((with_reducible refine' evN_listO ?hv ?_); (case hv => exact rfl))
  | ((with_reducible refine' evN_lcO ?hv ?_); (case hv => exact rfl))
  | with_reducible refine evN_lc ?_
  | with_reducible refine evN_sl ?_
  | with_reducible refine evN_op ?_
  | with_reducible refine evN_cb1 ?_
  | with_reducible refine evN_lst ?_)
local macro_rules | `(tactic| walk_at "d1") => `(tactic| first
  | ((with_reducible show EvD _ _ _ _ _); walk_at "gEvD")
  | ((with_reducible show OpD _ _ _ _ _ _); walk_at "gOpD")
  | with_reducible refine ev_nil ?_
  | with_reducible refine ev_cons ?_
  | ((with_reducible show ExD _ _ _ _ _); walk_at "gExD")
  | ((with_reducible show EvT _ _ _ _ _); walk_at "gEvT")
  | with_reducible refine isB_mk ?_
  | walk_at "gite"
  | ((with_reducible show UnD _ _ _ _ _); walk_at "gUnD")
  | ((with_reducible show CbD _ _ _ _ _); walk_at "gCbD")
  | ((with_reducible refine' tg_name ?hi ?_); (case hi => walk_at "dm"))
  | ((with_reducible refine' tg_tup ?hi ?_); (case hi => exact rfl))
  | ((with_reducible refine' tg_unl ?hi ?_); (case hi => exact rfl))
  | with_reducible refine tg_cons ?_
  | with_reducible refine tg_nil ?_
  | ((with_reducible show EvI _ _ _ _ _); walk_at "gEvI")
  | ((with_reducible refine' few_mk ?hl ?_); (case hl => exact Nat.le_of_ble_eq_true rfl))
  | ((with_reducible show EvN _ _ _ _ _); walk_at "gEvN")
  | ((with_reducible refine' on_cat ?hv ?_); (case hv => walk_at "ln"))
  | ((with_reducible refine' on_rep ?hv ?hw ?_); (case hv => walk_at "ln"); (case hw => walk_at "ln"))
  | with_reducible refine cn_list ?_
  | with_reducible refine eo_no ?_
  | with_reducible refine eo_part ?_
  | with_reducible refine seq_l ?_
  | with_reducible refine seq_t ?_
  | with_reducible refine ⟨insD_mk (by decide +kernel), ?_⟩)
local macro_rules | `(tactic| walk_at "dx") => `(tactic| first
  | ((with_reducible show EvD _ _ _ _ _); walk_at "xEvD")
  | ((with_reducible show OpD _ _ _ _ _ _); walk_at "xOpD")
  | ((with_reducible show ExD _ _ _ _ _); walk_at "xExD"))
local macro_rules | `(tactic| walk_at "dX") => `(tactic| repeat (first | walk_at "d1" | walk_at "dx"))
local macro_rules | `(tactic| walk_at "dg") => `(tactic| repeat (walk_at "d1"))
section
set_option maxRecDepth 100000
set_option maxHeartbeats 2000000

section
variable {P : Program} {w : World} {K : PySem.W.Frag} {mg : Str → Option Value} {base : Heap} {Z : Cs} {Ys zA : Addr} {Yr : Ra}
end
end
/-! The words of a field, by the law. -/
section
set_option maxRecDepth 100000
set_option maxHeartbeats 2000000

abbrev s_law_parts : Stmt := top 28
theorem sc_law_parts : FnScope ["_law_found"] [] (defScope s_law_parts) := ⟨rfl, rfl, rfl, by decide +kernel, rfl, by decide +kernel, by decide +kernel⟩
section
variable {P : Program} {w : World} {K : PySem.W.Frag} {mg : Str → Option Value} {base : Heap} {Z : Cs} {Ys zA : Addr} {Yr : Ra}
def fParts : FD := fun ds Φ => ds = [] ∧ Φ (.lst (wordsL.map fun us => .tup (dS us)))
theorem okD_parts (B : Bn mg) (Df : Def K mg "_law_parts" s_law_parts) : Cal P w K mg base 1 "_law_parts" [] (spD K fParts) := by
  refine Cal.ofD Df sc_law_parts (fun _ _ _ _ _ _ us hl => match us, hl with | [], _ => rfl) (fun ds Φ h => ?_) (fun fa cdv A outer s H hr => ⟨_, (pss_cons (ps_set (i := 0) sc_law_parts.nd rfl (Or.inl rfl) (pe_lst (pa_cons (pe_tup (pa_cons pe_str (pa_cons pe_str (pa_cons pe_str (pa_cons pe_str pa_nil))))) (pa_cons (pe_tup (pa_cons pe_str (pa_cons pe_str (pa_cons pe_str (pa_cons pe_str pa_nil))))) (pa_cons (pe_tup (pa_cons pe_str (pa_cons pe_str pa_nil))) pa_nil)))))
      (pss_one (ps_ret (pe_op op_cat (pe_op op_cat (pv 0) (pe_op op_rep (pe_lst (pa_cons (pe_tup (pa_cons pe_str (pa_cons pe_str (pa_cons pe_str (pa_cons pe_str pa_nil))))) pa_nil)) pe_int)) (pe_lst (pa_cons (pe_tup (pa_cons pe_str (pa_cons pe_str pa_nil))) pa_nil)))))), fun S ds Φ h => ?_⟩)
  · obtain ⟨rfl, _⟩ := h; rfl
  · obtain ⟨rfl, k⟩ := h
    walk_at "dg"
    refine on_rep (n := 2) (by decide) (by decide) (on_cat (show 3 + 2 < 100000 by decide) ?_)
    walk_at "dg"
    exact k
end
end
/-! Drawn rules, by the law. -/
section
set_option maxRecDepth 100000
set_option maxHeartbeats 2000000
section
variable {K : PySem.W.Frag} {S : Sx} {ρ : List Sl} {O : Oc} {i j : Nat} {ta tb te : TE} {Θ : D → Gh → List Sl → Prop}
/-- a pair of a new list and a value, the list in hand -/
theorem evx_tupN (h : EvN K S ta ρ fun es => EvD K S tb ρ fun y => ∀ a, Θ (.tup [pD a, y]) [(a, .l es)] ρ) : EvX K S (tTup (tCons ta (tCons tb tNil))) ρ Θ := fun F0 H0 σ F H e o ag d0 Q q =>
  h σ F H e ag.ok ag.dr _ fun a us es F1 H1 hb n nF hl dd g1 => by
    have ih : InHand K S F1 H1 H0 σ ρ [(a, .l es)] := ⟨⟨by simp, fun b c hm => by
      cases List.mem_singleton.mp hm
      exact ⟨⟨nF, ag.dr.1.ne n⟩, _, hl, us, rfl, dd⟩⟩, fun b hb => by
      have : b = a := List.mem_singleton.mp hb
      subst this
      exact ag.backN n, fun b hb j s hj x hx z => by
      have : b = a := List.mem_singleton.mp hb
      subst this
      exact e.fresh n j s hj x hx z⟩
    refine hb σ F1 H1 (e.ag g1) g1.ok g1.dr _ fun v y F2 H2 hy dy g2 => ⟨by show 2 ≤ sizeLine; decide, fun p np => ?_⟩
    have nF2 : F2 p = none := g2.ok.free np
    have g3 : Ag S F1 H1 (upd F2 p (.tup [.ref a, v])) (upd H2 p (.tup [.ref a, v])) := g2.newF g1.dr np
    exact q (.ref p) (.tup [pD a, y]) _ ρ _ _ (hy a) ⟨p, [.ref a, v], rfl, st_of upd_same, .ref a, _, rfl, rfl, v, _, rfl, Dat.mono (fun b w z => upd_new z nF2) y dy, rfl⟩ ((e.ag g1).ag g3) o (ih.ag g3) ((ag.trans g1 d0).trans g3 d0)
/-- x, y = e, the cells go to x -/
theorem ex_unpX (h : EvX K S te ρ fun d γ ρ' => ∃ x y, d = .tup [x, y] ∧ O.nx ((ρ'.set i (.obj true x γ)).set j (.val y))) : ExD K S (tAsg te (gTup K 2 (gCons (gName i) (gCons (gName j) gNil)))) ρ O := fun F0 H0 σ F H e o ag d0 E f =>
  h F0 H0 σ F H e o ag d0 _ fun v d γ ρ' F1 H1 ⟨x, y, hd, hO⟩ dd e1 o1 ⟨q1, q2, q3⟩ g1 => by
    subst hd
    obtain ⟨p, us, rfl, hs, u1, _, rfl, d1, u2, _, rfl, d2, rfl⟩ := dd
    refine ⟨p, [u1, u2], rfl, st_sm g1.ok hs, rfl, u1, _, rfl, u2, _, rfl, rfl, ?_⟩
    exact f.nx _ _ F1 H1 hO ((e1.newG (i := i) (s₀ := .obj true x γ) (v := u1) (fun j s x b _ h1 h2 l1 l2 => q3 b l2 j s h1 x h2 l1) ⟨u1, rfl, d1, q1⟩).set d2) ((o1.newG (i := i) (s₀ := .obj true x γ) (v := u1) fun _ b z => q2 b z).set) g1
/-- cells of a slot that are one list: one's own list -/
theorem ex_unptr {t : TS} {a : Addr} {ds : List D} (i : Nat) (h0 : ρ[i]? = some (.obj true (pD a) [(a, .l ds)])) (k : ExD K S t (ρ.set i (.own ds)) O) : ExD K S t ρ O := fun F0 H0 σ F H e o ag d0 E f => by
  obtain ⟨v, h1, h2, h3⟩ := e.obj h0
  cases h2
  have h1' : σ.set i (some (.ref a)) = σ := setL_same h1
  obtain ⟨p, u, e1, us, rfl, e2⟩ := h3.ok a _ (List.mem_singleton.mpr rfl)
  have loc : ∀ b, (Sl.own ds).loc (some (.ref a)) b → (Sl.obj true (pD a) [(a, .l ds)]).loc (some (.ref a)) b := fun b z => by
    cases z
    exact List.mem_cons_self
  have en := EnvOk.newG (i := i) (s₀ := .own ds) (v := .ref a) e (fun j s x b n h4 h5 l1 l2 => e.sep i j _ s _ x b (Ne.symm n) h0 h4 rfl h1 h5 (loc b l2) l1) ⟨a, us, rfl, p, e1, e2⟩
  have on := OwnNew.newG (i := i) (s₀ := .own ds) (v := .ref a) o (fun _ b z => o i _ _ b h0 rfl h1 (loc b z))
  rw [h1'] at en on
  exact k F0 H0 σ F H en on ag d0 E f
end
end
section
set_option maxRecDepth 100000
set_option maxHeartbeats 2000000

abbrev s_law_field : Stmt := top 29
theorem sc_law_field : FnScope ["_law_state", "_law_called", "_law_some"] ["_law_state", "_law_called"] (defScope s_law_field) := ⟨rfl, rfl, rfl, by decide +kernel, rfl, by decide +kernel, by decide +kernel⟩
abbrev s_law_rule : Stmt := top 30
theorem sc_law_rule : FnScope ["_law_state", "_law_names", "_law_shown", "_law_called"] ["_law_state"] (defScope s_law_rule) := ⟨rfl, rfl, rfl, by decide +kernel, rfl, by decide +kernel, by decide +kernel⟩
/-- the words of a field, in order -/
def WrdL (us : List Str) (n : Nat) : Prop := us.length = n ∧ ∀ (i : Nat) (u : Str) (vs : List Str), us[i]? = some u → wordsL[i]? = some vs → u ∈ vs
theorem WrdL.app {us : List Str} {n : Nat} {u : Str} {vs : List Str} (h : WrdL us n) (hv : wordsL[n]? = some vs) (hu : u ∈ vs) : WrdL (us ++ [u]) (n + 1) := by
  refine ⟨by rw [List.length_append, h.1]; rfl, fun i x ws h1 h2 => ?_⟩
  rcases Nat.lt_trichotomy i us.length with z | z | z
  · rw [List.getElem?_append_left z] at h1
    exact h.2 i x ws h1 h2
  · subst z
    rw [List.getElem?_concat_length] at h1
    cases h1
    rw [h.1, hv] at h2
    cases h2
    exact hu
  · rw [List.getElem?_eq_none (by rw [List.length_append]; show us.length + 1 ≤ i; omega)] at h1
    cases h1
theorem words_len {vs : List Str} (h : vs ∈ wordsL) : 0 < vs.length ∧ vs.length < 10 := by
  have := List.all_eq_true.mp (show (wordsL.all fun vs => decide (0 < vs.length ∧ vs.length < 10)) = true by decide +kernel) vs h
  exact of_decide_eq_true this
section
variable {P : Program} {w : World} {K : PySem.W.Frag} {mg : Str → Option Value} {base : Heap} {Z : Cs} {Ys zA : Addr} {Yr : Ra}
def fField : FD := fun ds Φ => ∃ nm, ds = [.drw, .str nm] ∧ ∀ us, WrdL us 6 → Φ (.tup (dS (nm :: us)))
theorem okD_field (B : Bn mg) (C_law_one : Cal P w K mg base 3 "_law_one" ["_law_state", "_law_things"] (spD K fOne)) (C_law_parts : Cal P w K mg base 1 "_law_parts" [] (spD K fParts)) (Df : Def K mg "_law_field" s_law_field) : Cal P w K mg base 4 "_law_field" ["_law_state", "_law_called"] (spD K fField) := by
  refine Cal.ofD Df sc_law_field (fun _ _ _ _ _ _ us hl => match us, hl with | [_, _], _ => rfl) (fun ds Φ h => ?_) (fun fa cdv A outer s H hr => ⟨_, (pss_one (ps_ret (pe_callTy (n_tuple K) (by rfl) B.tuple (by decide +kernel) (pa_cons (pe_op op_cat (pe_lst (pa_cons (pv 1) pa_nil)) (pe_lc (own := [("_law_some", 2)]) (g := (gName 2)) rfl sc_law_field.nd (q_seq K (pe_fn0 C_law_parts hr (by decide))) (blkOk_by (own := [("_law_some", 2)]) (N := ["_law_state", "_law_called", "_law_some"]) (sc := defScope s_law_field) (by decide +kernel)) (fun _ _ _ _ _ => (pg_name (i := 2) sc_law_field.nd rfl (Or.inl rfl) (.inr rfl))) (fun _ _ _ _ _ => pts_nil) (fun _ _ _ _ _ => (pe_fn C_law_one hr (by decide) (pa_cons (pv 0) (pa_cons (pv 2) pa_nil)))))) pa_nil)))), fun S ds Φ h => ?_⟩)
  · obtain ⟨_, rfl, _⟩ := h; rfl
  · obtain ⟨nm, rfl, k⟩ := h
    walk_at "dg"
    refine ⟨rfl, ?_⟩
    walk_at "dg"
    refine ⟨fun i acc => ∃ us, acc = dS us ∧ WrdL us i, ⟨[], rfl, rfl, fun i u vs h _ => nomatch h⟩, ?_, ?_⟩
    · rintro i d acc hd ⟨us, rfl, hW⟩
      obtain ⟨vs, hv, rfl⟩ : ∃ vs, wordsL[i]? = some vs ∧ d = .tup (dS vs) := by
        rw [List.getElem?_map] at hd
        cases z : wordsL[i]? with
        | none => rw [z] at hd; cases hd
        | some vs => rw [z] at hd; exact ⟨vs, rfl, (Option.some.inj hd).symm⟩
      have hi : i < 6 := (List.getElem?_eq_some_iff.mp hv).1
      obtain ⟨h0, h1⟩ := words_len (List.mem_of_getElem? hv)
      refine ⟨by rw [show (dS us).length = us.length from List.length_map _, hW.1]; omega, ?_⟩
      walk_at "dg"
      refine ⟨_, _, rfl, .inr rfl, by rw [show (dS vs).length = vs.length from List.length_map _]; exact h0, by rw [show (dS vs).length = vs.length from List.length_map _]; omega, fun d hd => ?_⟩
      obtain ⟨u, hu, rfl⟩ := List.mem_map.mp hd
      exact ⟨us ++ [u], by unfold dS; rw [List.map_append]; rfl, hW.app hv hu⟩
    · rintro acc ⟨us, rfl, hW⟩
      have hW : WrdL us 6 := hW
      refine on_cat (show 1 + (dS us).length < 100000 by rw [show (dS us).length = us.length from List.length_map _, hW.1]; decide) ?_
      walk_at "dg"
      exact k us hW
theorem WrdL.okF {nm : Str} {us : List Str} (h : WrdL us 6) (hn : isW nm = true) : OkF (nm :: us) := ⟨nm, us, rfl, hn, h.1, h.2⟩
end
end
/-! Rules told: drawn ones, unlike ones, the four. -/
section
set_option maxRecDepth 100000
set_option maxHeartbeats 4000000

abbrev s_law_others : Stmt := top 33
theorem sc_law_others : FnScope ["_law_state", "_law_rows", "_law_shown", "_law_k", "_law_at", "_law_some", "_law_word", "_law_row", "_law_found", "_law_way"] ["_law_state", "_law_rows", "_law_shown"] (defScope s_law_others) := ⟨rfl, rfl, rfl, by decide +kernel, rfl, by decide +kernel, by decide +kernel⟩
abbrev s_law_four : Stmt := top 32
theorem sc_law_four : FnScope ["_law_found"] [] (defScope s_law_four) := ⟨rfl, rfl, rfl, by decide +kernel, rfl, by decide +kernel, by decide +kernel⟩
section
variable {K : PySem.W.Frag} {S : Sx} {ρ : List Sl} {Ψ : List D → Prop} {te : TE}
theorem evN_rev (h : EvD K S te ρ fun x => ∃ xs, x = .lst xs ∧ Ψ xs.reverse) : EvN K S (tRevL K te) ρ Ψ := fun σ F H e s dr Q q =>
  h σ F H e s dr _ fun v x F1 H1 ⟨xs, hx, h3⟩ dd g1 => by
    subst hx
    obtain ⟨a, vs, rfl, h4, h5⟩ := dd
    exact ⟨a, vs, rfl, sl_of (g1.ok _ _ h4), fun p np => q p _ _ F1 _ h3 (g1.back np) (g1.ok.free np) upd_same h5.rev (g1.newH dr np)⟩
end
abbrev Rt3 := List (List Str) × (Str × Str)
abbrev dRt (Yr : Ra) (r : Rt3) : D := dR Yr r.1 r.2.1 r.2.2
abbrev OkRt (r : Rt3) : Prop := OkR r.1 r.2.1 r.2.2
/-- the fields and what is shown -/
abbrev dPt (r : Rt3) : D := .tup [.lst (r.1.map dF), .tup [.str r.2.1, .str r.2.2]]
theorem words_two {vs : List Str} (h : vs ∈ wordsL) (x : Str) : (vs.filter fun u => !decide (u = x)) ≠ [] ∧ (vs.filter fun u => !decide (u = x)).length < 10 := by
  have h1 : ∃ a b, a ∈ vs ∧ b ∈ vs ∧ a ≠ b := by
    unfold wordsL at h
    simp only [List.mem_cons, List.not_mem_nil, or_false] at h
    rcases h with rfl | rfl | rfl | rfl | rfl | rfl
    · exact ⟨"no", "last", by decide, by decide, by decide +kernel⟩
    · exact ⟨"no", "last", by decide, by decide, by decide +kernel⟩
    · exact ⟨"no", "least", by decide, by decide, by decide +kernel⟩
    · exact ⟨"no", "last", by decide, by decide, by decide +kernel⟩
    · exact ⟨"no", "last", by decide, by decide, by decide +kernel⟩
    · exact ⟨"exact", "floored", by decide, by decide, by decide +kernel⟩
  obtain ⟨a, b, ha, hb, hab⟩ := h1
  refine ⟨fun e => ?_, Nat.lt_of_le_of_lt (List.length_filter_le _ _) (words_len h).2⟩
  by_cases hx : a = x
  · have : b ∈ vs.filter fun u => !decide (u = x) := List.mem_filter.mpr ⟨hb, by rw [decide_eq_false fun z => hab (hx.trans z.symm)]; rfl⟩
    rw [e] at this
    cases this
  · have : a ∈ vs.filter fun u => !decide (u = x) := List.mem_filter.mpr ⟨ha, by rw [decide_eq_false hx]; rfl⟩
    rw [e] at this
    cases this
theorem flt_words (vs : List Str) (x : Str) : (vs.filterMap fun u => if u = x then none else some (D.str u)) = dS (vs.filter fun u => !decide (u = x)) := by
  induction vs with
  | nil => rfl
  | cons v l ih =>
    rw [List.filterMap_cons, List.filter_cons]
    by_cases h : v = x
    · rw [if_pos h, if_neg (by rw [decide_eq_true h]; decide)]
      exact ih
    · rw [if_neg h, if_pos (by rw [decide_eq_false h]; rfl)]
      dsimp only
      rw [ih]
      rfl
theorem OkF.setW {f : List Str} {i : Nat} {u : Str} {vs : List Str} (h : OkF f) (hv : wordsL[i]? = some vs) (hu : u ∈ vs) : OkF (f.set (i + 1) u) ∧ headF (f.set (i + 1) u) = headF f := by
  obtain ⟨a, us, rfl, ha, hl, hus⟩ := h
  refine ⟨⟨a, us.set i u, rfl, ha, by rw [List.length_set]; exact hl, fun j x ws hx hws => ?_⟩, rfl⟩
  by_cases hj : i = j
  · subst hj
    have hil : i < us.length := by have := (List.getElem?_eq_some_iff.mp hx).1; rwa [List.length_set] at this
    rw [List.getElem?_set_self hil] at hx
    cases hx
    rw [hv] at hws
    cases hws
    exact hu
  · rw [List.getElem?_set_ne hj] at hx
    exact hus j x ws hx hws
theorem map_headF_set {rows : List (List Str)} {k : Nat} {f g : List Str} (h : rows[k]? = some f) (e : headF g = headF f) : (rows.set k g).map headF = rows.map headF := by
  rw [List.map_set, e]
  refine List.ext_getElem? fun i => ?_
  rw [List.getElem?_set]
  by_cases hi : k = i
  · subst hi
    have hk := (List.getElem?_eq_some_iff.mp h).1
    rw [if_pos rfl, if_pos (by rw [List.length_map]; exact hk), List.getElem?_map, h]
    rfl
  · rw [if_neg hi]
theorem OkR.setF {rows : List (List Str)} {way nm : Str} {k : Nat} {f g : List Str} (O : OkR rows way nm) (h : rows[k]? = some f) (hg : OkF g) (e : headF g = headF f) : OkR (rows.set k g) way nm := by
  have em := map_headF_set h e
  refine ⟨by rw [List.length_set]; exact O.ne, by rw [List.length_set]; exact O.le, fun x hx => ?_, by rw [em]; exact O.nd, O.way, by rw [em]; exact O.nm⟩
  rcases List.mem_or_eq_of_mem_set hx with hx | rfl
  · exact O.ok x hx
  · exact hg
theorem other_name {rows : List (List Str)} {way nm : Str} (O : OkR rows way nm) (h : 1 < rows.length) : ∃ u ∈ rows.map headF, u ≠ nm := by
  have h0 : (rows.map headF)[0]? = some ((rows.map headF)[0]'(by rw [List.length_map]; omega)) := List.getElem?_eq_getElem _
  have h1 : (rows.map headF)[1]? = some ((rows.map headF)[1]'(by rw [List.length_map]; omega)) := List.getElem?_eq_getElem _
  by_cases e : (rows.map headF)[0]'(by rw [List.length_map]; omega) = nm
  · refine ⟨_, List.mem_of_getElem? h1, fun e1 => ?_⟩
    have := (List.getElem?_inj (i := 0) (j := 1) (by rw [List.length_map]; omega) O.nd).mp (by rw [h0, h1, e, e1])
    omega
  · exact ⟨_, List.mem_of_getElem? h0, e⟩
theorem rev_ne {rows : List (List Str)} {way nm : Str} (O : OkR rows way nm) (h : 1 < rows.length) : rows.reverse ≠ rows := fun e => by
  have nd := O.nd
  have h1 : rows.reverse[0]? = rows[0]? := by rw [e]
  rw [List.getElem?_reverse (by omega)] at h1
  have h2 : (rows.map headF)[rows.length - 1 - 0]? = (rows.map headF)[0]? := by rw [List.getElem?_map, List.getElem?_map, h1]
  have := (List.getElem?_inj (by rw [List.length_map]; omega) nd).mp h2
  omega
section
variable {P : Program} {w : World} {K : PySem.W.Frag} {mg : Str → Option Value} {base : Heap} {Yr : Ra}
def fRuleW : FC := fun ds γ Θ => ds = [.drw] ∧ γ = [] ∧ ∀ rows way nm a, OkR rows way nm → ("q" : Str) ∉ rows.map headF → Θ (.tup [pD a, .tup [.str way, .str nm]]) [(a, .l (rows.map dF))]
theorem okC_ruleW (B : Bn mg) (C_law_take : Cal P w K mg base 2 "_law_take" ["_law_state", "_law_many"] (spD K fTake)) (C_law_one : Cal P w K mg base 3 "_law_one" ["_law_state", "_law_things"] (spD K fOne)) (C_law_some_words : Cal P w K mg base 3 "_law_some_words" ["_law_state", "_law_many"] (spD K fSomeWords))
    (C_law_field : Cal P w K mg base 4 "_law_field" ["_law_state", "_law_called"] (spD K fField)) (Df : Def K mg "_law_rule" s_law_rule) : Cal P w K mg base 5 "_law_rule" ["_law_state"] (spC K fRuleW) := by
  refine Cal.ofC0 Df sc_law_rule (fun _ _ _ _ _ _ us hl => match us, hl with | [_], _ => rfl) (fun ds γ Θ h => ?_) (fun fa cdv A outer s H hr => ⟨_, (pss_cons (ps_set (i := 1) sc_law_rule.nd rfl (Or.inl rfl) (pe_fn C_law_some_words hr (by decide) (pa_cons (pv 0) (pa_cons (pe_op op_add pe_int (pe_fn C_law_take hr (by decide) (pa_cons (pv 0) (pa_cons pe_int pa_nil)))) pa_nil))))
      (pss_cons (ps_set (i := 2) sc_law_rule.nd rfl (Or.inl rfl) (pe_tup (pa_cons (pe_fn C_law_one hr (by decide) (pa_cons (pv 0) (pa_cons (pe_tup (pa_cons pe_str (pa_cons pe_str (pa_cons pe_str pa_nil)))) pa_nil))) (pa_cons (pe_fn C_law_one hr (by decide) (pa_cons (pv 0) (pa_cons (pv 1) pa_nil))) pa_nil))))
      (pss_one (ps_mkS ((ps_ret (pe_tup (pa_cons (pe_lc (own := [("_law_called", 3)]) (g := (gName 3)) rfl sc_law_rule.nd (q_seq K (pv 1)) (blkOk_by (own := [("_law_called", 3)]) (N := ["_law_state", "_law_names", "_law_shown", "_law_called"]) (sc := defScope s_law_rule) (by decide +kernel)) (fun _ _ _ _ _ => (pg_name (i := 3) sc_law_rule.nd rfl (Or.inl rfl) (.inr rfl))) (fun _ _ _ _ _ => pts_nil) (fun _ _ _ _ _ => (pe_fn C_law_field hr (by decide) (pa_cons (pv 0) (pa_cons (pv 3) pa_nil))))) (pa_cons (pv 2) pa_nil))))))))), fun S ds γ Θ h => ?_⟩)
  · obtain ⟨rfl, _⟩ := h; rfl
  · obtain ⟨rfl, rfl, k⟩ := h
    refine ⟨rfl, ?_⟩
    walk_at "dg"
    refine ⟨3, rfl, by decide, by decide, fun t ht => ?_⟩
    walk_at "dg"
    rw [show (1 : Int) + (t : Int) = ((1 + t : Nat) : Int) by omega]
    refine ⟨1 + t, rfl, by omega, fun ws hW => ?_⟩
    walk_at "dg"
    refine ⟨_, _, rfl, .inr rfl, Nat.le_of_ble_eq_true rfl, Nat.le_of_ble_eq_true rfl, fun d hd => ?_⟩
    obtain ⟨way, hway, rfl⟩ := List.mem_map.mp (show d ∈ dS waysL from hd)
    walk_at "dg"
    refine ⟨_, _, rfl, .inl rfl, by rw [show (dS ws).length = ws.length from List.length_map _, hW.1]; omega, by rw [show (dS ws).length = ws.length from List.length_map _, hW.1]; omega, fun d hd => ?_⟩
    obtain ⟨nm, hnm, rfl⟩ := List.mem_map.mp hd
    walk_at "dg"
    refine ex_mkS (ex_retX (evx_tupN ?_))
    walk_at "dg"
    have G := hW.good (by omega) (by omega)
    refine ⟨fun i acc => ∃ rows : List (List Str), acc = rows.map dF ∧ rows.map headF = ws.take i ∧ ∀ f ∈ rows, OkF f, ⟨[], rfl, rfl, fun f h => nomatch h⟩, ?_, ?_⟩
    · rintro i d acc hd ⟨rows, rfl, hr, hf⟩
      obtain ⟨u, hu, rfl⟩ := dS_mem hd
      have hi : i < ws.length := (List.getElem?_eq_some_iff.mp hu).1
      have hrl : rows.length ≤ i := by
        have := congrArg List.length hr
        rw [List.length_map, List.length_take] at this
        omega
      refine ⟨by rw [List.length_map]; have := hW.1; omega, ?_⟩
      walk_at "dg"
      refine ⟨u, rfl, fun us hU => ⟨rows ++ [u :: us], by rw [List.map_append]; rfl, by rw [List.map_append, hr, take_succ hu]; rfl, fun f h => ?_⟩⟩
      rcases List.mem_append.mp h with h | h
      · exact hf f h
      · rw [List.mem_singleton.mp h]
        exact hU.okF (G.wd u (List.mem_of_getElem? hu))
    · rintro acc ⟨rows, rfl, hr, hf⟩
      rw [show (dS ws).length = ws.length from List.length_map _, List.take_length] at hr
      walk_at "dg"
      refine fun a => k rows way nm a ⟨?_, ?_, hf, ?_, hway, ?_⟩ ?_
      · have := congrArg List.length hr
        rw [List.length_map, hW.1] at this
        omega
      · have := congrArg List.length hr
        rw [List.length_map, hW.1] at this
        omega
      · rw [hr]; exact hW.nodup
      · rw [hr]; exact hnm
      · rw [hr]; exact hW.q
def fOthers : FD := fun ds Φ => ∃ rows way nm, ds = [.drw, .lst (rows.map dF), .tup [.str way, .str nm]] ∧ OkR rows way nm ∧ ("q" : Str) ∉ rows.map headF ∧ ∀ res : List Rt3, res.length ≤ 4 → (∀ r ∈ res, OkRt r ∧ r ≠ (rows, (way, nm))) → Φ (.lst (res.map dPt))
theorem okD_others (B : Bn mg) (C_law_take : Cal P w K mg base 2 "_law_take" ["_law_state", "_law_many"] (spD K fTake)) (C_law_one : Cal P w K mg base 3 "_law_one" ["_law_state", "_law_things"] (spD K fOne)) (C_law_parts : Cal P w K mg base 1 "_law_parts" [] (spD K fParts)) (Df : Def K mg "_law_others" s_law_others) : Cal P w K mg base 4 "_law_others" ["_law_state", "_law_rows", "_law_shown"] (spD K fOthers) := by
  refine Cal.ofD Df sc_law_others (fun _ _ _ _ _ _ us hl => match us, hl with | [_, _, _], _ => rfl) (fun ds Φ h => ?_) (fun fa cdv A outer s H hr => ⟨_, (pss_cons (ps_asg (pe_tup (pa_cons (pe_fn C_law_take hr (by decide) (pa_cons (pv 0) (pa_cons (pe_callB (n_len K) (by rfl) B.len PySem.boot_len (pa_cons (pv 1) pa_nil)) pa_nil))) (pa_cons (pe_op op_add pe_int (pe_fn C_law_take hr (by decide) (pa_cons (pv 0) (pa_cons pe_int pa_nil)))) pa_nil))) (pg_tup rfl (pgs_cons (pg_name (i := 3) sc_law_others.nd rfl (Or.inr rfl)) (pgs_cons (pg_name (i := 4) sc_law_others.nd rfl (Or.inr rfl)) pgs_nil))))
      (pss_cons (ps_mkS ((ps_setLc (i := 5) (own := [("_law_word", 6)]) (g := (gName 6)) rfl sc_law_others.nd rfl rfl (sw_true rfl rfl rfl (by decide +kernel)) (q_seq K (pe_ix (x_list K) (pe_fn0 C_law_parts hr (by decide)) (pe_op op_sub (pv 4) pe_int) (fun _ _ => rfl))) (blkOk_by (own := [("_law_word", 6)]) (N := ["_law_state", "_law_rows", "_law_shown", "_law_k", "_law_at", "_law_some", "_law_word", "_law_row", "_law_found", "_law_way"]) (sc := defScope s_law_others) (by decide +kernel)) (fun _ _ _ _ _ => (pg_name (i := 6) sc_law_others.nd rfl (Or.inl rfl) (.inr rfl))) (fun _ _ _ _ _ => (pts_one (pt_cmpR op_ne (pv 6) (pe_ix (x_tup K) (pe_ix (x_list K) (pv 1) (pv 3) (fun _ _ => rfl)) (pv 4) (fun _ _ => rfl)) (nomark _)))) (fun _ _ _ _ _ => (pv 6)))))
      (pss_cons (ps_mkS ((ps_set (i := 7) sc_law_others.nd rfl (Or.inl rfl) (pe_op (o_catA K) (pe_op (o_catA K) (pe_slice (y_tup K) (pe_ix (x_list K) (pv 1) (pv 3) (fun _ _ => rfl)) po_none (po_some (pv 4))) (pe_tup (pa_cons (pe_fn C_law_one hr (by decide) (pa_cons (pv 0) (pa_cons (pv 5) pa_nil))) pa_nil))) (pe_slice (y_tup K) (pe_ix (x_list K) (pv 1) (pv 3) (fun _ _ => rfl)) (po_some (pe_op op_add (pv 4) pe_int)) po_none)))))
      (pss_cons (ps_mkS ((ps_own (ps_set (i := 8) sc_law_others.nd rfl (Or.inl rfl) (pe_lst (pa_cons (pe_tup (pa_cons (pe_op op_cat (pe_op op_cat (pe_slice (y_list K) (pv 1) po_none (po_some (pv 3))) (pe_lst (pa_cons (pv 7) pa_nil))) (pe_slice (y_list K) (pv 1) (po_some (pe_op op_add (pv 3) pe_int)) po_none)) (pa_cons (pv 2) pa_nil))) pa_nil))))))
      (pss_cons (ps_mkS ((ps_expr (e_bm K PySem.F.plainAttrs_list PySem.F.slot_list_append PySem.F.type_list_append mt_append (pv 8) (pa_cons (pe_tup (pa_cons (pv 1) (pa_cons (pe_tup (pa_cons (pe_fn C_law_one hr (by decide) (pa_cons (pv 0) (pa_cons (pe_lc (own := [("_law_way", 9)]) (g := (gName 9)) rfl sc_law_others.nd (q_seq K (pe_tup (pa_cons pe_str (pa_cons pe_str (pa_cons pe_str pa_nil))))) (blkOk_by (own := [("_law_way", 9)]) (N := ["_law_state", "_law_rows", "_law_shown", "_law_k", "_law_at", "_law_some", "_law_word", "_law_row", "_law_found", "_law_way"]) (sc := defScope s_law_others) (by decide +kernel)) (fun _ _ _ _ _ => (pg_name (i := 9) sc_law_others.nd rfl (Or.inl rfl) (.inr rfl))) (fun _ _ _ _ _ => (pts_one (pt_cmpR op_ne (pv 9) (pe_ix (x_tup K) (pv 2) pe_int (fun _ _ => rfl)) (nomark _)))) (fun _ _ _ _ _ => (pv 9))) pa_nil))) (pa_cons (pe_ix (x_tup K) (pv 2) pe_int (fun _ _ => rfl)) pa_nil))) pa_nil))) pa_nil)))))
      (pss_cutL (ps_mkS ((ps_if (pt_cmpR op_gt (pe_callB (n_len K) (by rfl) B.len PySem.boot_len (pa_cons (pv 1) pa_nil)) pe_int (nomark _)) (pss_cons (ps_mkS ((ps_expr (e_bm K PySem.F.plainAttrs_list PySem.F.slot_list_append PySem.F.type_list_append mt_append (pv 8) (pa_cons (pe_tup (pa_cons (pe_revL (pv 1)) (pa_cons (pv 2) pa_nil))) pa_nil)))))
      (pss_one (ps_mkS ((ps_expr (e_bm K PySem.F.plainAttrs_list PySem.F.slot_list_append PySem.F.type_list_append mt_append (pv 8) (pa_cons (pe_tup (pa_cons (pv 1) (pa_cons (pe_tup (pa_cons (pe_ix (x_tup K) (pv 2) pe_int (fun _ _ => rfl)) (pa_cons (pe_ix (x_list K) (pe_lc (own := [("_law_row", 7)]) (g := (gName 7)) rfl sc_law_others.nd (q_seq K (pv 1)) (blkOk_by (own := [("_law_row", 7)]) (N := ["_law_state", "_law_rows", "_law_shown", "_law_k", "_law_at", "_law_some", "_law_word", "_law_row", "_law_found", "_law_way"]) (sc := defScope s_law_others) (by decide +kernel)) (fun _ _ _ _ _ => (pg_name (i := 7) sc_law_others.nd rfl (Or.inl rfl) (.inr rfl))) (fun _ _ _ _ _ => (pts_one (pt_cmpR op_ne (pe_ix (x_tup K) (pv 7) pe_int (fun _ _ => rfl)) (pe_ix (x_tup K) (pv 2) pe_int (fun _ _ => rfl)) (nomark _)))) (fun _ _ _ _ _ => (pe_ix (x_tup K) (pv 7) pe_int (fun _ _ => rfl)))) pe_int (fun _ _ => rfl)) pa_nil))) pa_nil))) pa_nil))))))) (pss_one (ps_mkS ((ps_expr (e_bm K PySem.F.plainAttrs_list PySem.F.slot_list_append PySem.F.type_list_append mt_append (pv 8) (pa_cons (pe_tup (pa_cons (pe_lst (pa_cons (pe_op (o_catA K) (pe_tup (pa_cons pe_str pa_nil)) (pe_slice (y_tup K) (pe_ix (x_list K) (pv 1) pe_int (fun _ _ => rfl)) (po_some pe_int) po_none)) pa_nil)) (pa_cons (pe_tup (pa_cons (pe_ix (x_tup K) (pv 2) pe_int (fun _ _ => rfl)) (pa_cons pe_str pa_nil))) pa_nil))) pa_nil)))))))))
      (pss_one (ps_mkS ((ps_ret (pv 8))))))))))), fun S ds Φ h => ?_⟩)
  · obtain ⟨_, _, _, rfl, _⟩ := h; rfl
  · obtain ⟨rows, way, nm, rfl, O, hq, k⟩ := h
    have hl3 := O.le
    have hl0 := O.ne
    walk_at "dg"
    refine ⟨_, rfl, by rw [List.length_map]; omega, by rw [List.length_map]; omega, fun c hc => ?_⟩
    rw [List.length_map] at hc
    walk_at "dg"
    refine ⟨6, rfl, by decide, by decide, fun i hi => ?_⟩
    walk_at "dg"
    obtain ⟨f, hf⟩ : ∃ f, rows[c]? = some f := ⟨_, List.getElem?_eq_getElem (by omega)⟩
    obtain ⟨vs, hvs⟩ : ∃ vs, wordsL[i]? = some vs := ⟨_, List.getElem?_eq_getElem (show i < wordsL.length by show i < 6; omega)⟩
    obtain ⟨at_, hat_⟩ : ∃ at_, at_ = i + 1 := ⟨_, rfl⟩
    have hfm := List.mem_of_getElem? hf
    have okf := O.ok f hfm
    have hfl := okf.len
    have hvm := List.mem_of_getElem? hvs
    rw [show (1 : Int) + (i : Int) = ((at_ : Nat) : Int) by omega]
    have hatP : atI (wordsL.map fun vs => D.tup (dS vs)) (((at_ : Nat) : Int) - 1) = some (.tup (dS vs)) := by
      rw [show ((at_ : Nat) : Int) - 1 = (i : Int) by omega]
      exact atI_nat (by rw [List.getElem?_map, hvs]; rfl)
    have hatR : atI (rows.map dF) (c : Int) = some (dF f) := atI_nat (by rw [List.getElem?_map, hf]; rfl)
    have hatF : atI (dS f) (at_ : Int) = some (.str (f.getD at_ "")) := okF_at okf (by omega)
    obtain ⟨old, hold⟩ : ∃ old, old = f.getD at_ "" := ⟨_, rfl⟩
    rw [← hold] at hatF
    show ExD K S _ [.val .drw, .val (.lst (rows.map dF)), .val (.tup [.str way, .str nm]), .val (.int (c : Int)), .val (.int (at_ : Int)), .un, .un, .un, .un, .un] _
    refine ex_mkS ?_
    walk_at "dg"
    refine ⟨rfl, ?_⟩
    walk_at "dg"
    refine lc_f vs D.str (fun u => if u = old then none else some (.str u)) rfl (by have := (words_len hvm).2; omega) (fun u hu => ?_) ?_
    · walk_at "dg"
      refine k_ndec (fun h => ?_) (fun h => ?_)
      · rw [if_pos h]
      · walk_at "dg"
        rw [if_neg h]
    rw [flt_words]
    obtain ⟨hne, hlt⟩ := words_two hvm old
    obtain ⟨sm, hsm⟩ : ∃ sm, sm = vs.filter fun u => !decide (u = old) := ⟨_, rfl⟩
    have hmem : ∀ u ∈ sm, u ∈ vs ∧ u ≠ old := fun u hu => by
      rw [hsm] at hu
      obtain ⟨h1, h2⟩ := List.mem_filter.mp hu
      exact ⟨h1, by simpa using h2⟩
    rw [← hsm] at hne hlt ⊢
    clear hsm
    show ExD K S _ [.val .drw, .val (.lst (rows.map dF)), .val (.tup [.str way, .str nm]), .val (.int (c : Int)), .val (.int (at_ : Int)), .val (.lst (dS sm)), .un, .un, .un, .un] _
    refine ex_seq (ex_mkS ?_)
    walk_at "dg"
    refine ⟨_, rfl, ?_⟩
    walk_at "dg"
    refine ⟨_, rfl, ?_⟩
    walk_at "dg"
    refine ⟨_, _, rfl, .inl rfl, by rw [dS_len]; exact List.length_pos_iff.mpr hne, by rw [dS_len]; omega, fun y hy => ?_⟩
    obtain ⟨u, hu, rfl⟩ := List.mem_map.mp hy
    obtain ⟨huv, huo⟩ := hmem u hu
    clear hy hne hlt hmem hu
    walk_at "dg"
    rw [show cutD (dS f) none (some (at_ : Int)) = dS (f.take at_) by rw [cutD_to]; unfold dS; rw [List.map_take]]
    refine od_catA (by rw [dS_len, List.length_take]; show _ + 1 < _; omega) ?_
    walk_at "dg"
    refine ⟨_, rfl, ?_⟩
    walk_at "dg"
    refine ⟨_, rfl, ?_⟩
    walk_at "dg"
    rw [show ((at_ : Nat) : Int) + 1 = ((at_ + 1 : Nat) : Int) by omega, show cutD (dS f) (some ((at_ + 1 : Nat) : Int)) none = dS (f.drop (at_ + 1)) by rw [cutD_from]; unfold dS; rw [List.map_drop]]
    refine od_catA (by rw [List.length_append, dS_len, dS_len, List.length_take, List.length_drop]; show _ + 1 + _ < _; omega) ?_
    obtain ⟨g, hg⟩ : ∃ g, g = f.set at_ u := ⟨_, rfl⟩
    rw [show dS (f.take at_) ++ [D.str u] ++ dS (f.drop (at_ + 1)) = dS g by
      rw [hg, List.set_eq_take_append_cons_drop, if_pos (by omega)]
      unfold dS
      rw [List.map_append, List.map_cons, List.append_assoc]
      rfl]
    obtain ⟨okg, hhg⟩ : OkF g ∧ headF g = headF f := by
      rw [hg, hat_]
      exact okf.setW hvs huv
    have hgf : g ≠ f := fun e => by
      have h1 : g[at_]? = some u := by rw [hg]; exact List.getElem?_set_self (by omega)
      rw [e] at h1
      refine huo ?_
      rw [hold, List.getD_eq_getElem?_getD, h1]
      rfl
    clear hatF hold hg huv huo
    walk_at "dg"
    show ExD K S _ [.val .drw, .val (.lst (rows.map dF)), .val (.tup [.str way, .str nm]), .val (.int (c : Int)), .val (.int (at_ : Int)), .val (.lst (dS sm)), .un, .val (dF g), .un, .un] _
    refine ex_mkS ?_
    walk_at "dg"
    refine ⟨_, rfl, ?_⟩
    walk_at "dg"
    refine ⟨_, rfl, ?_⟩
    rw [show cutD (rows.map dF) none (some (c : Int)) = (rows.take c).map dF by rw [cutD_to, List.map_take]]
    walk_at "dg"
    refine on_cat (by rw [List.length_map, List.length_take]; show _ + 1 < _; omega) ?_
    walk_at "dg"
    refine ⟨_, rfl, ?_⟩
    walk_at "dg"
    refine ⟨_, rfl, ?_⟩
    walk_at "dg"
    rw [show (c : Int) + 1 = ((c + 1 : Nat) : Int) by omega, show cutD (rows.map dF) (some ((c + 1 : Nat) : Int)) none = (rows.drop (c + 1)).map dF by rw [cutD_from, List.map_drop]]
    refine on_cat (by rw [List.length_append, List.length_map, List.length_map, List.length_take, List.length_drop]; show _ + 1 + _ < _; omega) ?_
    rw [show (rows.take c).map dF ++ [dF g] ++ (rows.drop (c + 1)).map dF = (rows.set c g).map dF by
      rw [List.set_eq_take_append_cons_drop, if_pos (by omega), List.map_append, List.map_cons, List.append_assoc]
      rfl]
    have O1 : OkRt (rows.set c g, (way, nm)) := O.setF hf okg hhg
    have n1 : ((rows.set c g, (way, nm)) : Rt3) ≠ (rows, (way, nm)) := fun e => by
      have h1 : (rows.set c g)[c]? = some g := List.getElem?_set_self (by omega)
      rw [show rows.set c g = rows from (Prod.mk.inj e).1, hf] at h1
      exact hgf (Option.some.inj h1).symm
    obtain ⟨r1, hr1⟩ : ∃ r1 : Rt3, r1 = (rows.set c g, (way, nm)) := ⟨_, rfl⟩
    rw [← hr1] at O1 n1
    walk_at "dg"
    rw [show D.tup [D.lst ((rows.set c g).map dF), D.tup [D.str way, D.str nm]] = dPt r1 by rw [hr1]]
    clear hr1 hgf hhg okg hatR hat_ hvs hvm
    show ExD K S _ [.val .drw, .val (.lst (rows.map dF)), .val (.tup [.str way, .str nm]), .val (.int (c : Int)), .val (.int (at_ : Int)), .val (.lst (dS sm)), .un, .val (dF g), .own [dPt r1], .un] _
    refine ex_mkS ?_
    walk_at "dg"
    refine lc_f waysL D.str (fun u => if u = way then none else some (.str u)) rfl (by decide) (fun u hu => ?_) ?_
    · walk_at "dg"
      refine k_ndec (fun h => ?_) (fun h => ?_)
      · rw [if_pos h]
      · walk_at "dg"
        rw [if_neg h]
    rw [flt_words]
    have hwf : (waysL.filter fun u => !decide (u = way)) ≠ [] ∧ (waysL.filter fun u => !decide (u = way)).length < 10 := ⟨by
      have hw := O.way
      simp only [waysL, List.mem_cons, List.not_mem_nil, or_false] at hw
      rcases hw with rfl | rfl | rfl <;> decide +kernel, Nat.lt_of_le_of_lt (List.length_filter_le _ _) (by decide)⟩
    obtain ⟨wm, hwm⟩ : ∃ wm, wm = waysL.filter fun u => !decide (u = way) := ⟨_, rfl⟩
    have hwmem : ∀ u ∈ wm, u ∈ waysL ∧ u ≠ way := fun u hu => by
      rw [hwm] at hu
      obtain ⟨h1, h2⟩ := List.mem_filter.mp hu
      exact ⟨h1, by simpa using h2⟩
    rw [← hwm] at hwf ⊢
    walk_at "dg"
    refine ⟨_, _, rfl, .inl rfl, by rw [dS_len]; exact List.length_pos_iff.mpr hwf.1, by rw [dS_len]; have := hwf.2; omega, fun y hy => ?_⟩
    obtain ⟨w2, hw2, rfl⟩ := List.mem_map.mp hy
    obtain ⟨hw2a, hw2b⟩ := hwmem w2 hw2
    clear hy hwm hwmem hwf hw2
    walk_at "dg"
    obtain ⟨r2, hr2⟩ : ∃ r2 : Rt3, r2 = (rows, (w2, nm)) := ⟨_, rfl⟩
    have O2 : OkRt r2 := by rw [hr2]; exact ⟨O.ne, O.le, O.ok, O.nd, hw2a, O.nm⟩
    have n2 : r2 ≠ (rows, (way, nm)) := fun e => by rw [hr2] at e; exact hw2b (Prod.mk.inj (Prod.mk.inj e).2).1
    show ExD K S _ [.val .drw, .val (.lst (rows.map dF)), .val (.tup [.str way, .str nm]), .val (.int (c : Int)), .val (.int (at_ : Int)), .val (.lst (dS sm)), .un, .val (dF g), .own ([dPt r1] ++ [.tup [.lst (rows.map dF), .tup [.str w2, .str nm]]]), .un] _
    rw [show D.tup [D.lst (rows.map dF), D.tup [D.str w2, D.str nm]] = dPt r2 by rw [hr2]]
    clear hr2 hw2a hw2b
    refine ex_mid ⟨fun ρ' => ∃ res : List Rt3, res.length ≤ 4 ∧ (∀ r ∈ res, OkRt r ∧ r ≠ (rows, (way, nm))) ∧ ρ' = [.val .drw, .val (.lst (rows.map dF)), .val (.tup [.str way, .str nm]), .val (.int (c : Int)), .val (.int (at_ : Int)), .val (.lst (dS sm)), .un, .val (dF g), .own (res.map dPt), .un], ?_, ?_⟩
    · refine ex_mkS ?_
      walk_at "dg"
      rw [List.length_map]
      refine k_dec (fun hgt => ?_) (fun hgt => ?_)
      · have hrl : 1 < rows.length := by omega
        refine ex_seq (ex_mkS ?_)
        walk_at "dg"
        refine ev_new (evN_rev ?_)
        walk_at "dg"
        refine ⟨_, rfl, ?_⟩
        rw [← List.map_reverse]
        walk_at "dg"
        obtain ⟨r3, hr3⟩ : ∃ r3 : Rt3, r3 = (rows.reverse, (way, nm)) := ⟨_, rfl⟩
        have O3 : OkRt r3 := by
          rw [hr3]
          exact ⟨by rw [List.length_reverse]; exact O.ne, by rw [List.length_reverse]; exact O.le, fun x hx => O.ok x (List.mem_reverse.mp hx), by rw [List.map_reverse]; exact (List.reverse_perm _).nodup_iff.mpr O.nd, O.way, by rw [List.map_reverse]; exact List.mem_reverse.mpr O.nm⟩
        have n3 : r3 ≠ (rows, (way, nm)) := fun e => by
          rw [hr3] at e
          have e : rows.reverse = rows := (Prod.mk.inj e).1
          exact rev_ne O hrl e
        rw [show D.tup [D.lst (rows.reverse.map dF), D.tup [D.str way, D.str nm]] = dPt r3 by rw [hr3]]
        clear hr3
        show ExD K S _ [.val .drw, .val (.lst (rows.map dF)), .val (.tup [.str way, .str nm]), .val (.int (c : Int)), .val (.int (at_ : Int)), .val (.lst (dS sm)), .un, .val (dF g), .own ([dPt r1] ++ [dPt r2] ++ [dPt r3]), .un] _
        refine ex_mkS ?_
        walk_at "dg"
        refine lc_f rows dF (fun f => if headF f = nm then none else some (.str (headF f))) rfl (by omega) (fun f hf => ?_) ?_
        · have hat := headF_at (O.ok f hf)
          walk_at "dg"
          refine k_ndec (fun h => ?_) (fun h => ?_)
          · rw [if_pos h]
          · walk_at "dg"
            rw [if_neg h]
        rw [show (rows.filterMap fun f => if headF f = nm then none else some (D.str (headF f))) = dS ((rows.map headF).filter fun u => !decide (u = nm)) by rw [← flt_words, List.filterMap_map]; rfl]
        obtain ⟨hs, hhs⟩ : ∃ hs, hs = (rows.map headF).filter fun u => !decide (u = nm) := ⟨_, rfl⟩
        rw [← hhs]
        have hhm : ∀ u ∈ hs, u ∈ rows.map headF ∧ u ≠ nm := fun u hu => by
          rw [hhs] at hu
          obtain ⟨h1, h2⟩ := List.mem_filter.mp hu
          exact ⟨h1, by simpa using h2⟩
        obtain ⟨n0, hn0⟩ : ∃ n0, hs[0]? = some n0 := by
          obtain ⟨u, hu, hun⟩ := other_name O hrl
          have : u ∈ hs := by rw [hhs]; exact List.mem_filter.mpr ⟨hu, by rw [decide_eq_false hun]; rfl⟩
          cases hs with
          | nil => cases this
          | cons n0 _ => exact ⟨n0, rfl⟩
        have hatn : atI (dS hs) 0 = some (.str n0) := atI_nat (j := 0) (by unfold dS; rw [List.getElem?_map, hn0]; rfl)
        obtain ⟨hna, hnb⟩ := hhm n0 (List.mem_of_getElem? hn0)
        clear hhm hhs hn0
        walk_at "dg"
        refine ⟨[r1, r2, r3, (rows, (way, n0))], Nat.le_refl _, fun r hr => ?_, rfl⟩
        simp only [List.mem_cons, List.not_mem_nil, or_false] at hr
        rcases hr with rfl | rfl | rfl | rfl
        · exact ⟨O1, n1⟩
        · exact ⟨O2, n2⟩
        · exact ⟨O3, n3⟩
        · exact ⟨⟨O.ne, O.le, O.ok, O.nd, O.way, hna⟩, fun e => hnb (Prod.mk.inj (Prod.mk.inj e).2).2⟩
      · obtain ⟨f0, hf0⟩ : ∃ f0, rows = [f0] := by
          cases rows with
          | nil => exact absurd hl0 (by decide)
          | cons f0 r =>
            cases r with
            | nil => exact ⟨f0, rfl⟩
            | cons f1 r =>
              have : (f0 :: f1 :: r).length = r.length + 2 := rfl
              exact absurd (by omega) hgt
        have hat0 : atI (rows.map dF) 0 = some (dF f0) := by rw [hf0]; rfl
        refine ex_mkS ?_
        walk_at "dg"
        refine ⟨_, rfl, ?_⟩
        walk_at "dg"
        refine ⟨_, rfl, ?_⟩
        walk_at "dg"
        rw [show cutD (dS f0) (some (1 : Int)) none = dS (f0.drop 1) by rw [show (1 : Int) = ((1 : Nat) : Int) from rfl, cutD_from]; unfold dS; rw [List.map_drop]]
        have okf0 := O.ok f0 (by rw [hf0]; exact List.mem_cons_self)
        refine od_catA (by rw [dS_len, List.length_drop]; show 1 + _ < _; have := okf0.len; omega) ?_
        walk_at "dg"
        refine ⟨[r1, r2, ([("q" : Str) :: f0.drop 1], (way, "q"))], by show 3 ≤ 4; decide, fun r hr => ?_, rfl⟩
        simp only [List.mem_cons, List.not_mem_nil, or_false] at hr
        rcases hr with rfl | rfl | rfl
        · exact ⟨O1, n1⟩
        · exact ⟨O2, n2⟩
        · obtain ⟨a, us, rfl, ha, hul, hus⟩ := okf0
          refine ⟨⟨by show 0 < 1; decide, by show 1 ≤ 3; decide, fun x hx => ?_, by show ([("q" : Str)]).Nodup; exact List.nodup_cons.mpr ⟨List.not_mem_nil, List.nodup_nil⟩, O.way, List.mem_cons_self⟩, fun e => hq ?_⟩
          · rw [List.mem_singleton.mp hx]
            exact ⟨"q", us, rfl, by decide +kernel, hul, hus⟩
          · have e1 : [("q" : Str) :: us] = rows := (Prod.mk.inj e).1
            rw [← e1]
            exact List.mem_cons_self
    rintro ρ' ⟨res, hl, hres, rfl⟩
    refine ex_mkS ?_
    walk_at "dg"
    exact k res hl hres
def fourR : List Rt3 := [(farR, ("greater", "far")), (lateR, ("field", "late")), (newR, ("field", "late")), (rowR, ("greater", "row"))]
def fFour (Yr : Ra) : FD := fun ds Φ => ds = [] ∧ Φ (.lst (fourR.map fun r => .tup [dRt Yr r, .lst (r.1.map dF), .tup [.str r.2.1, .str r.2.2]]))
theorem okD_four (Ur : Tr K mg Yr) (CRule_furthest : CalSt P w K mg base 6 Yr.R "furthest" (spD K (fThe Yr farR "greater" "far"))) (CRule_latest : CalSt P w K mg base 6 Yr.R "latest" (spD K (fThe Yr lateR "field" "late"))) (CRule_newest : CalSt P w K mg base 6 Yr.R "newest" (spD K (fThe Yr newR "field" "late"))) (CRule_inrow : CalSt P w K mg base 6 Yr.R "inrow" (spD K (fThe Yr rowR "greater" "row"))) (Df : Def K mg "_law_four" s_law_four) : Cal P w K mg base 7 "_law_four" [] (spD K (fFour Yr)) := by
  refine Cal.ofD Df sc_law_four (fun _ _ _ _ _ _ us hl => match us, hl with | [], _ => rfl) (fun ds Φ h => ?_) (fun fa cdv A outer s H hr => ⟨_, (pss_cons (ps_own (ps_set (i := 0) sc_law_four.nd rfl (Or.inl rfl) (pe_lst (pa_cons (pe_tup (pa_cons (pe_st0 (pe_glob (v := .ref Yr.R) rfl Ur.mg rfl) CRule_furthest hr (by decide)) (pa_cons (pe_lst (pa_cons (pe_tup (pa_cons pe_str (pa_cons pe_str (pa_cons pe_str (pa_cons pe_str (pa_cons pe_str (pa_cons pe_str (pa_cons pe_str pa_nil)))))))) pa_nil)) (pa_cons (pe_tup (pa_cons pe_str (pa_cons pe_str pa_nil))) pa_nil)))) pa_nil))))
      (pss_cons (ps_expr (e_bm K PySem.F.plainAttrs_list PySem.F.slot_list_append PySem.F.type_list_append mt_append (pv 0) (pa_cons (pe_tup (pa_cons (pe_st0 (pe_glob (v := .ref Yr.R) rfl Ur.mg rfl) CRule_latest hr (by decide)) (pa_cons (pe_lst (pa_cons (pe_tup (pa_cons pe_str (pa_cons pe_str (pa_cons pe_str (pa_cons pe_str (pa_cons pe_str (pa_cons pe_str (pa_cons pe_str pa_nil)))))))) pa_nil)) (pa_cons (pe_tup (pa_cons pe_str (pa_cons pe_str pa_nil))) pa_nil)))) pa_nil)))
      (pss_cons (ps_expr (e_bm K PySem.F.plainAttrs_list PySem.F.slot_list_append PySem.F.type_list_append mt_append (pv 0) (pa_cons (pe_tup (pa_cons (pe_st0 (pe_glob (v := .ref Yr.R) rfl Ur.mg rfl) CRule_newest hr (by decide)) (pa_cons (pe_lst (pa_cons (pe_tup (pa_cons pe_str (pa_cons pe_str (pa_cons pe_str (pa_cons pe_str (pa_cons pe_str (pa_cons pe_str (pa_cons pe_str pa_nil)))))))) pa_nil)) (pa_cons (pe_tup (pa_cons pe_str (pa_cons pe_str pa_nil))) pa_nil)))) pa_nil)))
      (pss_cons (ps_expr (e_bm K PySem.F.plainAttrs_list PySem.F.slot_list_append PySem.F.type_list_append mt_append (pv 0) (pa_cons (pe_tup (pa_cons (pe_st0 (pe_glob (v := .ref Yr.R) rfl Ur.mg rfl) CRule_inrow hr (by decide)) (pa_cons (pe_lst (pa_cons (pe_tup (pa_cons pe_str (pa_cons pe_str (pa_cons pe_str (pa_cons pe_str (pa_cons pe_str (pa_cons pe_str (pa_cons pe_str pa_nil)))))))) pa_nil)) (pa_cons (pe_tup (pa_cons pe_str (pa_cons pe_str pa_nil))) pa_nil)))) pa_nil)))
      (pss_one (ps_ret (pv 0))))))), fun S ds Φ h => ?_⟩)
  · obtain ⟨rfl, _⟩ := h; rfl
  · obtain ⟨rfl, k⟩ := h
    walk_at "dg"
    refine ev_st0 ?_
    walk_at "dg"
    refine ⟨rfl, rfl, ?_⟩
    walk_at "dg"
    refine ev_st0 ?_
    walk_at "dg"
    refine ⟨rfl, rfl, ?_⟩
    walk_at "dg"
    refine ev_st0 ?_
    walk_at "dg"
    refine ⟨rfl, rfl, ?_⟩
    walk_at "dg"
    refine ev_st0 ?_
    walk_at "dg"
    refine ⟨rfl, rfl, ?_⟩
    walk_at "dg"
    exact k
end
end
/-! The law of rules told. -/
section
set_option maxRecDepth 100000
set_option maxHeartbeats 4000000
section
variable {K : PySem.W.Frag} {S : Sx} {ρ : List Sl} {O : Oc} {t1 t2 : TE} {i j : Nat}
/-- x, y = two new things, the cells to x -/
theorem ex_parFF (h : EvF K S t1 ρ fun x γ1 => EvF K S t2 ρ fun y γ2 => O.nx ((ρ.set i (.obj true x (γ1 ++ γ2))).set j (.val y))) : ExD K S (tPar i j (tCons t1 (tCons t2 tNil))) ρ O := fun F0 H0 σ F H e o ag d0 E f =>
  h σ F H e ag.ok ag.dr _ fun v x γ1 F1 H1 h2 dx q1 n1 g1 => by
    have e1 := e.ag g1
    have a1 := ag.trans g1 d0
    refine h2 σ F1 H1 e1 a1.ok a1.dr _ fun u y γ2 F2 H2 hO dy q2 n2 g2 => ⟨v, u, rfl, ?_⟩
    have e2 := e1.ag g2
    have a2 := a1.trans g2 d0
    have apart : ∀ a, a ∈ γ1.map Prod.fst → a ∈ γ2.map Prod.fst → False := fun a h1 h3 => by
      obtain ⟨⟨a', c⟩, hm, rfl⟩ := List.mem_map.mp h1
      obtain ⟨_, w, e6, q6⟩ := q1.ok a' c hm
      exact n2 _ h3 w e6 q6.no
    have nn : ∀ a, a ∈ (γ1 ++ γ2).map Prod.fst → Nt H a := fun a h => by
      rw [List.map_append] at h
      rcases List.mem_append.mp h with h | h
      · exact n1 a h
      · exact g1.backN (n2 a h)
    have E1 := e2.newG (i := i) (s₀ := .obj true x (γ1 ++ γ2)) (v := v) (fun j s x' b _ h1 h2 l1 l2 => e.fresh (nn b l2) j s h1 x' h2 l1) ⟨v, rfl, Dat.mono g2.fs _ dx, (q1.ag g2).app q2 apart⟩
    have O1 := o.newG (i := i) (s₀ := .obj true x (γ1 ++ γ2)) (v := v) fun _ b z => ag.backN (nn b z)
    exact f.nx _ _ F2 H2 hO (E1.set dy) O1.set a2
end
end
section
set_option maxRecDepth 100000
set_option maxHeartbeats 4000000

abbrev slaw : Stmt := top 35
theorem sclaw : FnScope ["_law_script", "_law_state", "_law_turn", "_law_rows", "_law_shown", "_law_handed_here", "_law_way", "_law_made", "_law_again", "_law_told", "_law_x", "_law_more", "_law_other"] ["_law_script"] (defScope slaw) := ⟨rfl, rfl, rfl, by decide +kernel, rfl, by decide +kernel, by decide +kernel⟩
section
variable {P : Program} {w : World} {K : PySem.W.Frag} {mg : Str → Option Value} {base : Heap} {Yr : Ra}
def fRFieldsN (Yr : Ra) : FN := fun ds Φ => ∃ rows way nm, ds = [dR Yr rows way nm] ∧ rows.length ≤ 3 ∧ Φ (rows.map dF)
theorem okMN_fields (B : Bn mg) (Ur : Tr K mg Yr) (Df : DefM K Yr.R "fields" "Rule.fields" sRule_fields) : CalM P w K mg base 1 Yr.R "fields" ["self"] (spN K (fRFieldsN Yr)) := by
  refine CalM.ofN Df scRule_fields (fun _ _ _ _ _ _ us hl => match us, hl with | [_], _ => rfl) (fun ds Φ h => ?_) (fun fa cdv A outer s H hr => ⟨_, (pss_one (ps_mkS ((ps_ret (pe_callTy (n_list K) (by rfl) B.list (by decide +kernel) (pa_cons (e_fld K (pv 0)) pa_nil)))))), fun S ds Φ h => ?_⟩)
  · obtain ⟨_, _, _, rfl, _⟩ := h; rfl
  · obtain ⟨rows, way, nm, rfl, h3, k⟩ := h
    refine ex_mkS (ex_retNew ?_)
    walk_at "dg"
    exact k
theorem rowsD_self (rows : List (List Str)) : RowsD (rows.map dF) rows := ⟨List.length_map _, fun i x f h1 h2 => by
  rw [List.getElem?_map, h2] at h1
  cases h1
  exact .inl rfl⟩
theorem four_ok : ∀ r ∈ fourR, OkRt r := fun r hr => by
  simp only [fourR, List.mem_cons, List.not_mem_nil, or_false] at hr
  rcases hr with rfl | rfl | rfl | rfl
  · exact farR_ok
  · exact lateR_ok
  · exact newR_ok
  · exact okRB_ok (by decide +kernel)
theorem four_one : ∀ r ∈ fourR, (fourR.filter fun q => decide (q = r)).length = 1 := by decide +kernel
theorem Shp.up {n : Nat} : ∀ {γ : Gh} {d : D}, Shp K n γ d → Shp K (n + 1) γ d := by
  induction n with
  | zero => exact fun h => .inl h
  | succ n ih =>
    intro γ d h
    rcases h with h | ⟨ds, gs, F, h1, h2, h3, h4, h5⟩
    · exact .inl h
    · exact .inr ⟨ds, gs, F, h1, h2, fun i x g a b => ih (h3 i x g a b), h4, h5⟩
theorem Shp.pair {n : Nat} {γ1 γ2 : Gh} {d1 d2 : D} {a : Addr} (h1 : Shp K n γ1 d1) (h2 : Shp K n γ2 d2) : Shp K (n + 1) ((γ1 ++ γ2) ++ [(a, .l [d1, d2])]) (pD a) :=
  .inr ⟨[d1, d2], [γ1, γ2], [(a, .l [d1, d2])], rfl, by show 2 < 1000; decide, fun i x g ha hb => match i, ha, hb with
    | 0, ha, hb => by cases ha; cases hb; exact h1
    | 1, ha, hb => by cases ha; cases hb; exact h2, by simp, .inr ⟨a, rfl, List.mem_singleton.mpr rfl⟩⟩
theorem okD_dF {f : List Str} (h : OkF f) : okD 2 (dF f) = true := by
  show (((dS f).all (okD 1)) && decide ((dS f).length < 100000)) = true
  rw [Bool.and_eq_true]
  refine ⟨List.all_eq_true.mpr fun d hd => ?_, decide_eq_true (by rw [dS_len, h.len]; decide)⟩
  obtain ⟨x, _, rfl⟩ := List.mem_map.mp hd
  rfl
theorem sm2 {rows : List (List Str)} {way nm : Str} (O : OkR rows way nm) : smB (okD 3) (.lst [.lst (rows.map dF), .tup [.str way, .str nm]]) = true := by
  have e : okD 3 (.lst (rows.map dF)) = true := by
    show (((rows.map dF).all (okD 2)) && decide ((rows.map dF).length < 100000)) = true
    rw [Bool.and_eq_true]
    refine ⟨List.all_eq_true.mpr fun d hd => ?_, decide_eq_true (by rw [List.length_map]; have := O.le; omega)⟩
    obtain ⟨f, hf, rfl⟩ := List.mem_map.mp hd
    exact okD_dF (O.ok f hf)
  show ((okD 3 (.lst (rows.map dF)) && (okD 3 (.tup [.str way, .str nm]) && true)) && true) = true
  rw [e]
  rfl
theorem ok_law (B : Bn mg) (UC : Tcl K) (Ur : Tr K mg Yr)
    (C_law_fresh : Cal P w K mg base 1 "_law_fresh" ["_law_script"] (spFresh K)) (C_law_take : Cal P w K mg base 2 "_law_take" ["_law_state", "_law_many"] (spD K fTake))
    (C_law_rule : Cal P w K mg base 5 "_law_rule" ["_law_state"] (spC K fRuleW)) (C_law_deep : Cal P w K mg base 6 "_law_deep" ["_law_state", "_law_x"] (spC K (fDpG K True True))) (C_law_blurred : Cal P w K mg base 4 "_law_blurred" ["_law_x"] (spC K (fBl (Shp K 3)))) (C_law_others : Cal P w K mg base 4 "_law_others" ["_law_state", "_law_rows", "_law_shown"] (spD K fOthers)) (C_law_four : Cal P w K mg base 7 "_law_four" [] (spD K (fFour Yr)))
    (C_law_same : Cal P w K mg base 5 "_law_same" ["_law_found", "_law_due"] (spD K (fSm (okD 3)))) (SC_Rule : strB K Yr.R = true)
    (CRule : CalC P w K mg base 4 "Rule" Yr.R ["self", "fields", "show"] (spI K Yr.R fRuleI)) (CRuleG : CalC P w K mg base 4 "Rule" Yr.R ["self", "fields", "show"] (spRI K Yr.R fRuleG)) (CKRuleG : CalCKw P w K mg base CX0 4 "Rule" Yr.R ["self", "fields", "show"] ["show", "fields"] [0, 2, 1] (spRI K Yr.R fRuleG))
    (CRule_fieldsN : CalM P w K mg base 1 Yr.R "fields" ["self"] (spN K (fRFieldsN Yr))) (CRule_fields : CalM P w K mg base 1 Yr.R "fields" ["self"] (spD K (fRFields Yr))) (CRule_show : CalM P w K mg base 1 Yr.R "show" ["self"] (spD K (fRShow Yr)))
    (CSRule___eq__ : CalMS P w K mg base 1 Yr.R "__eq__" ["self", "other"] (spD K (fRuEqA K Yr)))
    {f₀ : Addr} {fd : FuncData} (F : FunD K "law" "law" (defArgs slaw) (defBody slaw) (defScope slaw) [] [] f₀ fd) : FnOk P w K mg base CX0 9 f₀ fd ["_law_script"] (spLaw K) := by
  have cR : ClT K Yr.R := ⟨Ur.cl, Ur.ca, UC.cn, UC.ct, Ur.cm⟩
  refine law_of F sclaw 11 rfl (fun fa cdv A outer s H hr => ⟨_, (pss_cons (ps_set (i := 1) sclaw.nd rfl (Or.inl rfl) (pe_fn C_law_fresh hr (by decide) (pa_cons (pv 0) pa_nil)))
      (pss_cons (ps_for PassesOwn.never rfl (p_range1 B.range (pa_cons pe_int pa_nil)) (pg_name (i := 2) sclaw.nd rfl (Or.inl rfl)) (pss_cons (ps_mkS ((ps_asg (pe_fn C_law_rule hr (by decide) (pa_cons (pv 1) pa_nil)) (pg_tup rfl (pgs_cons (pg_name (i := 3) sclaw.nd rfl (Or.inl rfl)) (pgs_cons (pg_name (i := 4) sclaw.nd rfl (Or.inl rfl)) pgs_nil))))))
      (pss_cons (ps_mkS ((ps_par (i := 5) (j := 6) (by rfl) sclaw.nd rfl rfl (by decide) rfl rfl (pa_cons (pe_fn C_law_deep hr (by decide) (pa_cons (pv 1) (pa_cons (pv 3) pa_nil))) (pa_cons (pe_fn C_law_deep hr (by decide) (pa_cons (pv 1) (pa_cons (pv 4) pa_nil))) pa_nil)) (by rfl))))
      (pss_cons (ps_mkS ((ps_set (i := 7) sclaw.nd rfl (Or.inr rfl) (pe_ifExp (pt_cmpR op_eq (pe_fn C_law_take hr (by decide) (pa_cons (pv 1) (pa_cons pe_int pa_nil))) pe_int (nomark _)) (pe_mk CRuleG hr (by decide) (pa_cons (pv 5) (pa_cons (pv 6) pa_nil))) (pe_mkKw CKRuleG hr (by decide) pass0 (pk_cons (pv 6) (pk_cons (pv 5) pk_nil)))))))
      (pss_cons (ps_mkS ((ps_expr (pe_fn C_law_blurred hr (by decide) (pa_cons (pe_lst (pa_cons (pv 5) (pa_cons (pv 6) pa_nil))) pa_nil)))))
      (pss_cons (ps_for PassesOwn.never rfl (p_range1 B.range (pa_cons pe_int pa_nil)) (pg_name (i := 8) sclaw.nd rfl (Or.inl rfl)) (pss_cons (ps_mkS ((ps_own (ps_set (i := 9) sclaw.nd rfl (Or.inl rfl) (pe_mt0 (pv 7) Ur.cl CRule_fieldsN hr (by decide))))))
      (pss_cons (ps_mkS ((ps_if (pt_not (pt_val (pe_fn C_law_same hr (by decide) (pa_cons (pe_lst (pa_cons (pv 9) (pa_cons (pe_mt0 (pv 7) Ur.cl CRule_show hr (by decide)) pa_nil))) (pa_cons (pe_lst (pa_cons (pv 3) (pa_cons (pv 4) pa_nil))) pa_nil))))) (pss_one (ps_ret pe_bl)) pss_nil)))
      (pss_one (ps_mkS ((ps_expr (e_bm K PySem.F.plainAttrs_list PySem.F.slot_list_append PySem.F.type_list_append mt_append (pv 9) (pa_cons pe_str pa_nil)))))))))
      (pss_cons (ps_mkS ((ps_if (PW.pt (pw_or (pt_not (pt_cmpR (o_eqA CSRule___eq__ hr (by decide)) (pv 7) (pe_mk CRule hr (by decide) (pa_cons (pv 3) (pa_cons (pv 4) pa_nil))) (nomark _))) (pw_or (pt_cmpR (o_neA CSRule___eq__ (strB_ne SC_Rule) (strB_ob SC_Rule) hr (by decide)) (pv 7) (pe_mk CRule hr (by decide) (pa_cons (pe_callTy (n_tuple K) (by rfl) B.tuple (by decide +kernel) (pa_cons (pv 3) pa_nil)) (pa_cons (pe_callTy (n_list K) (by rfl) B.list (by decide +kernel) (pa_cons (pv 4) pa_nil)) pa_nil))) (nomark _)) (pw_or1 (pt_not (pt_cmpR (o_eqA CSRule___eq__ hr (by decide)) (pv 7) (pv 7) (nomark _))))))) (pss_one (ps_ret pe_bl)) pss_nil)))
      (pss_one (ps_mkS ((ps_for PassesOwn.never rfl (q_seq K (pe_op op_cat (pe_lc (own := [("_law_more", 11), ("_law_other", 12)]) (g := (gTup K 2 (gCons (gName 11) (gCons (gName 12) gNil)))) rfl sclaw.nd (q_seq K (pe_fn C_law_others hr (by decide) (pa_cons (pv 1) (pa_cons (pv 3) (pa_cons (pv 4) pa_nil))))) (blkOk_by (own := [("_law_more", 11), ("_law_other", 12)]) (N := ["_law_script", "_law_state", "_law_turn", "_law_rows", "_law_shown", "_law_handed_here", "_law_way", "_law_made", "_law_again", "_law_told", "_law_x", "_law_more", "_law_other"]) (sc := defScope slaw) (by decide +kernel)) (fun _ _ _ _ _ => (pg_tup rfl (pgs_cons (pg_name (i := 11) sclaw.nd rfl (Or.inl rfl) (.inr rfl)) (pgs_cons (pg_name (i := 12) sclaw.nd rfl (Or.inl rfl) (.inr rfl)) pgs_nil)))) (fun _ _ _ _ _ => pts_nil) (fun _ _ _ _ _ => (pe_mk CRule hr (by decide) (pa_cons (pv 11) (pa_cons (pv 12) pa_nil))))) (pe_lst (pa_cons pe_non (pa_cons (pv 3) (pa_cons (pv 4) (pa_cons pe_int (pa_cons pe_str pa_nil)))))))) (pg_name (i := 10) sclaw.nd rfl (Or.inl rfl)) (pss_one (ps_mkS ((ps_if (PW.pt (pw_or (pt_cmpR (o_eqA CSRule___eq__ hr (by decide)) (pv 7) (pv 10) (nomark _)) (pw_or (pt_cmpR (o_or (o_eqR CSRule___eq__ hr (by decide)) (o_eqA CSRule___eq__ hr (by decide))) (pv 10) (pv 7) (nomark _)) (pw_or1 (pt_not (pt_cmpR (o_neA CSRule___eq__ (strB_ne SC_Rule) (strB_ob SC_Rule) hr (by decide)) (pv 7) (pv 10) (nomark _))))))) (pss_one (ps_ret pe_bl)) pss_nil)))))))))))))))
      (pss_cons (ps_for PassesOwn.never rfl (q_seq K (pe_fn0 C_law_four hr (by decide))) (pg_tup rfl (pgs_cons (pg_name (i := 7) sclaw.nd rfl (Or.inr rfl)) (pgs_cons (pg_name (i := 3) sclaw.nd rfl (Or.inl rfl)) (pgs_cons (pg_name (i := 4) sclaw.nd rfl (Or.inl rfl)) pgs_nil)))) (pss_cons (ps_if (PW.pt (pw_or (pt_not (pt_val (pe_fn C_law_same hr (by decide) (pa_cons (pe_lst (pa_cons (pe_mt0 (pv 7) Ur.cl CRule_fields hr (by decide)) (pa_cons (pe_mt0 (pv 7) Ur.cl CRule_show hr (by decide)) pa_nil))) (pa_cons (pe_lst (pa_cons (pv 3) (pa_cons (pv 4) pa_nil))) pa_nil))))) (pw_or1 (pt_not (pt_cmpR (o_eqA CSRule___eq__ hr (by decide)) (pv 7) (pe_mk CRule hr (by decide) (pa_cons (pv 3) (pa_cons (pv 4) pa_nil))) (nomark _)))))) (pss_one (ps_ret pe_bl)) pss_nil)
      (pss_one (ps_if (pt_cmpR op_ne (pe_callB (n_len K) (by rfl) B.len PySem.boot_len (pa_cons (pe_lc (own := [("_law_other", 12)]) (g := (gName 12)) rfl sclaw.nd (q_seq K (pe_fn0 C_law_four hr (by decide))) (blkOk_by (own := [("_law_other", 12)]) (N := ["_law_script", "_law_state", "_law_turn", "_law_rows", "_law_shown", "_law_handed_here", "_law_way", "_law_made", "_law_again", "_law_told", "_law_x", "_law_more", "_law_other"]) (sc := defScope slaw) (by decide +kernel)) (fun _ _ _ _ _ => (pg_name (i := 12) sclaw.nd rfl (Or.inl rfl) (.inr rfl))) (fun _ _ _ _ _ => (pts_one (pt_cmpR (o_eqAK K CSRule___eq__ hr (by decide)) (pe_ix (x_tup K) (pv 12) pe_int (fun _ _ => rfl)) (pv 7) (nomark _)))) (fun _ _ _ _ _ => (pv 12))) pa_nil)) pe_int (nomark _)) (pss_one (ps_ret pe_bl)) pss_nil))))
      (pss_one (ps_ret pe_bl))))), fun S => ?_⟩)
  walk_at "dg"
  refine ⟨6, rfl, by decide, fun i ρ => ∃ a2 a3 a4 a5 a6 a7 a8 a9 a10 a11 a12, ρ = [.un, .val .drw, a2, a3, a4, a5, a6, a7, a8, a9, a10, a11, a12], ⟨_, _, _, _, _, _, _, _, _, _, _, rfl⟩, ?_, ?_⟩
  · rintro i d ρ' hd ⟨a2, a3, a4, a5, a6, a7, a8, a9, a10, a11, a12, rfl⟩
    obtain ⟨hi, rfl⟩ := rgN_get hd
    walk_at "dg"
    refine ex_mkS (ex_unpX (evx_call0 ?_))
    walk_at "dg"
    refine ⟨rfl, rfl, fun rows way nm a O hq => ⟨_, _, rfl, ?_⟩⟩
    refine ex_unptr 3 rfl ?_
    refine ex_frz 3 rfl ?_
    have h3 := O.le
    have h0 := O.ne
    have hst : PySem.W.notFirst K Yr.R (.ref Yr.R) = true := by simp [PySem.W.notFirst]
    show ExD K S _ [.un, .val .drw, .val (.int (i : Int)), .val (.lst (rows.map dF)), .val (.tup [.str way, .str nm]), a5, a6, a7, a8, a9, a10, a11, a12] _
    refine ex_seq (ex_mkS (ex_parFF (evf_call ?_)))
    walk_at "dg"
    refine ⟨_, rfl, rfl, .inr (.inr ⟨trivial, rows, rfl, by omega, fun f hf => by rw [(O.ok f hf).len]; decide, fun d1 γ1 hF hS1 => ?_⟩)⟩
    refine evf_call ?_
    walk_at "dg"
    refine ⟨_, rfl, rfl, .inr (.inl ⟨trivial, [way, nm], rfl, by show 2 < 1000; decide, fun d2 γ2 hW hS2 => ?_⟩)⟩
    show ExD K S _ [.un, .val .drw, .val (.int (i : Int)), .val (.lst (rows.map dF)), .val (.tup [.str way, .str nm]), .obj true d1 (γ1 ++ γ2), .val d2, a7, a8, a9, a10, a11, a12] _
    have hF' := hF.sub (γ' := γ1 ++ γ2) fun p hp => List.mem_append_left _ hp
    have hW' := hW.sub (γ' := γ1 ++ γ2) fun p hp => List.mem_append_right _ hp
    refine ex_seq (ex_mkS (ex_set (ev_if ?_)))
    walk_at "dg"
    refine ⟨_, rfl, by decide, by decide, fun t ht => ?_⟩
    walk_at "dg"
    refine ite_ev (dR Yr rows way nm) (k_dec (fun h => ?_) (fun h => ?_)) ?_
    · refine ev_makeR ?_
      walk_at "dg"
      exact ⟨γ1 ++ γ2, Lent.all 5 rfl, d1, d2, rows, way, nm, rfl, hF', hW', O, rfl⟩
    · refine ev_mkKwR (ix := [1, 0]) ?_
      walk_at "dg"
      exact ⟨rfl, γ1 ++ γ2, Lent.all 5 rfl, d1, d2, rows, way, nm, rfl, hF', hW', O, rfl⟩
    show ExD K S _ [.un, .val .drw, .val (.int (i : Int)), .val (.lst (rows.map dF)), .val (.tup [.str way, .str nm]), .obj true d1 (γ1 ++ γ2), .val d2, .val (dR Yr rows way nm), a8, a9, a10, a11, a12] _
    refine ex_seq (ex_mkS (ex_dropX (evx_callT 5 (evx_ofF (evf_new ?_)))))
    walk_at "dg"
    refine fun a => ⟨d1, γ1 ++ γ2, rfl, _, rfl, Shp.pair hS1 hS2.up, fun γ' => ?_⟩
    refine ex_forget 5 rfl ?_
    show ExD K S _ [.un, .val .drw, .val (.int (i : Int)), .val (.lst (rows.map dF)), .val (.tup [.str way, .str nm]), .val d1, .val d2, .val (dR Yr rows way nm), a8, a9, a10, a11, a12] _
    walk_at "dg"
    refine ⟨2, rfl, by decide, fun j ρ => ∃ a8 a9, ρ = [.un, .val .drw, .val (.int (i : Int)), .val (.lst (rows.map dF)), .val (.tup [.str way, .str nm]), .val d1, .val d2, .val (dR Yr rows way nm), a8, a9, a10, a11, a12], ⟨_, _, rfl⟩, ?_, ?_⟩
    · rintro j d ρ' hd ⟨a8, a9, rfl⟩
      obtain ⟨hj, rfl⟩ := rgN_get hd
      walk_at "dg"
      refine ex_mkS (ex_newO (Nat.le_of_ble_eq_true rfl) (evN_meth ?_))
      walk_at "dg"
      refine ⟨rows, way, nm, rfl, h3, ?_⟩
      show ExD K S _ [_, _, _, _, _, _, _, _, _, .own (rows.map dF), _, _, _] _
      refine ex_seq (ex_mkS (ex_ifB ?_))
      walk_at "dg"
      refine ⟨rows, way, nm, rfl, ?_⟩
      walk_at "dg"
      refine fSm.mk rfl (sm2 O) ?_
      walk_at "dg"
      refine ex_mkS (ex_app rfl (by rw [List.length_map]; omega) ?_)
      walk_at "dg"
      exact ⟨_, _, rfl⟩
    rintro ρ' ⟨b8, b9, rfl⟩
    walk_at "dg"
    refine ex_mkS ?_
    walk_at "dg"
    refine ⟨_, _, _, rows, way, nm, rfl, .inl rfl, rowsD_self rows, .inl rfl, O, ?_⟩
    refine od_eqA (.ins cR) hst (.inl ⟨rows, way, nm, rows, way, nm, rfl, O, O, ?_⟩)
    rw [decide_eq_true (show rows = rows ∧ way = way ∧ nm = nm from ⟨rfl, rfl, rfl⟩)]
    walk_at "dg"
    refine ⟨_, _, _, rows, way, nm, rfl, .inr rfl, rowsD_self rows, .inr rfl, O, ?_⟩
    refine od_neA (.ins cR) hst (.inl ⟨rows, way, nm, rows, way, nm, rfl, O, O, ?_⟩)
    rw [decide_eq_true (show rows = rows ∧ way = way ∧ nm = nm from ⟨rfl, rfl, rfl⟩)]
    walk_at "dg"
    refine od_eqA (.ins cR) hst (.inl ⟨rows, way, nm, rows, way, nm, rfl, O, O, ?_⟩)
    rw [decide_eq_true (show rows = rows ∧ way = way ∧ nm = nm from ⟨rfl, rfl, rfl⟩)]
    walk_at "dg"
    refine ex_mkS ?_
    walk_at "dg"
    refine ⟨rows, way, nm, rfl, O, hq, fun res hrl hres => ?_⟩
    walk_at "dg"
    refine ⟨fun j acc => acc = (res.take j).map (dRt Yr), rfl, ?_, ?_⟩
    · rintro j d acc hd rfl
      rw [List.getElem?_map] at hd
      cases hr : res[j]? with
      | none => rw [hr] at hd; cases hd
      | some r =>
      rw [hr] at hd
      cases hd
      have o := (hres r (List.mem_of_getElem? hr)).1
      refine ⟨by rw [List.length_map, List.length_take]; omega, ?_⟩
      walk_at "dg"
      refine ⟨_, _, _, r.1, r.2.1, r.2.2, rfl, .inl rfl, rowsD_self r.1, .inl rfl, o, ?_⟩
      show List.map (dRt Yr) (List.take j res) ++ [dRt Yr r] = List.map (dRt Yr) (List.take (j + 1) res)
      rw [List.take_add_one, hr, List.map_append]
      rfl
    rintro acc rfl
    have htk : res.take (res.map dPt).length = res := by rw [List.length_map, List.take_length]
    rw [htk]
    have hml : (res.map (dRt Yr)).length ≤ 4 := by rw [List.length_map]; exact hrl
    walk_at "dg"
    refine ⟨fun j ρ => ∃ a10, ρ = [.un, .val .drw, .val (.int (i : Int)), .val (.lst (rows.map dF)), .val (.tup [.str way, .str nm]), .val d1, .val d2, .val (dR Yr rows way nm), b8, b9, a10, a11, a12], ⟨_, rfl⟩, ?_, ?_⟩
    · rintro j x ρ' hx ⟨a10, rfl⟩
      have hU : (∃ r : Rt3, x = dRt Yr r ∧ OkRt r ∧ r ≠ (rows, (way, nm))) ∨ (StrD K Yr.R x ∧ BltD K Yr.R x) := by
        rcases List.mem_append.mp (List.mem_of_getElem? hx) with h | h
        · obtain ⟨r, hr, rfl⟩ := List.mem_map.mp h
          exact .inl ⟨r, rfl, hres r hr⟩
        · simp only [List.mem_cons, List.not_mem_nil, or_false] at h
          rcases h with rfl | rfl | rfl | rfl | rfl
          · exact .inr ⟨strD_non SC_Rule, bltD_non SC_Rule⟩
          · exact .inr ⟨strD_lst SC_Rule, bltD_lst SC_Rule⟩
          · exact .inr ⟨strD_tup SC_Rule, bltD_tup SC_Rule⟩
          · exact .inr ⟨strD_int SC_Rule, bltD_int SC_Rule⟩
          · exact .inr ⟨strD_str SC_Rule, bltD_str SC_Rule⟩
      clear hx
      have fs : (∃ t, TyD K x t ∧ PySem.W.notFirst K Yr.R t = true) ∧ (∀ Φ : D → Prop, Φ (.bl false) → fRuEqA K Yr [dR Yr rows way nm, x] Φ) ∧ ∀ Φ : D → Prop, Φ (.bl false) → OpD K S.nw (rOr (rEqR K Yr.R (spD K (fRuEqA K Yr))) (rEqA K Yr.R (spD K (fRuEqA K Yr)))) x (dR Yr rows way nm) Φ := by
        rcases hU with ⟨r, rfl, o, hne⟩ | ⟨st, hb⟩
        · have e1 : decide (rows = r.1 ∧ way = r.2.1 ∧ nm = r.2.2) = false := decide_eq_false fun z => hne (by obtain ⟨a, b, c⟩ := r; obtain ⟨rfl, rfl, rfl⟩ := z; rfl)
          have e2 : decide (r.1 = rows ∧ r.2.1 = way ∧ r.2.2 = nm) = false := decide_eq_false fun z => hne (by obtain ⟨a, b, c⟩ := r; obtain ⟨rfl, rfl, rfl⟩ := z; rfl)
          exact ⟨⟨_, .ins cR, hst⟩, fun Φ k => .inl ⟨rows, way, nm, r.1, r.2.1, r.2.2, rfl, O, o, by rw [e1]; exact k⟩, fun Φ k => od_orR (od_eqA (.ins cR) hst (.inl ⟨r.1, r.2.1, r.2.2, rows, way, nm, rfl, o, O, by rw [e2]; exact k⟩))⟩
        · obtain ⟨t, h1, h2, h3⟩ := id st
          exact ⟨⟨t, h1, h3⟩, fun Φ k => fRuEqA.no st k, fun Φ k => od_orL (od_eqR hb (fRuEqA.no st k))⟩
      obtain ⟨⟨t, ht, hn1⟩, f1, f2⟩ := fs
      walk_at "dg"
      refine ex_mkS ?_
      walk_at "dg"
      refine od_eqA ht hn1 (f1 _ ?_)
      walk_at "dg"
      refine f2 _ ?_
      walk_at "dg"
      refine od_neA ht hn1 (f1 _ ?_)
      walk_at "dg"
      simp only [Bool.not_false, Bool.not_true]
      walk_at "dg"
      exact ⟨_, rfl⟩
    · rintro ρ' ⟨a10, rfl⟩
      walk_at "dg"
      exact ⟨_, _, _, _, _, _, _, _, _, _, _, rfl⟩
  · rintro ρ' ⟨a2, a3, a4, a5, a6, a7, a8, a9, a10, a11, a12, rfl⟩
    walk_at "dg"
    refine ⟨rfl, ?_⟩
    have hst : PySem.W.notFirst K Yr.R (.ref Yr.R) = true := by simp [PySem.W.notFirst]
    walk_at "dg"
    refine ⟨fun i ρ => ∃ b3 b4 b7 b12, ρ = [.un, .val .drw, a2, b3, b4, a5, a6, b7, a8, a9, a10, a11, b12], ⟨_, _, _, _, rfl⟩, ?_, ?_⟩
    · rintro i d ρ' hd ⟨b3, b4, b7, b12, rfl⟩
      rw [List.getElem?_map] at hd
      cases hr : fourR[i]? with
      | none => rw [hr] at hd; cases hd
      | some r =>
      rw [hr] at hd
      cases hd
      have hr := List.mem_of_getElem? hr
      have O := four_ok r hr
      have h3 := O.le
      walk_at "dg"
      refine ⟨r.1, r.2.1, r.2.2, rfl, h3, ?_⟩
      walk_at "dg"
      refine ⟨r.1, r.2.1, r.2.2, rfl, ?_⟩
      walk_at "dg"
      refine fSm.mk rfl (sm2 O) ?_
      walk_at "dg"
      refine ⟨_, _, _, r.1, r.2.1, r.2.2, rfl, .inl rfl, rowsD_self r.1, .inl rfl, O, ?_⟩
      refine od_eqA (.ins cR) hst (.inl ⟨r.1, r.2.1, r.2.2, r.1, r.2.1, r.2.2, rfl, O, O, ?_⟩)
      rw [decide_eq_true (show r.1 = r.1 ∧ r.2.1 = r.2.1 ∧ r.2.2 = r.2.2 from ⟨rfl, rfl, rfl⟩)]
      walk_at "dg"
      refine ⟨rfl, ?_⟩
      walk_at "dg"
      refine ⟨fun j acc => acc.length = ((fourR.take j).filter fun q => decide (q = r)).length, rfl, ?_, ?_⟩
      · rintro j d acc hd ha
        rw [List.getElem?_map] at hd
        cases hq : fourR[j]? with
        | none => rw [hq] at hd; cases hd
        | some q =>
        rw [hq] at hd
        cases hd
        have o := four_ok q (List.mem_of_getElem? hq)
        have hj : j < 4 := (List.getElem?_eq_some_iff.mp hq).1
        have e4 : ((fourR.take (j + 1)).filter fun q => decide (q = r)) = ((fourR.take j).filter fun q => decide (q = r)) ++ if q = r then [q] else [] := by
          rw [List.take_add_one, hq, List.filter_append]
          by_cases z : q = r <;> simp [z]
        have hle : ((fourR.take j).filter fun q => decide (q = r)).length ≤ 4 := Nat.le_trans (List.length_filter_le _ _) (by rw [List.length_take]; omega)
        refine ⟨by omega, ?_⟩
        walk_at "dg"
        refine od_eqA (.ins cR) hst (.inl ⟨q.1, q.2.1, q.2.2, r.1, r.2.1, r.2.2, rfl, o, O, ?_⟩)
        walk_at "dg"
        refine k_dec (fun z => ?_) (fun z => ?_)
        · obtain ⟨z1, z2, z3⟩ := z
          have z : q = r := by obtain ⟨a, b, c⟩ := q; obtain ⟨a', b', c'⟩ := r; cases z1; cases z2; cases z3; rfl
          walk_at "dg"
          show (acc ++ [_]).length = (List.filter (fun q => decide (q = r)) (List.take (j + 1) fourR)).length
          rw [e4, if_pos z, List.length_append, List.length_append, ha]
          rfl
        · have z : q ≠ r := fun e => z (by rw [e]; exact ⟨rfl, rfl, rfl⟩)
          walk_at "dg"
          show acc.length = (List.filter (fun q => decide (q = r)) (List.take (j + 1) fourR)).length
          rw [e4, if_neg z, List.append_nil, ha]
      · intro acc ha
        have ha : acc.length = 1 := ha.trans (four_one r hr)
        walk_at "dg"
        rw [ha]
        walk_at "dg"
        refine k_no rfl ?_
        walk_at "dg"
        exact ⟨_, _, _, _, rfl⟩
    · rintro ρ' ⟨b3, b4, b7, b12, rfl⟩
      walk_at "dg"
      rfl
end
end
end Lf
set_option Elab.async false
set_option linter.all false
set_option maxRecDepth 100000
set_option maxHeartbeats 0
/-! The head and the end. -/
namespace Lf
open PySem PySem.Spec PyProof.Rows L2
section
variable {P : Program} {w : World} {K : PySem.W.Frag} {h : Heap} {mg : Str → Option Value} {f : Addr}
theorem g_def (X : K.In h) (G : h.Ns mainGlobals mg) (c : He.SaysD fa fn K) {x : Str} {st : Stmt} {d : He.DefD} (i j : Nat) (hi : fa[i]? = some (.glo x) := by rfl) (hj : fn[j]? = some d := by rfl)
    (e : d = ⟨(x, none), x, x, defArgs st, defBody st, defScope st, [], []⟩ := by rfl) : Def K mg x st := by
  obtain ⟨fd, F⟩ := c.def_ j hj
  subst e
  exact ⟨He.ga K x, fd, He.glo_ok X G (c.fact i hi), F⟩
theorem g_meth (c : He.SaysD fa fn K) {x m q : Str} {st : Stmt} {d : He.DefD} (i j : Nat) (hi : fa[i]? = some (.meth x m) := by rfl) (hj : fn[j]? = some d := by rfl)
    (e : d = ⟨(x, some m), m, q, defArgs st, defBody st, defScope st, [], []⟩ := by rfl) : DefM K (He.ga K x) m q st := by
  obtain ⟨fd, F⟩ := c.def_ j hj
  subst e
  exact ⟨He.ma K (He.ga K x) m, fd, He.meth_ok (c.fact i hi), F⟩
theorem g_prop {x m q : Str} {st : Stmt} (h1 : prB K x m = true) (h2 : okA K (pgA K x m) q = true) (h3 : fnA K (pgA K x m) = some (m, q, defArgs st, .stmts (defBody st), defScope st, mainGlobals, [], builtinsNs)) : DefP K (He.ga K x) m q st := by
  obtain ⟨fd, F⟩ := funA h3 h2
  exact ⟨_, _, fd, prB_ok h1, F⟩
theorem g_cls (X : K.In h) (G : h.Ns mainGlobals mg) (c : He.SaysD fa fn K) {base : Heap} {k : Nat} {x : Str} {ps : List Str} {sp : Sp} (i j : Nat) (C : CalM P w K mg base k (He.ga K x) "__init__" ps sp) (hi : fa[i]? = some (.glo x) := by rfl) (hj : fa[j]? = some (.mkr x) := by rfl) :
    CalC P w K mg base k x (He.ga K x) ps sp := by
  have m := c.fact j hj
  obtain ⟨m1, m2⟩ := He.ba (show (PySem.W.makesIn K (He.ga K x) && (He.eqO (PySem.W.findIn K (.ref (He.ga K x)) "__init__") (some (some (.ref (He.ma K (He.ga K x) "__init__")))) && (PySem.W.isFn K (.ref (He.ma K (He.ga K x) "__init__")) && PySem.W.keepIn K (.ref (He.ga K x))))) = true from m)
  exact ⟨He.glo_ok X G (c.fact i hi), m1, (He.ba (He.ba m2).2).2, C⟩
theorem g_clsX (X : K.In h) (G : h.Ns mainGlobals mg) (c : He.SaysD fa fn K) {base : Heap} {k : Nat} {x : Str} {ps : List Str} {sp : Sp} (i j : Nat) (C : CalMX P w K mg base k (He.ga K x) "__init__" ps sp) (hi : fa[i]? = some (.glo x) := by rfl) (hj : fa[j]? = some (.mkr x) := by rfl) :
    CalCX P w K mg base k x (He.ga K x) ps sp := by
  have m := c.fact j hj
  obtain ⟨m1, m2⟩ := He.ba (show (PySem.W.makesIn K (He.ga K x) && (He.eqO (PySem.W.findIn K (.ref (He.ga K x)) "__init__") (some (some (.ref (He.ma K (He.ga K x) "__init__")))) && (PySem.W.isFn K (.ref (He.ma K (He.ga K x) "__init__")) && PySem.W.keepIn K (.ref (He.ga K x))))) = true from m)
  exact ⟨He.glo_ok X G (c.fact i hi), m1, (He.ba (He.ba m2).2).2, C⟩
theorem g_clsKw (X : K.In h) (G : h.Ns mainGlobals mg) (c : He.SaysD fa fn K) {base : Heap} {CX : CXT} {k : Nat} {x : Str} {ps ks : List Str} {ix : List Nat} {sp : Sp} (i j : Nat) (C : CalMKw P w K mg base CX k (He.ga K x) "__init__" ps 1 ks ix sp) (hi : fa[i]? = some (.glo x) := by rfl) (hj : fa[j]? = some (.mkr x) := by rfl) :
    CalCKw P w K mg base CX k x (He.ga K x) ps ks ix sp := by
  have m := c.fact j hj
  obtain ⟨m1, m2⟩ := He.ba (show (PySem.W.makesIn K (He.ga K x) && (He.eqO (PySem.W.findIn K (.ref (He.ga K x)) "__init__") (some (some (.ref (He.ma K (He.ga K x) "__init__")))) && (PySem.W.isFn K (.ref (He.ma K (He.ga K x) "__init__")) && PySem.W.keepIn K (.ref (He.ga K x))))) = true from m)
  exact ⟨He.glo_ok X G (c.fact i hi), m1, (He.ba (He.ba m2).2).2, C⟩
theorem g_bn (X : K.In h) (G : h.Ns mainGlobals mg) (c : He.SaysD fa fn K) : Bn mg := ⟨He.free_ok X G (c.fact 34 rfl), He.free_ok X G (c.fact 35 rfl), He.free_ok X G (c.fact 36 rfl), He.free_ok X G (c.fact 37 rfl), He.free_ok X G (c.fact 38 rfl), He.free_ok X G (c.fact 39 rfl), He.free_ok X G (c.fact 40 rfl), He.free_ok X G (c.fact 41 rfl), He.free_ok X G (c.fact 42 rfl), He.free_ok X G (c.fact 43 rfl), He.free_ok X G (c.fact 44 rfl), He.free_ok X G (c.fact 45 rfl), He.free_ok X G (c.fact 46 rfl), He.free_ok X G (c.fact 47 rfl), He.free_ok X G (c.fact 48 rfl)⟩
def Zs (K : PySem.W.Frag) : Cs := ⟨He.ga K "Work", He.ga K "Edition"⟩
def Yu (K : PySem.W.Frag) : Ra := ⟨He.ga K "Rule", He.ga K "PARTS", He.ga K "WAYS", He.ga K "WORDS"⟩
theorem factsY (X : K.In h) (G : h.Ns mainGlobals mg) (hfa : mg ("law" : Str) = some (.ref f)) (c : He.SaysD fa fn K) (y : exY K = true) (gt : gtY K = vlY) (dt : ((tsY K).map fun t => He.dicW K t.1) = kyY w) :
    ∃ fd : FuncData, (∀ (s : Shared) (v : Value), BindsTo s fd ⟨[v], []⟩ [("_law_script", v)]) ∧ ∀ base : Heap, K.In base → base.Ns mainGlobals mg → FnOk P w K mg base CX0 9 f fd ["_law_script"] (spLaw K) := by
  have B := g_bn X G c
  have y : (exs K).all id = true := y
  have W : Cw mg := ⟨He.str_ok X G (c.fact 49 rfl), He.int_ok X G (c.fact 50 rfl)⟩
  have Ur : Tr K mg (Yu K) := ⟨(He.glo_ok X G (c.fact 22 rfl)), (of_decide_eq_true (row_at y 2 rfl)), (of_decide_eq_true (row_at y 3 rfl)), (He.cls_ok (c.fact 26 rfl)), (He.noat_ok (c.fact 28 rfl)), (He.noat_ok (c.fact 29 rfl))⟩
  have UC : Tcl K := ⟨(of_decide_eq_true (row_at y 0 rfl)), (of_decide_eq_true (row_at y 1 rfl))⟩
  have SC_Rule := (row_at y 7 rfl)
  have KD_WORDS : ∃ es n, KDict K w (He.ga K "WORDS") es n := kyT_at (ts := tsY K) dt 0 rfl
  have Cs1 : Trc K w mg (Yu K) := ⟨(He.glo_ok X G (c.fact 23 rfl)), (He.glo_ok X G (c.fact 24 rfl)), (He.glo_ok X G (c.fact 25 rfl)), (He.int_ok X G (c.fact 51 rfl)), txB_ok (row_at y 4 rfl), txB_ok (row_at y 5 rfl), fun i p us h1 h2 => kd_rows KD_WORDS (row_at y 6 rfl) i p us h1 h2⟩
  have Dis_word : Def K mg "is_word" sis_word := g_def X G c 0 0
  have Dis_row : Def K mg "is_row" sis_row := g_def X G c 1 1
  have Dis_one_of : Def K mg "is_one_of" sis_one_of := g_def X G c 2 2
  have Dfield_reason : Def K mg "field_reason" sfield_reason := g_def X G c 3 3
  have Dchecked_fields : Def K mg "checked_fields" schecked_fields := g_def X G c 4 4
  have Dchecked_show : Def K mg "checked_show" schecked_show := g_def X G c 5 5
  have D_law_fresh : Def K mg "_law_fresh" s_law_fresh := g_def X G c 6 6
  have D_law_fill : Def K mg "_law_fill" s_law_fill := g_def X G c 7 7
  have D_law_take : Def K mg "_law_take" s_law_take := g_def X G c 8 8
  have D_law_one : Def K mg "_law_one" s_law_one := g_def X G c 9 9
  have D_law_same : Def K mg "_law_same" s_law_same := g_def X G c 10 10
  have D_law_all_words : Def K mg "_law_all_words" s_law_all_words := g_def X G c 11 11
  have D_law_some_words : Def K mg "_law_some_words" s_law_some_words := g_def X G c 12 12
  have D_law_handed : Def K mg "_law_handed" s_law_handed := g_def X G c 13 13
  have D_law_parts : Def K mg "_law_parts" s_law_parts := g_def X G c 14 14
  have D_law_field : Def K mg "_law_field" s_law_field := g_def X G c 15 15
  have D_law_rule : Def K mg "_law_rule" s_law_rule := g_def X G c 16 16
  have D_law_deep : Def K mg "_law_deep" s_law_deep := g_def X G c 17 17
  have D_law_four : Def K mg "_law_four" s_law_four := g_def X G c 18 18
  have D_law_others : Def K mg "_law_others" s_law_others := g_def X G c 19 19
  have D_law_blurred : Def K mg "_law_blurred" s_law_blurred := g_def X G c 20 20
  have Dlaw : Def K mg "law" slaw := g_def X G c 21 21
  have DRule___init__ : DefM K (Yu K).R "__init__" "Rule.__init__" sRule___init__ := g_meth (x := "Rule") c 30 22
  have DRule___eq__ : DefM K (Yu K).R "__eq__" "Rule.__eq__" sRule___eq__ := g_meth (x := "Rule") c 31 23
  have DRule_fields : DefM K (Yu K).R "fields" "Rule.fields" sRule_fields := g_meth (x := "Rule") c 32 24
  have DRule_show : DefM K (Yu K).R "show" "Rule.show" sRule_show := g_meth (x := "Rule") c 33 25
  have DRule_furthest : DefSt K (Yu K).R "furthest" "Rule.furthest" sRule_furthest := g_static (x := "Rule") (m := "furthest") (row_at y 8 rfl) (row_at y 9 rfl) (Option.some.inj (congrArg (fun l : List He.FnW => l[0]?) gt))
  have DRule_latest : DefSt K (Yu K).R "latest" "Rule.latest" sRule_latest := g_static (x := "Rule") (m := "latest") (row_at y 10 rfl) (row_at y 11 rfl) (Option.some.inj (congrArg (fun l : List He.FnW => l[1]?) gt))
  have DRule_newest : DefSt K (Yu K).R "newest" "Rule.newest" sRule_newest := g_static (x := "Rule") (m := "newest") (row_at y 12 rfl) (row_at y 13 rfl) (Option.some.inj (congrArg (fun l : List He.FnW => l[2]?) gt))
  have DRule_inrow : DefSt K (Yu K).R "inrow" "Rule.inrow" sRule_inrow := g_static (x := "Rule") (m := "inrow") (row_at y 14 rfl) (row_at y 15 rfl) (Option.some.inj (congrArg (fun l : List He.FnW => l[3]?) gt))
  obtain ⟨f0, fd, hm, F⟩ := Dlaw
  have e := hfa.symm.trans hm
  cases e
  have b := FunD.bindsA (ps := ["_law_script"]) F fun _ _ _ _ _ _ us hl => match us, hl with | [_], _ => rfl
  refine ⟨fd, fun s v => b s [v] rfl, fun base _ _ => ?_⟩
  have C_law_fresh := ok_fresh (P := P) (w := w) (base := base) D_law_fresh
  have C_law_fill := ok_fill (P := P) (w := w) (base := base) B D_law_fill
  have C_law_takeH := ok_take (P := P) (w := w) (base := base) B C_law_fill D_law_take
  have C_law_take := Cal.take C_law_takeH
  have C_law_all_words := ok_all_words (P := P) (w := w) (base := base) D_law_all_words
  have C_law_some_wordsH := ok_some_words (P := P) (w := w) (base := base) B C_law_all_words C_law_takeH D_law_some_words
  have C_law_some_words := Cal.some (K := K) C_law_some_wordsH
  have C_law_one := okD_one (P := P) (w := w) (base := base) B C_law_take D_law_one
  have Cis_row := okD_is_row (P := P) (w := w) (base := base) B Dis_row
  have Cis_word := okD_is_word (P := P) (w := w) (base := base) B W Dis_word
  have C_law_same := okD_same (P := P) (w := w) (base := base) B D_law_same
  have Cis_one_of := okD_one_of (P := P) (w := w) (base := base) B Dis_one_of
  have Cfield_reason := okD_reason (P := P) (w := w) (base := base) B Cs1 Cis_row Cis_word Cis_one_of Dfield_reason
  have Cchecked_fields := okD_fields (P := P) (w := w) (base := base) B Cs1 Cis_row Cfield_reason Dchecked_fields
  have Cchecked_show := okD_show (P := P) (w := w) (base := base) B Cs1 Cis_row Cis_one_of Dchecked_show
  have CRule___init__ := okD_rule_init (P := P) (w := w) (base := base) B Ur Cchecked_fields Cchecked_show DRule___init__
  have CRule : CalC P w K mg base 4 "Rule" (Yu K).R ["self", "fields", "show"] (spI K (Yu K).R fRuleI) := g_cls X G c 22 27 CRule___init__
  have C_law_parts := okD_parts (P := P) (w := w) (base := base) B D_law_parts
  have C_law_field := okD_field (P := P) (w := w) (base := base) B C_law_one C_law_parts D_law_field
  have CRule_fields := okM_fields (P := P) (w := w) (base := base) B Ur DRule_fields
  have CRule_show := okM_show (P := P) (w := w) (base := base) B Ur DRule_show
  have CRule_furthest := okS_furthest (P := P) (w := w) (base := base) Ur CRule DRule_furthest
  have CRule_latest := okS_latest (P := P) (w := w) (base := base) Ur CRule DRule_latest
  have CRule_newest := okS_newest (P := P) (w := w) (base := base) Ur CRule DRule_newest
  have CRule_inrow := okS_inrow (P := P) (w := w) (base := base) Ur CRule DRule_inrow
  have CSRule___eq__ := okS_rule_eq (P := P) (w := w) (base := base) B UC Ur DRule___eq__
  have C_law_blurred := okC_blurred (P := P) (w := w) (base := base) B D_law_blurred
  have C_law_handed := okC_handG (P := P) (w := w) (base := base) B C_law_take D_law_handed
  have C_law_deep := okC_deepG (P := P) (w := w) (base := base) B C_law_handed D_law_deep
  have Cchecked_fieldsG := okRN_fields (P := P) (w := w) (base := base) B Cs1 Cis_row Cfield_reason Dchecked_fields
  have Cchecked_showG := okR_show (P := P) (w := w) (base := base) B Cs1 Cis_row Cis_one_of Dchecked_show
  have CARule___init__ := okAR_rule (P := P) (w := w) (base := base) B Ur Cchecked_fieldsG Cchecked_showG DRule___init__
  have CRule___init__G := okMR_rule (P := P) (w := w) (base := base) CARule___init__
  have CRuleG : CalC P w K mg base 4 "Rule" (Yu K).R ["self", "fields", "show"] (spRI K (Yu K).R fRuleG) := g_cls X G c 22 27 CRule___init__G
  have CKRule___init____show_fields := okKR_rule (P := P) (w := w) (base := base) CARule___init__
  have CKRuleG := g_clsKw (x := "Rule") X G c 22 27 CKRule___init____show_fields
  have C_law_rule := okC_ruleW (P := P) (w := w) (base := base) B C_law_take C_law_one C_law_some_words C_law_field D_law_rule
  have C_law_others := okD_others (P := P) (w := w) (base := base) B C_law_take C_law_one C_law_parts D_law_others
  have C_law_four := okD_four (P := P) (w := w) (base := base) Ur CRule_furthest CRule_latest CRule_newest CRule_inrow D_law_four
  have CRule_fieldsN := okMN_fields (P := P) (w := w) (base := base) B Ur DRule_fields
  exact ok_law B UC Ur C_law_fresh C_law_take C_law_rule C_law_deep C_law_blurred C_law_others C_law_four C_law_same SC_Rule CRule CRuleG CKRuleG CRule_fieldsN CRule_fields CRule_show CSRule___eq__ F
end
end Lf
open PySem PySem.W PySem.Calls PyProof.Rows
theorem PySem.Challenge.cw_leafmarks_k21_rules_told_holds : PySem.Challenge.rw_leafmarks_k21_rules_told.Holds := by
  refine Lf.head0 ?hc
  case hc =>
    refine L2.walk_ofE (l := PySem.Challenge.rw_leafmarks_k21_rules_told) (n := 63) (k := 9) (x := "_law_script") (CX := L2.CX0) rfl (by decide) (by kernel_rfl) ⟨rfl, by decide, by decide⟩ ?F (fun _ _ _ _ z => z)
    intro w mg fa h Y G hmg0
    obtain ⟨K, KX, c, y, gt, dt⟩ := Y
    have hmg : mg ("law" : PySem.Str) = some (.ref fa) := by
      have e : (HandSHeadRun.topDef (OpenLaw.row PySem.Challenge.rw_leafmarks_k21_rules_told).prog 35).name = ("law" : PySem.Str) := by kernel_rfl
      rw [← e]
      exact hmg0
    obtain ⟨fd, hb, hF⟩ := Lf.factsY (P := (PySem.Challenge.rw_leafmarks_k21_rules_told).prog) (w := w) KX G hmg c y gt dt
    exact ⟨K, fd, Lf.spLaw K, KX, hb, fun H a ns hl _ hS => ⟨a, ns, rfl, hS, hl, fun _ => rfl⟩, hF⟩
