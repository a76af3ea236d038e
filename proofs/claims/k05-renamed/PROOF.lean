import PyProof.Rows.All
import Wide.All
import OpenK.AllK
import Wide.FinOn
import KE.GoesEnum
import HandS.ForMost
import HandS.Defaults
import HandS.Iter
import HandS.TupMul
import HandS.SetFor
import HandS.Strs
import HandS.TupSets
import HandS.List
import PyProof.WalkInts
import HandS.Dict
import KE.KDictPairs
import PyProof.DictRoadsH
import HandS.TupAny
import HandS.Conv
import HandS.SortRule
import HandS.Zip
import HandS.Deep
import HandS.Sort
import HandS.TupLe
import HandS.SortInts
import HandS.Text
import HandS.IsInst
import HandS.Flow
import HandS.Style
import HandS.SetKeys
import HandS.Head0
import HandS.Head1
import HandS.Head2
import HandS.HeadEnd
import HandS.HeadHook1
import HandS.HeadHook2
import PyProof.P3Eq
import KE.KStateDown
import Lean
import HandS.Ends
import HandS.More
import HandS.Words
import HandS.WordsExc
import PySem.Challenge.RW_webintoweb_k05_webs_renamed
set_option Elab.async false
set_option linter.all false
set_option maxRecDepth 100000
set_option maxHeartbeats 0
/-! W0: enumerate over a tuple or a text. -/
namespace Wb
open PySem PySem.Spec PyProof.Rows L2
theorem meets_enumB {v : Value} {o : Obj} {H : Heap → Prop} (B : Begins v o H) :
    Meets (Builtin.«enumerate.__new__» ⟨[.type "enumerate", v], []⟩) (fun _ R s => H s.heap ∧
      R (.ok (.ret (.ref (s.heap.push o).objs.size))) { s with heap := (s.heap.push o).push { cls := .type "enumerate", data := .fields #[.none, .bool false, .ref s.heap.objs.size, rawInt 0, .none, .none] } }) :=
  .of_wp fun prog w A R s h => by
    obtain ⟨hp, g, d, tk, os⟩ := s; obtain ⟨h1, h⟩ := h
    have hsub := sub_enumerate
    have q1 : ∀ {A' : Around} {E : Value → Shared → Prop} {Q : Value → Shared → Prop}, Q (.ref hp.objs.size) ⟨hp.push o, g, d, tk, os⟩ → wpAny (model prog w) A' (pyIter v) Q E ⟨hp, g, d, tk, os⟩ :=
      fun q => B.iter prog w _ _ ⟨hp, g, d, tk, os⟩ _ h1 q
    wp_walk using q1
    refine wpAny_stack_any fun st => wpAny_pure ?_
    split
    · rename_i c _ _ _ _ _
      cases (c == Value.type "enumerate")
      · wp_walk using q1
        exact ⟨_, rfl, h⟩
      · wp_walk using q1
        exact ⟨_, rfl, h⟩
    · wp_walk using q1
      exact ⟨_, rfl, h⟩
section
variable {prog : Program} {w : World} {A : Around} {E : Value → Shared → Prop} {s : Shared}
theorem enumB_begins {v : Value} {o : Obj} {H : Heap → Prop} {Q : Value → Shared → Prop} (B : Begins v o H) (h1 : H s.heap)
    (h : ∀ h', IsEnum h' (s.heap.objs.size + 1) s.heap.objs.size 0 .none → h'.get? s.heap.objs.size = some o → h'.objs.size = s.heap.objs.size + 2 →
      (∀ b o, s.heap.get? b = some o → h'.get? b = some o) → Q (.ref (s.heap.objs.size + 1)) { s with heap := h' }) :
    wpAny (model prog w) A (call (.type "enumerate") [v]) Q E s := by
  refine callType_new F.called_enumerate (by decide) (F.typeCall_enumerate_1 _) (F.newCall_enumerate_1 _) (fun obj => F.args_object_init_2 obj _) F.entry_enumerate_new
    (meets_enumB B) ⟨h1, ?_⟩
  have hz : (s.heap.push o).objs.size = s.heap.objs.size + 1 := Heap.size_push ..
  show _ ∧ _
  rw [hz]
  have he : IsEnum ((s.heap.push o).push { cls := .type "enumerate", data := .fields #[.none, .bool false, .ref s.heap.objs.size, rawInt 0, .none, .none] }) (s.heap.objs.size + 1) s.heap.objs.size 0 .none := by
    have := Heap.get?_push_size (s.heap.push o) (o := { cls := .type "enumerate", data := .fields #[.none, .bool false, .ref s.heap.objs.size, rawInt 0, .none, .none] }) rfl
    rw [hz] at this; exact this
  refine ⟨⟨_, he, rfl⟩, h _ he (Heap.get?_push_of_some _ (Heap.get?_push_size _ B.free)) (by rw [Heap.size_push, hz]) fun b o x => Heap.get?_push_of_some _ (Heap.get?_push_of_some _ x)⟩
end
/-- the tuple at a, each item in a new pair -/
def IteT (K : PySem.W.Frag) (a : Addr) : It :=
  ⟨fun i H => ∃ (xs : List V) (x : V), SqT K H a xs ∧ xs[i]? = some x, fun i H v H' => ∃ T x o, v = .ref T ∧ H T = none ∧ (o.dict = none ∧ H' = upd H T (.frz o (.tup [.int (i : Nat), x]))) ∧ ∀ xs, SqT K H a xs → xs[i]? = some x, fun i H => ∃ xs : List V, SqT K H a xs ∧ xs.length ≤ i⟩
theorem turn_enumT {P : Program} {w : World} {K : PySem.W.Frag} {elts : List Expr} {kk : Nat} {tpos : Pos} (a e it : Addr) :
    Turn P w K (.Tuple elts kk tpos) (IteT K a) [e, it] e (fun i h => (∃ old, IsEnum h e it ((i : Nat) : Int) old) ∧ h.IsTupleIter it a i ∧ e ≠ it) where
  mem := by simp
  obj := fun i h st b hb => by
    obtain ⟨⟨old, he⟩, ⟨o, ho, hc, hd⟩, _⟩ := st
    have e' : b = e ∨ b = it := by simpa using hb
    rcases e' with z | z
    · rw [z]; exact ⟨_, he, fun v q => nomatch q⟩
    · rw [z]; exact ⟨o, ho, fun v q => by rw [hd] at q; cases q⟩
  keep := fun i h h' st k => let ⟨⟨old, he⟩, hi, hne⟩ := st; ⟨⟨old, k e (by simp) _ he⟩, hi.at fun o q => k it (by simp) o q, hne⟩
  item := by
    intro X hP hw hK hc i pins s σ H E I hf st hg
    subst hP hw hK
    obtain ⟨⟨old, he⟩, hit, hne⟩ := st
    obtain ⟨xs, x, hq, hx⟩ := hg
    obtain ⟨its, rv, p, hz⟩ := I.tuple hq
    obtain ⟨u, hu, ru⟩ := rv.get hx
    have hel : e < s.heap.objs.size := Heap.lt_size he
    have hil : it < s.heap.objs.size := by obtain ⟨_, q, _⟩ := hit; exact Heap.lt_size q
    have hp : s.heap.IsTuple a its.toArray := p
    have nea : a ≠ e := by
      rintro rfl
      obtain ⟨o, ho, hc', _⟩ := hp
      have hh : some o = some _ := ho.symm.trans he
      cases hh
      exact absurd hc' (by simp)
    have nia : a ≠ it := by
      rintro rfl
      obtain ⟨o, ho, hc', _⟩ := hp
      obtain ⟨o2, ho2, hc2, _⟩ := id hit
      have hh : some o = some o2 := ho.symm.trans ho2
      have ho : o = o2 := Option.some.inj hh
      subst ho
      rw [hc'] at hc2
      exact absurd hc2 (by simp)
    have hi : i < its.toArray.size := by
      have := (List.getElem?_eq_some_iff.mp hu).1
      simpa using this
    have D := Draws.tuple (prog := X.prog) (w := X.w) (A := X.A.in1) (show X.A.in1.handled = none from I.ok.hd hc) it a nia its.toArray
    refine wpAny_pyNext_enum_itemD D he ⟨hit, hp⟩ hi hne (by simp [nea.symm, hne]) fun y h' tk hy ho hit' hT hsz hk => ?_
    have ey : y = u := by
      have h1 : its[i]? = some y := by simpa using hy
      exact Option.some.inj (h1.symm.trans hu)
    subst ey
    refine ⟨_, rfl, wpAny_letOwnedTupleGo_enum (s := { s with heap := h', toks := tk + 1 }) ho fun h'' he' sb => ?_⟩
    have hT2 : h''.get? s.heap.objs.size = some { cls := .type "tuple", data := .seq #[.int i tk, y] } := (sb.2 _ (Nat.ne_of_gt hel)).trans hT
    have new : ObjOk X.prog X.w (upd H s.heap.objs.size (.frz { cls := .type "tuple", data := .seq #[.int i tk, y] } (.tup [.int (i : Nat), x]))) h'' s.heap.objs.size (.frz { cls := .type "tuple", data := .seq #[.int i tk, y] } (.tup [.int (i : Nat), x])) :=
      ⟨hT2, by show 2 ≤ sizeLine; decide, [.int i tk, y], .cons ⟨_, rfl⟩ (.cons ru .nil), _, hT2, rfl, _, rfl⟩
    have I1 : Inv X pins σ (upd H s.heap.objs.size (.frz { cls := .type "tuple", data := .seq #[.int i tk, y] } (.tup [.int (i : Nat), x]))) { s with heap := h'', toks := tk + 1 } :=
      I.turnedNew (ch := [e, it]) (fun b ob hb q => (sb.2 b (fun z => hb (by simp [z]))).trans (hk b ob (fun z => hb (by simp [z])) (fun z => hb (by simp [z])) q)) hf (Nat.le_refl _) new
    refine ⟨.ref s.heap.objs.size, _, I1, rfl, ⟨_, x, _, rfl, I.hok.fresh (Nat.le_refl _), ⟨rfl, rfl⟩, fun ys hy => by rw [I.tuple_inj hy hq]; exact hx⟩, ⟨⟨y, ?_⟩, hit'.1.at fun o q => (sb.2 it (Ne.symm hne)).trans q, hne⟩, fun b hb => ?_⟩
    · have e1 : ((i + 1 : Nat) : Int) = (i : Int) + 1 := by omega
      rw [e1]; exact he'
    · have hb' : b < s.heap.objs.size := by
        have e' : b = e ∨ b = it := by simpa using hb
        rcases e' with z | z
        · rw [z]; exact hel
        · rw [z]; exact hil
      rw [upd_ne (Nat.ne_of_lt hb')]
      exact (hf b hb).1
  done := by
    intro X hP hw hK hc i pins s σ H E I hf st hg
    subst hP hw hK
    obtain ⟨⟨old, he⟩, hit, hne⟩ := st
    obtain ⟨xs, hq, hx⟩ := hg
    obtain ⟨its, rv, p, hz⟩ := I.tuple hq
    obtain ⟨f0, f1, f2, f3, f4, f5⟩ := hf it (by simp)
    have hl := rv.length
    have hp : s.heap.IsTuple a its.toArray := p
    have hT : s.TypeIs (.ref e) "enumerate" := ⟨_, he, rfl⟩
    unfold pyNext
    refine wpAny_bind (wpAny_attempt (wpAny_callSpecial?_slot (name := Str.ofString "__next__") hT F.slot_enumerate_next
      (wpAny_call_entry F.slot_enumerate_next hT F.entry_enumerate_next ?_ (F.args_enumerate_next_1 _))))
    show wpAny _ _ (field (.ref e) 2 >>= _) _ _ _
    refine wpAny_bind (wpAny_field he rfl (x := .ref it) rfl ?_)
    refine wpAny_bind (wpAny_nextOf_tuple_end (show X.A.in1.handled = none from I.ok.hd hc) hit hp (by simp; omega) fun h' x he' hx' => ?_)
    obtain ⟨o, ho, hc⟩ := hx'
    refine wpAny_bind (wpAny_isInstance (T := "StopIteration") (b := true) ⟨o, ho, hc⟩ isSubtype_stop ?_)
    exact wpAny_pure ⟨rfl, I.turned (t' := s.toks) (fun b o hb q => he' b o hb q) f0 f1 f3 f4 f5⟩
  self := fun A i s Q E st h => let ⟨⟨_, he⟩, _⟩ := st; wpAny_pyIter_enum he h
/-- a text, each sign in a new pair -/
def IteS (x : Str) : It :=
  ⟨fun i H => i < x.cps.size, fun i H v H' => ∃ T c o, v = .ref T ∧ H T = none ∧ (o.dict = none ∧ H' = upd H T (.frz o (.tup [.int (i : Nat), .str ⟨#[c]⟩]))) ∧ x.cps[i]? = some c, fun i H => x.cps.size ≤ i⟩
theorem turn_enumS {P : Program} {w : World} {K : PySem.W.Frag} {elts : List Expr} {kk : Nat} {tpos : Pos} (x : Str) (t : Tok) (e it : Addr) :
    Turn P w K (.Tuple elts kk tpos) (IteS x) [e, it] e (fun i h => (∃ old, IsEnum h e it ((i : Nat) : Int) old) ∧ h.IsStrIter it (strIterType x) x t i ∧ e ≠ it) where
  mem := by simp
  obj := fun i h st b hb => by
    obtain ⟨⟨old, he⟩, ⟨o, ho, hc, hd⟩, _⟩ := st
    have e' : b = e ∨ b = it := by simpa using hb
    rcases e' with z | z
    · rw [z]; exact ⟨_, he, fun v q => nomatch q⟩
    · rw [z]; exact ⟨o, ho, fun v q => by rw [hd] at q; cases q⟩
  keep := fun i h h' st k => let ⟨⟨old, he⟩, hi, hne⟩ := st; ⟨⟨old, k e (by simp) _ he⟩, (let ⟨o, ho, r⟩ := hi; ⟨o, k it (by simp) o ho, r⟩), hne⟩
  item := by
    intro X hP hw hK hc i pins s σ H E I hf st hg
    subst hP hw hK
    obtain ⟨⟨old, he⟩, hit, hne⟩ := st
    have hi : i < x.cps.size := hg
    have hel : e < s.heap.objs.size := Heap.lt_size he
    have hil : it < s.heap.objs.size := by obtain ⟨_, q, _⟩ := hit; exact Heap.lt_size q
    have D := Draws.text (prog := X.prog) (w := X.w) (A := X.A.in1) (show X.A.in1.handled = none from I.ok.hd hc) it x t
    refine wpAny_pyNext_enum_itemD D he hit hi hne (by simp [hne]) fun y h' tk hy ho hit' hT hsz hk => ?_
    obtain ⟨c, u, hcx, rfl⟩ := hy
    refine ⟨_, rfl, wpAny_letOwnedTupleGo_enum (s := { s with heap := h', toks := tk + 1 }) ho fun h'' he' sb => ?_⟩
    have hT2 : h''.get? s.heap.objs.size = some { cls := .type "tuple", data := .seq #[.int i tk, .str ⟨#[c]⟩ u] } := (sb.2 _ (Nat.ne_of_gt hel)).trans hT
    have new : ObjOk X.prog X.w (upd H s.heap.objs.size (.frz { cls := .type "tuple", data := .seq #[.int i tk, .str ⟨#[c]⟩ u] } (.tup [.int (i : Nat), .str ⟨#[c]⟩]))) h'' s.heap.objs.size (.frz { cls := .type "tuple", data := .seq #[.int i tk, .str ⟨#[c]⟩ u] } (.tup [.int (i : Nat), .str ⟨#[c]⟩])) :=
      ⟨hT2, by show 2 ≤ sizeLine; decide, [.int i tk, .str ⟨#[c]⟩ u], .cons ⟨_, rfl⟩ (.cons ⟨_, rfl⟩ .nil), _, hT2, rfl, _, rfl⟩
    have I1 : Inv X pins σ (upd H s.heap.objs.size (.frz { cls := .type "tuple", data := .seq #[.int i tk, .str ⟨#[c]⟩ u] } (.tup [.int (i : Nat), .str ⟨#[c]⟩]))) { s with heap := h'', toks := tk + 1 } :=
      I.turnedNew (ch := [e, it]) (fun b ob hb q => (sb.2 b (fun z => hb (by simp [z]))).trans (hk b ob (fun z => hb (by simp [z])) (fun z => hb (by simp [z])) q)) hf (Nat.le_refl _) new
    refine ⟨.ref s.heap.objs.size, _, I1, rfl, ⟨_, c, _, rfl, I.hok.fresh (Nat.le_refl _), ⟨rfl, rfl⟩, hcx⟩, ⟨⟨.str ⟨#[c]⟩ u, ?_⟩, (let ⟨o, ho, r⟩ := hit'; ⟨o, (sb.2 it (Ne.symm hne)).trans ho, r⟩), hne⟩, fun b hb => ?_⟩
    · have e1 : ((i + 1 : Nat) : Int) = (i : Int) + 1 := by omega
      rw [e1]; exact he'
    · have hb' : b < s.heap.objs.size := by
        have e' : b = e ∨ b = it := by simpa using hb
        rcases e' with z | z
        · rw [z]; exact hel
        · rw [z]; exact hil
      rw [upd_ne (Nat.ne_of_lt hb')]
      exact (hf b hb).1
  done := by
    intro X hP hw hK hc i pins s σ H E I hf st hg
    subst hP hw hK
    obtain ⟨⟨old, he⟩, hit, hne⟩ := st
    obtain ⟨f0, f1, f2, f3, f4, f5⟩ := hf it (by simp)
    have hge : x.cps.size ≤ i := hg
    have hT : s.TypeIs (.ref e) "enumerate" := ⟨_, he, rfl⟩
    unfold pyNext
    refine wpAny_bind (wpAny_attempt (wpAny_callSpecial?_slot (name := Str.ofString "__next__") hT F.slot_enumerate_next
      (wpAny_call_entry F.slot_enumerate_next hT F.entry_enumerate_next ?_ (F.args_enumerate_next_1 _))))
    show wpAny _ _ (field (.ref e) 2 >>= _) _ _ _
    refine wpAny_bind (wpAny_field he rfl (x := .ref it) rfl ?_)
    have hx : x.cps[i]? = none := by simp; omega
    have key : ∀ (Q : Value → Shared → Prop) (E : Value → Shared → Prop), (∀ h' e, Heap.ExtBut it s.heap h' → (∃ o, h'.get? e = some o ∧ o.cls = .type "StopIteration") → E (.ref e) { s with heap := h' }) → wpAny (model X.prog X.w) X.A.in1 (Builtin.SmallTypes.nextOf (.ref it)) Q E s := by
      intro Q E hE
      cases ha : x.cps.all (· < 128)
      · have hit2 : s.heap.IsStrIter it "str_iterator" x t i := by simpa only [strIterType, ha, Bool.false_eq_true, if_false] using hit
        exact wpAny_nextOf_wide_end (show X.A.in1.handled = none from I.ok.hd hc) hit2 hx hE
      · have hit2 : s.heap.IsStrIter it "str_ascii_iterator" x t i := by simpa only [strIterType, ha, if_true] using hit
        exact wpAny_nextOf_ascii_end (show X.A.in1.handled = none from I.ok.hd hc) hit2 hx hE
    refine wpAny_bind (key _ _ fun h' x he' hx' => ?_)
    obtain ⟨o, ho, hc⟩ := hx'
    refine wpAny_bind (wpAny_isInstance (T := "StopIteration") (b := true) ⟨o, ho, hc⟩ isSubtype_stop ?_)
    exact wpAny_pure ⟨rfl, I.turned (t' := s.toks) (fun b o hb q => he' b o hb q) f0 f1 f3 f4 f5⟩
  self := fun A i s Q E st h => let ⟨⟨_, he⟩, _⟩ := st; wpAny_pyIter_enum he h
/-- the list at a, each item in a new pair -/
def IteL (K : PySem.W.Frag) (a : Addr) : It :=
  ⟨fun i H => ∃ (xs : List V) (x : V), SqL K H a xs ∧ xs[i]? = some x, fun i H v H' => ∃ T x o, v = .ref T ∧ H T = none ∧ (o.dict = none ∧ H' = upd H T (.frz o (.tup [.int (i : Nat), x]))) ∧ ∀ xs, SqL K H a xs → xs[i]? = some x, fun i H => ∃ xs : List V, SqL K H a xs ∧ xs.length ≤ i⟩
theorem turn_enumL {P : Program} {w : World} {K : PySem.W.Frag} {elts : List Expr} {kk : Nat} {tpos : Pos} (a e it : Addr) :
    Turn P w K (.Tuple elts kk tpos) (IteL K a) [e, it] e (fun i h => (∃ old, IsEnum h e it ((i : Nat) : Int) old) ∧ h.IsListIter it a i ∧ e ≠ it) where
  mem := by simp
  obj := (turn_enum (P := P) (w := w) (K := K) (elts := elts) (kk := kk) (tpos := tpos) a e it).obj
  keep := (turn_enum (P := P) (w := w) (K := K) (elts := elts) (kk := kk) (tpos := tpos) a e it).keep
  item := by
    intro X hP hw hK hc i pins s σ H E I hf st hg
    subst hP hw hK
    obtain ⟨⟨old, he⟩, hit, ne⟩ := st
    obtain ⟨xs, x, hq, hx⟩ := hg
    obtain ⟨us, rv, l, _⟩ := I.list hq
    obtain ⟨u, hu, ru⟩ := rv.get hx
    have l1 : e < s.heap.objs.size := Heap.lt_size he
    have l2 : it < s.heap.objs.size := by obtain ⟨_, q, _⟩ := hit; exact Heap.lt_size q
    refine wpAny_pyNext_enum_item he hit l.isList (x := u) (by simpa using hu) ne fun h1 ho it1 hT _ hk => ⟨_, rfl, wpAny_letOwnedTupleGo_enum (s := { s with heap := h1, toks := s.toks + 1 }) ho fun h2 he2 sb => ?_⟩
    have t2 : h2.get? s.heap.objs.size = some { cls := .type "tuple", data := .seq #[.int i s.toks, u] } := (sb.2 _ (Nat.ne_of_gt l1)).trans hT
    have lt : ∀ b ∈ [e, it], b < s.heap.objs.size := fun b hb => by
      simp only [List.mem_cons, List.not_mem_nil, or_false] at hb
      rcases hb with z | z
      · rw [z]; exact l1
      · rw [z]; exact l2
    have J := I.turnedNew (t' := s.toks + 1) (ob := .frz { cls := .type "tuple", data := .seq #[.int i s.toks, u] } (.tup [.int (i : Nat), x])) (ch := [e, it]) (fun b ob hb q => (sb.2 b (fun z => hb (by simp [z]))).trans (hk b ob (fun z => hb (by simp [z])) (fun z => hb (by simp [z])) q)) hf (Nat.le_refl _)
      ⟨t2, by show 2 ≤ sizeLine; decide, [.int i s.toks, u], .cons ⟨_, rfl⟩ (.cons ru .nil), _, t2, rfl, _, rfl⟩
    refine ⟨.ref s.heap.objs.size, _, J, rfl, ⟨_, x, _, rfl, I.hok.fresh (Nat.le_refl _), ⟨rfl, rfl⟩, fun ys hy => by rw [I.list_inj hy hq]; exact hx⟩, ⟨⟨u, ?_⟩, it1.at fun o q => (sb.2 it (Ne.symm ne)).trans q, ne⟩, fun b hb => ?_⟩
    · rw [show ((i + 1 : Nat) : Int) = (i : Int) + 1 by omega]
      exact he2
    · rw [upd_ne (Nat.ne_of_lt (lt b hb))]
      exact (hf b hb).1
  done := (turn_enum (P := P) (w := w) (K := K) (elts := elts) (kk := kk) (tpos := tpos) a e it).done
  self := (turn_enum (P := P) (w := w) (K := K) (elts := elts) (kk := kk) (tpos := tpos) a e it).self
/-- enumerate of a list, a tuple, a text -/
def iEnumA (K : PySem.W.Frag) (ta : TA) : TI := fun σ H R => ta σ H fun vs H1 => ∃ v, vs = [v] ∧ ((∃ a xs, v = .ref a ∧ SqL K H1 a xs ∧ R (IteL K a) H1) ∨ (∃ a xs, v = .ref a ∧ SqT K H1 a xs ∧ R (IteT K a) H1) ∨ ∃ x, v = .str x ∧ R (IteS x) H1)
theorem pi_enumA {X : Cx} {e : Expr} {ta : TA} {p pos tpos : Pos} {elts : List Expr} {kk : Nat} (hg : Gl X "enumerate") (hm : X.mg "enumerate" = none) (ha : PA X [e] ta) (hs : starEach [e] X.env = [(false, eval e X.env)] := by rfl) :
    PI X (.Tuple elts kk tpos) (.Call (.Name "enumerate" p) [e] [] pos) (iEnumA X.K ta) := by
  refine ⟨fun pins s σ H R I h => ?_⟩
  refine Call_ (ld_blt I hg hm boot_enumerate (PyProof.Rows.callWith_type1 (thn (ha.run pos pins s σ H _ I h) fun us s1 ⟨vs, H1, I1, r1, q1⟩ => ?_) hs rfl))
  obtain ⟨v, ex, q⟩ := q1
  subst ex
  have two : ∀ (m b : Addr), (b = m + 1 ∨ b = m) → m ≤ b := fun m b e => e.elim (fun z => z.symm ▸ Nat.le_succ _) (fun z => z.symm ▸ Nat.le_refl _)
  cases r1 with
  | cons r rr =>
    cases rr
    rcases q with ⟨a, xs, rfl, hq, q⟩ | ⟨a, xs, rfl, hq, q⟩ | ⟨x, rfl, q⟩
    · cases r
      obtain ⟨its, rv, p', hz⟩ := I1.list hq
      refine call_enumerate_list p'.isList fun h' he hit hsz hk => wpAny_pyIter_enum he ?_
      have I2 : Inv X pins σ H1 { s1 with heap := h' } := I1.kept (t' := s1.toks) hk
      refine ⟨s1.heap.objs.size + 1, [s1.heap.objs.size + 1, s1.heap.objs.size], _, _, H1, rfl, I2, turn_enumL a (s1.heap.objs.size + 1) s1.heap.objs.size, ⟨⟨.none, he⟩, hit, Nat.succ_ne_self _⟩, fun b hb => ?_, q⟩
      have hle : s1.heap.objs.size ≤ b := two _ b (by simpa using hb)
      exact I1.fpOk hle (I1.hok.fresh hle)
    · cases r
      obtain ⟨its, rv, p', hz⟩ := I1.tuple hq
      refine enumB_begins (begins_tuple a its.toArray) (show s1.heap.IsTuple a its.toArray from p') fun h' he ho hsz hk => wpAny_pyIter_enum he ?_
      have I2 : Inv X pins σ H1 { s1 with heap := h' } := I1.kept (t' := s1.toks) hk
      refine ⟨s1.heap.objs.size + 1, [s1.heap.objs.size + 1, s1.heap.objs.size], _, _, H1, rfl, I2, turn_enumT a (s1.heap.objs.size + 1) s1.heap.objs.size, ⟨⟨.none, he⟩, ⟨_, ho, rfl, rfl⟩, Nat.succ_ne_self _⟩, fun b hb => ?_, q⟩
      have hle : s1.heap.objs.size ≤ b := two _ b (by simpa using hb)
      exact I1.fpOk hle (I1.hok.fresh hle)
    · obtain ⟨t, rfl⟩ := r
      refine enumB_begins (begins_text x t) trivial fun h' he ho hsz hk => wpAny_pyIter_enum he ?_
      have I2 : Inv X pins σ H1 { s1 with heap := h' } := I1.kept (t' := s1.toks) hk
      refine ⟨s1.heap.objs.size + 1, [s1.heap.objs.size + 1, s1.heap.objs.size], _, _, H1, rfl, I2, turn_enumS x t (s1.heap.objs.size + 1) s1.heap.objs.size, ⟨⟨.none, he⟩, ⟨_, ho, rfl, rfl⟩, Nat.succ_ne_self _⟩, fun b hb => ?_, q⟩
      have hle : s1.heap.objs.size ≤ b := two _ b (by simpa using hb)
      exact I1.fpOk hle (I1.hok.fresh hle)
end Wb

/-! U1: a tuple some times over, once or never. -/
namespace L2
open PySem PySem.Spec PyProof.Rows
theorem tm_same (l : Addr) (items : Array Value) (n : Nat) (dd : Option Addr) (sl : Array (Option Value)) (x : Int) (u : Tok) (c0 : (decide (x < -(2 ^ 63)) || decide (x ≥ 2 ^ 63)) = false) (c1 : (items.isEmpty || x == 1) = true) :
    Meets (Builtin.«tuple.__mul__» ⟨[.ref l, .int x u], []⟩) (fun _ R s => s.heap.get? l = some { cls := .type "tuple", dict := dd, data := .seq items n, slots := sl } ∧ R (.ok (.ret (Value.ref l))) s) :=
  .of_wp fun prog w A R s h => by
    obtain ⟨hp, g, d, tk, os⟩ := s
    obtain ⟨hl, h⟩ := h
    have f1 := AutoSeq1.idx_int
    wp_walk using wpAny_loadPart' hl
    repeat (first
      | (refine wpAny_ite_false (decide_eq_false (by rw [c0]; exact Bool.false_ne_true)) ?_; wp_walk using wpAny_loadPart' hl)
      | (refine wpAny_ite_true (decide_eq_true c1) ?_; wp_walk using wpAny_loadPart' hl))
    exact ⟨_, rfl, h⟩
theorem tm_none (l : Addr) (items : Array Value) (n : Nat) (dd : Option Addr) (sl : Array (Option Value)) (x : Int) (u : Tok) (c0 : (decide (x < -(2 ^ 63)) || decide (x ≥ 2 ^ 63)) = false) (c1 : (items.isEmpty || x == 1) = false) (c2 : (decide (x ≤ 0) || items.isEmpty) = true) :
    Meets (Builtin.«tuple.__mul__» ⟨[.ref l, .int x u], []⟩) (fun _ R s => s.heap.get? l = some { cls := .type "tuple", dict := dd, data := .seq items n, slots := sl } ∧ R (.ok (.ret (Value.ref s.heap.objs.size))) { s with heap := s.heap.push { cls := Value.type "tuple", data := Data.seq #[] }, toks := s.toks }) :=
  .of_wp fun prog w A R s h => by
    obtain ⟨hp, g, d, tk, os⟩ := s
    obtain ⟨hl, h⟩ := h
    have f1 := AutoSeq1.idx_int
    wp_walk using wpAny_loadPart' hl
    repeat (first
      | (refine wpAny_ite_false (decide_eq_false (by rw [c0]; exact Bool.false_ne_true)) ?_; wp_walk using wpAny_loadPart' hl)
      | (refine wpAny_ite_false (decide_eq_false (by rw [c1]; exact Bool.false_ne_true)) ?_; wp_walk using wpAny_loadPart' hl)
      | (refine wpAny_ite_true (decide_eq_true c2) ?_; wp_walk using wpAny_loadPart' hl))
    exact ⟨_, rfl, h⟩
/-- a tuple k times over -/
def rTimes (K : PySem.W.Frag) : R2 := fun x y H Q => ∃ l k xs, x = .ref l ∧ y = .int k ∧ SqT K H l xs ∧ xs.length ≤ 1000 ∧ 0 ≤ k ∧ k ≤ 1000 ∧ ((xs = [] ∨ k = 1) → Q (.ref l) H) ∧ (¬ (xs = [] ∨ k = 1) → ∀ p, H p = none → Q (.ref p) (upd H p (.tup (List.replicate k.toNat xs).flatten)))
section
variable {X : Cx}
theorem op_times : OpR X (binaryOp .Mult) (rTimes X.K) := by
  intro pins s σ H x y v u Q I rx ry h
  obtain ⟨l, k, xs, ex, ey, hT, hz, k0, k1, qa, qb⟩ := h
  by_cases c : 2 ≤ k ∧ xs ≠ []
  · exact op_repT pins s σ H x y v u Q I rx ry ⟨l, k, xs, ex, ey, hT, c.2, c.1, k1, hz, qb fun e => by
      rcases e with e | e
      · exact c.2 e
      · omega⟩
  · subst ex
    subst ey
    cases rx
    obtain ⟨t, rfl⟩ := ry
    obtain ⟨its, r, ⟨⟨cls, dd, data, sl⟩, ho, hc, n, hd⟩, hs⟩ := I.tuple hT
    simp only at hc hd
    subst hc hd
    have hle : its.length = xs.length := r.length.symm
    have c0 : (decide (k < -(2 ^ 63)) || decide (k ≥ 2 ^ 63)) = false := by
      rw [decide_eq_false (by omega), decide_eq_false (by omega)] <;> rfl
    have emp : its.toArray.isEmpty = decide (xs = []) := by
      cases its with
      | nil =>
        have : xs = [] := List.eq_nil_of_length_eq_zero hle.symm
        simp [this]
      | cons a b =>
        have : xs ≠ [] := fun e => by simp [e] at hle
        simp [this]
    refine wpAny_binaryOp_repeat_ref (T := "tuple") (U := "int") (by decide) ⟨_, ho, rfl⟩ (fun s' => typeIs_int s' k t) noFill_tuple_mul F.fills_int_mul F.slot_int_rmul repeat_tuple F.slot_int_index.lookup
      (call_meets F.slot_int_rmul (typeIs_int s k t) F.entry_int_rmul (F.args_int_rmul_2 _ _) (int_rmul_tuple k t l its.toArray n dd sl) ⟨ho, rfl, ⟨_, ho, rfl⟩, ?_⟩)
    by_cases d : xs = [] ∨ k = 1
    · have c1 : (its.toArray.isEmpty || k == 1) = true := by
        rw [emp, Bool.or_eq_true, decide_eq_true_eq, beq_iff_eq]
        exact d
      refine call_meets F.slot_tuple_mul ⟨_, ho, rfl⟩ F.entry_tuple_mul (F.args_tuple_mul_2 _ _) (tm_same l its.toArray n dd sl k t c0 c1) ⟨ho, ?_⟩
      exact ⟨.ref l, H, I, rfl, qa d⟩
    · have hk0 : k = 0 := by
        have : ¬ (2 ≤ k) := fun z => c ⟨z, fun e => d (.inl e)⟩
        omega
      have c1 : (its.toArray.isEmpty || k == 1) = false := by
        rw [emp, Bool.or_eq_false_iff, decide_eq_false_iff_not, beq_eq_false_iff_ne]
        exact ⟨fun e => d (.inl e), fun e => d (.inr e)⟩
      have c2 : (decide (k ≤ 0) || its.toArray.isEmpty) = true := by
        rw [Bool.or_eq_true, decide_eq_true_eq]
        exact .inl (by omega)
      refine call_meets F.slot_tuple_mul ⟨_, ho, rfl⟩ F.entry_tuple_mul (F.args_tuple_mul_2 _ _) (tm_none l its.toArray n dd sl k t c0 c1 c2) ⟨ho, ?_⟩
      refine ⟨.ref s.heap.objs.size, _, I.laid (t' := s.toks) (o := .tup (List.replicate k.toNat xs).flatten) (fun b ob q => Heap.get?_push_of_some _ q) (Nat.le_refl _) ?_, rfl, qb d _ (I.hok.fresh (Nat.le_refl _))⟩
      have e : (List.replicate k.toNat xs).flatten = [] := by rw [hk0]; rfl
      rw [e]
      exact ⟨Nat.zero_le _, [], .nil, IsTup.new _ _⟩
end
end L2

/-! U2: the set of a list of ints. -/
namespace L2
open PySem PySem.Spec PyProof.Rows
/-- a set at its birth -/
abbrev bornSet (w : World) : Obj := { cls := .type "set", dict := none, data := .set #[] 0 (.fresh 0 0 (!w.params.followText "set-order")) }
section
variable {P : Program} {w : World} {A : Around} {E : Value → Shared → Prop} {s : Shared}
theorem call_set_ints {l : Addr} {xs : Array Value} (ns : List Int) {Q : Value → Shared → Prop} (hh : A.handled = none) (hl : s.heap.IsList l xs) (hx : IntsAre xs.toList ns) (hb : ns.length + 1 < scanBound)
    (fin : ∀ (h' : Heap) (tk c : Nat), SetR w h' s.heap.objs.size (fun j => decide (j ∈ ns)) c → c ≤ ns.length → (∀ b o, s.heap.get? b = some o → h'.get? b = some o) → Q (.ref s.heap.objs.size) { s with heap := h', toks := tk }) :
    wpAny (model P w) A (call (.type "set") [.ref l]) Q E s := by
  have sz : xs.size = ns.length := (Array.length_toList (xs := xs)).symm.trans (IntsAre.length hx)
  obtain ⟨_, _, hmro⟩ := F.called_set.mro
  have hmade := F.called_set.made
  have hsub := F.called_set.sub
  refine wpAny_call (codeAny_of_tree ?_)
  show wpAny _ _ (callAny (.type "set") _) _ _ _
  refine wpAny_pure ⟨Code.quiet_builtin _ (by decide +kernel), codeAny_builtin F.entry_type_call ?_⟩
  rw [Around.under_plain (weight_type_call_type "set" [.ref l] []) rfl]
  have h1 := F.called_set.notType
  have h2 := F.called_set.canCreate
  have hct := F.typeCall_set_1 (.ref l)
  repeat (any_goals (first | assumption | wp_step))
  refine codeAny_mono (code_set_led1 (.ref l) (E := E) (Q₁ := fun obj t => obj = .ref s.heap.objs.size ∧ t = { s with heap := s.heap.push (bornSet w) }) ⟨rfl, rfl⟩) fun r t hr => ?_
  rcases r with e | fl
  · exact hr
  cases fl with
  | ret obj =>
    obtain ⟨rfl, rfl⟩ := hr
    have hS : (s.heap.push (bornSet w)).get? s.heap.objs.size = some (bornSet w) := Heap.get?_push_size _ rfl
    have hT : Shared.TypeIs { s with heap := s.heap.push (bornSet w) } (.ref s.heap.objs.size) "set" := ⟨_, hS, rfl⟩
    have hli := F.called_set.init.lookup
    have hbi := F.called_set.init.bind (.ref s.heap.objs.size)
    repeat (any_goals (first | assumption | wp_step))
    refine codeAny_mono (codeAny_call_builtin (R := wants (fun r u => r = .none ∧ ∃ h' tk c, u = { s with heap := h', toks := tk } ∧ SetR w h' s.heap.objs.size (fun j => decide (j ∈ ns)) c ∧ c ≤ ns.length ∧ ∀ b o, s.heap.get? b = some o → h'.get? b = some o) E) F.called_set.init.plain F.entry_set_init (check_set_init_1 hT ?_)) fun r u hr => ?_
    · obtain ⟨⟨ocls, odict, odata, oslots⟩, hol, hcl, nl, hdl⟩ := hl
      simp only at hcl hdl
      subst hcl hdl
      have ho2 : (s.heap.push (bornSet w)).get? l = some { cls := .type "list", dict := odict, data := .seq xs nl, slots := oslots } := Heap.get?_push_of_some _ hol
      have f1 := F.sub_list_set
      have f2 := F.sub_list_frozenset
      have f3 : (Value.type "list" == Value.type "dict") = false := by decide
      have hl2 : (s.heap.push (bornSet w)).IsList l xs := ⟨_, ho2, rfl, nl, rfl⟩
      unfold Builtin.«set.__init__» noKeywords Builtin.Frozenset.updateFrom
      generalize hPI : pyIter = PI
      wp_walk
      subst hPI
      refine wpAny_pyIter_list hl2 (wpAny_bind (wpAny_runValue ?_))
      have lt : l < s.heap.objs.size := Heap.lt_size hol
      have hh3 : A.in1.in1.in1.handled = none := by simp [hh]
      have zz : (s.heap.push (bornSet w)).objs.size = s.heap.objs.size + 1 := Heap.size_push ..
      have ne : l ≠ (s.heap.push (bornSet w)).objs.size := Nat.ne_of_lt (zz ▸ Nat.lt_succ_of_lt lt)
      have out : s.heap.objs.size ∉ [(s.heap.push (bornSet w)).objs.size, l] := by
        rw [zz]
        refine fun z => (List.mem_cons.mp z).elim (Nat.ne_of_lt (Nat.lt_succ_self _)) fun z => Nat.ne_of_gt lt (List.mem_singleton.mp z)
      refine set_update_ints ((Walks.list hh3 _ l ne xs).toS) s.heap.objs.size out ns sz hb (fun i v hv => ?_) (xs.size - 0) 0 _ (by omega) (Nat.zero_le _) ⟨⟨_, Heap.get?_push_size _ rfl, rfl, rfl⟩, (hl2.push _)⟩ ⟨0, Nat.le_refl 0, setR_new_at (Heap.get?_push_of_some _ hS)⟩ fun s' c' hm hc' hS' => ?_
      · have hi : i < ns.length := sz ▸ (Array.getElem?_eq_some_iff.mp hv).1
        obtain ⟨t, e⟩ := PyProof.Rows.IntsAre.int_at hx i v ((Array.getElem?_toList ..).trans hv)
        refine ⟨ns[i], t, List.getElem?_eq_getElem hi, ?_⟩
        rw [e, List.getD_eq_getElem?_getD, List.getElem?_eq_getElem hi] <;> rfl
      · obtain ⟨h', g2, d', tk', os'⟩ := s'
        obtain rfl : g2 = s.gens := hm.gens
        obtain rfl : d' = s.drawn := hm.drawn
        obtain rfl : os' = s.os := hm.os
        refine wpAny_pure ?_
        show wpAny _ _ (ret Value.none) _ _ _
        refine wpAny_pure ⟨rfl, h', tk', c', rfl, hS', sz ▸ hc', fun b o e => ?_⟩
        have := Heap.lt_size e
        exact hm.heap b o (fun z => (List.mem_cons.mp z).elim (Nat.ne_of_lt this) fun z => Nat.ne_of_lt (zz ▸ Nat.lt_succ_of_lt this) (List.mem_singleton.mp z)) (Heap.get?_push_of_some _ (Heap.get?_push_of_some _ e))
    · rcases r with e | fl
      · exact hr
      cases fl with
      | ret r =>
        obtain ⟨rfl, h', tk, c', rfl, a1, a2, a3⟩ := hr
        repeat (any_goals (first | assumption | wp_step))
        exact fin _ _ _ a1 a2 a3
      | _ => exact hr.elim
  | _ => exact hr.elim
end
/-- set(xs), xs a list of ints -/
def rSetLI (K : PySem.W.Frag) (w : World) : List V → Hp → VK → Prop := fun vs H Q => ∃ (l : Addr) (ns : List Int), vs = [V.ref l] ∧ SqL K H l (ns.map V.int) ∧ ns.length < 64 ∧ ∀ a c, H a = none → c ≤ ns.length → Q (.ref a) (upd H a (SetO w a (fun j => decide (j ∈ ns)) c))
section
variable {X : Cx}
theorem cr_setLI (hc : X.calm = true) : CallR X (.type "set") (rSetLI X.K X.w) := by
  intro pins s σ H vs us Q I r h
  obtain ⟨l, ns, rfl, hl, hf, q⟩ := h
  rw [Vals.ref1 r]
  obtain ⟨its, rv, pl, hz⟩ := I.list hl
  refine call_set_ints (P := X.prog) (w := X.w) ns (I.ok.hd hc) pl.isList (ints_of_vals rv) (by unfold scanBound; omega) fun h' tk c R hcn k => ?_
  exact ⟨.ref s.heap.objs.size, _, I.laid (t' := tk) k (Nat.le_refl _) (setO_new R), rfl, q _ c (I.hok.fresh (Nat.le_refl _)) hcn⟩
theorem cr_or {f : Value} {r r' : List V → Hp → VK → Prop} (a : CallR X f r) (b : CallR X f r') : CallR X f (fun vs H Q => r vs H Q ∨ r' vs H Q) := by
  intro pins s σ H vs us Q I rv h
  rcases h with h | h
  · exact a pins s σ H vs us Q I rv h
  · exact b pins s σ H vs us Q I rv h
end
end L2

/-! U3: the greatest of a tuple of ints. -/
namespace L2
open PySem PySem.Spec PyProof.Rows
section
variable {prog : Program} {w : World} {A : Around} {E : Value → Shared → Prop} {s : Shared} {l : Addr} {xs : Array (Int × Tok)} {its : List Value} {ns : List Int}
theorem max_intTup {Q : Value → Shared → Prop} (hh : A.handled = none) (hl : s.heap.IsTuple l (intItems xs)) (hne : 0 < xs.size)
    (h : ∀ v h' tk, (intItems xs)[argBest (fun i j => decide (numAt xs i > numAt xs j)) (xs.size - 1)]? = some v → (∀ b o, s.heap.get? b = some o → h'.get? b = some o) → Q v { s with heap := h', toks := tk }) :
    wpAny (model prog w) A (call (.builtin "max") [.ref l]) Q E s := by
  have lt : l < s.heap.objs.size := by obtain ⟨_, e, _⟩ := hl; exact Heap.lt_size e
  refine call_max_walk (wpAny_pyIter_tuple hl ?_)
  refine ⟨_, _, _, _, _, _, _, rfl, Walks.tuple (A := A.in1) hh _ l (Nat.ne_of_lt lt) (intItems xs), ⟨⟨_, Heap.get?_push_size _ rfl, rfl, rfl⟩, hl.push _⟩, fun b hb => ?_, by simpa [intItems] using hne, CmpOf.ints_gt (numAt xs) (fun _ _ => intItems_at), fun v h' tk hP hk => ?_⟩
  · show b < (s.heap.push _).objs.size
    rw [Heap.size_push]
    rcases List.mem_cons.mp hb with z | z
    · rw [z]; exact Nat.lt_succ_self _
    · rw [List.mem_singleton.mp z]; exact Nat.lt_succ_of_lt lt
  · refine h v h' tk (by simpa [intItems] using hP) fun b o e => hk b o (fun hm => ?_) (Heap.get?_push_of_some _ e)
    have := Heap.lt_size e
    rw [List.mem_singleton.mp hm] at this
    exact absurd this (Nat.lt_irrefl _)
theorem max_rawT {Q : Value → Shared → Prop} (hh : A.handled = none) (hl : s.heap.IsTuple l its.toArray) (hi : IntsAre its ns) (hne : 0 < ns.length)
    (h : ∀ h' tk M t', (∀ b o, s.heap.get? b = some o → h'.get? b = some o) → M ∈ ns → (∀ a, a ∈ ns → a ≤ M) → Q (.int M t') { s with heap := h', toks := tk }) : wpAny (model prog w) A (call (.builtin "max") [.ref l]) Q E s := by
  obtain ⟨xs, e⟩ := hi.allInts.items
  have hn : numsOf (intItems xs).toList = ns := by rw [← e]; exact hi.numsOf
  rw [nums_intItems] at hn
  subst hn
  rw [e] at hl
  refine max_intTup hh hl (by simpa using hne) fun v h' tk hv hk => ?_
  obtain ⟨t, rfl⟩ := intItems_at hv
  have hsz : 0 < xs.size := by simpa using hne
  obtain ⟨h1, h2⟩ := argBest_gt (numAt xs) (xs.size - 1)
  refine h h' tk _ t hk (by rw [numAt_eq]; exact PySem.getD_mem (by rw [List.length_map, Array.length_toList]; omega)) fun a ha => ?_
  obtain ⟨j, hj, rfl⟩ := mem_getD ha
  rw [List.length_map, Array.length_toList] at hj
  rw [← numAt_eq]
  exact h2 j (by omega)
def rMaxTup (K : PySem.W.Frag) : List V → Hp → VK → Prop := fun vs H Q => ∃ (a : Addr) (ns : List Int), vs = [V.ref a] ∧ SqT K H a (ns.map V.int) ∧ 0 < ns.length ∧ ∀ m, m ∈ ns → (∀ y, y ∈ ns → y ≤ m) → Q (.int m) H
end
theorem cr_maxTup {X : Cx} (hc : X.calm = true) : CallR X (.builtin "max") (rMaxTup X.K) := by
  intro pins s σ H vs us Q I r h
  obtain ⟨a, ns, rfl, hs, hne, q⟩ := h
  obtain ⟨its, rv, hl, _⟩ := I.tuple hs
  rw [Vals.ref1 r]
  exact max_rawT (I.ok.hd hc) hl rv.ints hne fun h' tk m t' hk h1 h2 => ⟨.int _, H, I.kept hk, ⟨_, rfl⟩, q m h1 h2⟩
end L2

/-! U4: dict(xs) of a list of pairs (tuple, value). -/
namespace L2
open PySem PySem.Spec PyProof.Rows
def mergeT (kvs more : List (List Key × V)) : List (List Key × V) := more.foldl (fun acc kv => putK acc kv.1 kv.2) kvs
theorem length_putT (kvs : List (List Key × V)) (k : List Key) (v : V) : (putK kvs k v).length ≤ kvs.length + 1 := by
  unfold putK
  split <;> simp
theorem length_mergeT : ∀ (more kvs : List (List Key × V)), (mergeT kvs more).length ≤ kvs.length + more.length
  | [], kvs => by show kvs.length ≤ kvs.length + 0; omega
  | p :: r, kvs => by
    have h1 := length_mergeT r (putK kvs p.1 p.2)
    have h2 := length_putT kvs p.1 p.2
    show (mergeT (putK kvs p.1 p.2) r).length ≤ _
    rw [List.length_cons]; omega
theorem KT.merge {H : Hp} {more : List (List Key × V)} {ms : List (List Key × Addr × Value)} (r : KT H more ms) : ∀ {kvs : List (List Key × V)} {xs : List (List Key × Addr × Value)}, KT H kvs xs → KT H (mergeT kvs more) (storedAllH xs ms) := by
  unfold KT at r
  induction r with
  | nil => exact fun q => q
  | @cons p q ps qs h t ih =>
    intro kvs xs r0
    obtain ⟨h1, h2, h3⟩ := h
    have e : KT H (putK kvs p.1 p.2) (storedH xs q.1 q.2.1 q.2.2) := by
      rw [← h1]
      exact KT.put r0 p.1 h2 h3
    exact ih e
section
variable {X : Cx}
theorem pairs_ofT {pins : List (Addr × Obj)} {σ : St} {H : Hp} {s : Shared} (I : Inv X pins σ H s) {ps : List Addr} {kvs : List (List Key × V)} (r : Paired (fun p kv => ∃ b, H p = some (.tup [.ref b, kv.2]) ∧ H b = some (.tup (kv.1.map kV))) ps kvs) :
    ∃ prs : List (List Key × Addr × Value), KT H kvs prs ∧ prs.length = ps.length ∧ ∀ (j : Nat) (q : List Key × Addr × Value), prs[j]? = some q → ∃ T, ps[j]? = some T ∧ PairAt s.heap T (.ref q.2.1) q.2.2 ∧ (tupleKind (mixKind X.prog X.w)).is s.heap q.1 q.2.1 := by
  induction r with
  | nil => exact ⟨[], .nil, rfl, fun j q e => by simp at e⟩
  | @cons p kv ps kvs h t ih =>
    obtain ⟨prs, r, hl, hp⟩ := ih
    obtain ⟨b, h1, h2⟩ := h
    obtain ⟨its, rv, ht, _⟩ := I.tuple (.inl (.inl h1))
    obtain ⟨u, y, ei, ru, ry⟩ := vals2 rv
    subst ei
    cases ru
    refine ⟨(kv.1, b, y) :: prs, .cons ⟨rfl, h2, ry⟩ r, by rw [List.length_cons, List.length_cons, hl], fun j q e => ?_⟩
    cases j with
    | zero =>
      have e' : (kv.1, b, y) = q := Option.some.inj e
      subst e'
      exact ⟨p, rfl, .inl ht, key_of I.hok h2⟩
    | succ j =>
      obtain ⟨T, e1, e2, e3⟩ := hp j q (by simpa using e)
      exact ⟨T, by simpa using e1, e2, e3⟩
/-- dict(xs) of a list of pairs (tuple, value): later pairs win, the place is the first one's -/
theorem call_dictT (hcalm : X.calm = true) (hu : X.A.units + 2 < cLine) : CallR X (.type "dict") (fun xs H Q => ∃ (a : Addr) (ps : List Addr) (kvs : List (List Key × V)), xs = [.ref a] ∧ H a = some (.lst (ps.map V.ref)) ∧ Paired (fun p kv => ∃ b, H p = some (.tup [.ref b, kv.2]) ∧ H b = some (.tup (kv.1.map kV))) ps kvs ∧
    ∀ p, H p = none → Q (.ref p) (upd H p (.dT (mergeT [] kvs)))) := by
  intro pins s σ H xs us Q I r q
  obtain ⟨a, ps, kvs, ex, hq, hp, q⟩ := q
  subst ex
  obtain ⟨u, eu, rx⟩ := vals1 r
  subst eu
  cases rx
  obtain ⟨its, rv, pl, hz⟩ := I.list (.inl (.inl hq))
  have ei := refs_at rv
  subst ei
  rw [List.length_map] at hz
  obtain ⟨prs, rel, hl, hpr⟩ := pairs_ofT I hp
  obtain ⟨o, n, ho, hc, hd, hdat⟩ := pl
  have OK : PlainSeq "list" s.heap a (ps.map Value.ref).toArray ∧ PairItems s.heap (ps.map Value.ref).toArray (fun j => ps.getD j 0) (prs.map fun q => (Value.ref q.2.1, q.2.2)) := by
    refine ⟨⟨o, n, ho, hc, hd, hdat⟩, by simp [hl], fun j k v hj => ?_⟩
    rw [List.getElem?_map] at hj
    obtain ⟨q', hq', e⟩ := Option.map_eq_some_iff.mp hj
    obtain ⟨T, e1, e2, _⟩ := hpr j q' hq'
    rw [Prod.mk.injEq] at e
    obtain ⟨rfl, rfl⟩ := e
    have e3 : ps.getD j 0 = T := by rw [List.getD_eq_getElem?_getD, e1]; rfl
    show _ = some (Value.ref (ps.getD j 0)) ∧ PairAt s.heap (ps.getD j 0) _ _
    rw [e3]
    exact ⟨by simp [e1], e2⟩
  refine PySem.call_dict_pairsH (knd := tupleKind (mixKind X.prog X.w)) (ps := prs) (PairArg.list a (ps.map Value.ref).toArray (fun j => ps.getD j 0) (prs.map fun q => (Value.ref q.2.1, q.2.2))) (I.ok.hd hcalm) (show X.A.in1.units + 1 < cLine from hu) OK ⟨by simp, fun i key v hi => ?_⟩ (fun h' hk x hx => ?_) (by simp [hl]; exact hz) fun h' tk hd' k => ?_
  · have hi : (prs.map fun q => (Value.ref q.2.1, q.2.2))[i]? = some (key, v) := hi
    rw [List.getElem?_map] at hi
    obtain ⟨q', hq', e⟩ := Option.map_eq_some_iff.mp hi
    rw [Prod.mk.injEq] at e
    obtain ⟨rfl, rfl⟩ := e
    exact ⟨q'.1, q'.2.1, hq', rfl⟩
  · obtain ⟨j, hj, rfl⟩ := List.mem_iff_getElem.mp hx
    obtain ⟨T, _, _, e3⟩ := hpr j _ (List.getElem?_eq_getElem hj)
    obtain ⟨ob, items, m, h1, h2, h3, h4⟩ := e3
    exact ⟨ob, items, m, hk _ _ (Nat.ne_of_lt (Heap.lt_size h1)) (fun z => nomatch z) h1, h2, h3, h4⟩
  · have hm : (s.heap.objs.size == sysModules) = false := beq_eq_false_iff_ne.mpr (Nat.ne_of_gt I.big)
    have hlen : (mergeT [] kvs).length ≤ sizeLine := by
      refine Nat.le_trans (length_mergeT kvs []) ?_
      rw [List.length_nil, Nat.zero_add, rel.length, hl]
      exact hz
    have fresh := I.hok.fresh (Nat.le_refl s.heap.objs.size)
    obtain ⟨ob, es, ep, h1, h2, h3, h4, _, h5⟩ := hd'
    refine ⟨.ref s.heap.objs.size, upd H s.heap.objs.size (.dT (mergeT [] kvs)), I.laid (t' := tk) (fun b u hb => k b u (fun z => nomatch z) hb) (Nat.le_refl _) (show ObjOk X.prog X.w _ _ _ (.dT (mergeT [] kvs)) from ⟨hlen, hm, storedAllH [] prs, ?_, ob, es, ep, h1, h2, h3, h4, h5⟩), rfl, q _ fresh⟩
    refine KT.keeps (KT.merge rel .nil) fun b ys hb => ?_
    have : b ≠ s.heap.objs.size := fun z => by rw [z, fresh] at hb; cases hb
    rw [upd_ne this]
    exact hb
end
end L2

/-! U5: tuples known to have no dict of their own. -/
namespace L2
open PySem PySem.Spec PyProof.Rows
/-- a tuple that has no dict of its own -/
def Tp (H : Hp) (a : Addr) (vs : List V) : Prop := ∃ o : Obj, o.dict = none ∧ H a = some (.frz o (.tup vs))
/-- whatever is wanted of a new tuple -/
def NewT (H : Hp) (vs : List V) (Q : VK) : Prop := ∀ (p : Addr) (o : Obj), H p = none → o.dict = none → Q (.ref p) (upd H p (.frz o (.tup vs)))
section
variable {X : Cx} {pins : List (Addr × Obj)} {σ : L2.St} {H : Hp} {s : Shared} {Q : VK} {h' : Heap} {a : Addr} {vs : List V} {K : PySem.W.Frag}
theorem Tp.sq (h : Tp H a vs) : SqT K H a vs := let ⟨o, _, e⟩ := h; .inl (.inr ⟨o, e⟩)
theorem Tp.one {ws : List V} (h : Tp H a vs) (h2 : Tp H a ws) : vs = ws := by
  obtain ⟨o, _, e⟩ := h
  obtain ⟨o2, _, e2⟩ := h2
  rw [e] at e2
  cases e2
  rfl
theorem Tp.obj {o : Obj} (hd : o.dict = none) : Tp (upd H a (.frz o (.tup vs))) a vs := ⟨o, hd, upd_same⟩
/-- a new tuple lies there -/
theorem tp_new {its : List Value} {t : Nat} (I : Inv X pins σ H s) (k : ∀ b u, s.heap.get? b = some u → h'.get? b = some u) (hp : s.heap.objs.size ≤ a) (e : h'.get? a = some { cls := .type "tuple", data := .seq its.toArray }) (r : Vals vs its) (z : vs.length ≤ sizeLine) (q : NewT H vs Q) :
    EP X pins σ Q (.ref a) { s with heap := h', toks := t } :=
  ⟨.ref a, upd H a (.frz { cls := .type "tuple", data := .seq its.toArray } (.tup vs)), I.laid (t' := t) k hp ⟨e, z, its, r, _, e, rfl, _, rfl⟩, rfl, q a _ (I.hok.fresh hp) rfl⟩
theorem tp_push {its : List Value} {t : Nat} (I : Inv X pins σ H s) (r : Vals vs its) (z : vs.length ≤ sizeLine) (q : NewT H vs Q) :
    EP X pins σ Q (.ref s.heap.objs.size) { s with heap := s.heap.push { cls := .type "tuple", data := .seq its.toArray }, toks := t } :=
  tp_new I (fun b u hb => Heap.get?_push_of_some _ hb) (Nat.le_refl _) (Heap.get?_push_size _ rfl) r z q
/-- the written tuple -/
def tTupN (t : TA) : TE := fun σ H Q => t σ H fun xs H1 => xs.length ≤ sizeLine ∧ NewT H1 xs Q
theorem pe_tupN {es : List Expr} {t : TA} {x1} {pos : Pos} (h : PA X es t) : PE X (.Tuple es x1 pos) (tTupN t) :=
  ⟨fun pins s σ H Q I hq => wpAny_Tuple_spliced (thn (h.run pos pins s σ H _ I hq) fun us s1 w => by
    obtain ⟨xs, H1, J, r, z, q⟩ := w
    exact ⟨by rw [← r.length]; exact z, tp_push J r z q⟩)⟩
/-- one tuple behind another one -/
def rCatN (K : PySem.W.Frag) : R2 := fun x y H Q => ∃ a b xs ys, (x = .ref a ∧ y = .ref b) ∧ (SqT K H a xs ∧ SqT K H b ys) ∧ xs.length + ys.length ≤ sizeLine ∧
  (xs = [] → Q (.ref b) H) ∧ (xs ≠ [] → ys = [] → Q (.ref a) H) ∧ (xs ≠ [] → ys ≠ [] → NewT H (xs ++ ys) Q)
theorem op_catN : OpR X (binaryOp .Add) (rCatN X.K) := by
  intro pins s σ H x y v u Q I rx ry h
  obtain ⟨a, b, xs, ys, ⟨e1, e2⟩, ⟨ha, hb⟩, hz, q0, q1, q2⟩ := h
  subst e1 e2
  cases rx
  cases ry
  obtain ⟨us, r1, t1, _⟩ := I.tuple ha
  obtain ⟨ws, r2, t2, _⟩ := I.tuple hb
  have n1 := r1.length
  have n2 := r2.length
  by_cases c : xs = []
  · subst c
    cases r1
    exact cat_tup0 t1 t2 ⟨.ref b, H, I, rfl, q0 rfl⟩
  · refine HT.cat_tup t1 t2 (fun z => c (r1.nil_iff.mp z)) (fun z => ⟨.ref a, H, I, rfl, q1 c (r2.nil_iff.mp z)⟩) (fun z => ?_) (by rw [← n1, ← n2]; exact hz)
    exact tp_push I (r1.append r2) (by rw [List.length_append]; exact hz) (q2 c fun w => z (r2.nil_iff.mpr w))
/-- a slice of a tuple: the whole of it is that one itself -/
def rSlN (K : PySem.W.Frag) : V → Option Int → Option Int → Hp → VK → Prop := fun x lo hi H Q => ∃ a xs, x = .ref a ∧ SqT K H a xs ∧
  ((HT.sIx xs.length 0 lo = 0 ∧ HT.sIx xs.length xs.length hi = xs.length) → Q (.ref a) H) ∧ (¬ (HT.sIx xs.length 0 lo = 0 ∧ HT.sIx xs.length xs.length hi = xs.length) → NewT H (cutV xs lo hi) Q)
theorem sl_tupN : SlR X (rSlN X.K) := by
  intro pins s σ H x v vl vu lo hi sl Q I rx hs pl pu h
  obtain ⟨a, xs, e, hx, q1, q2⟩ := h
  subst e
  cases rx
  obtain ⟨us, r, t, z⟩ := I.tuple hx
  have n : us.toArray.size = xs.length := by rw [List.size_toArray]; exact r.length.symm
  refine ⟨"tuple", _, PyProof.Rows.slot_tuple_getitem.lookup, t.typeIs, ?_⟩
  by_cases c : HT.sIx xs.length 0 lo = 0 ∧ HT.sIx xs.length xs.length hi = xs.length
  · exact getItem_tuple_whole t hs pl pu (by rw [n]; exact c) ⟨.ref a, H, I, rfl, q1 c⟩
  · refine HT.getItem_tuple_cut t hs pl pu (by rw [n]; exact c) ?_ (by rw [n]; exact z)
    rw [n]
    exact tp_push I ((r.drop (HT.sIx xs.length 0 lo)).take (HT.sIx xs.length xs.length hi - HT.sIx xs.length 0 lo)) (Nat.le_trans (cutV_length xs lo hi) z) (q2 c)
/-- tuple(xs) of a list or a tuple -/
theorem call_tupN : CallR X (.type "tuple") (fun xs H Q => ∃ a ys, xs = [.ref a] ∧ ((SqL X.K H a ys ∧ NewT H ys Q) ∨ (SqT X.K H a ys ∧ Q (.ref a) H))) := by
  intro pins s σ H xs us Q I r h
  obtain ⟨a, ys, e, h⟩ := h
  subst e
  obtain ⟨u, rfl, ru⟩ := vals1 r
  cases ru
  rcases h with ⟨hl, q⟩ | ⟨ht, q⟩
  · obtain ⟨ws, rw', l, z⟩ := I.list hl
    exact call_tuple_list l.isList (fun h' k => tp_push (I.kept (t' := s.toks) k) rw' z q) (by rw [List.size_toArray, ← rw'.length]; exact z)
  · obtain ⟨ws, _, t, _⟩ := I.tuple ht
    exact call_tuple_same t ⟨.ref a, H, I, rfl, q⟩
def tTupRgN (te : L2.St → Hp → (Int → Int → Hp → Prop) → Prop) : TE := fun σ H Q => te σ H fun a b H1 => RgOk a b ∧ NewT H1 (rgV a b) Q
theorem pe_tupRgN {e : Expr} {te : L2.St → Hp → (Int → Int → Hp → Prop) → Prop} {p pos : Pos} (hc : X.calm = true) (hg : Gl X "tuple") (hm : X.mg "tuple" = none) (he : PRg X e te) (na : starEach [e] X.env = (false, eval e X.env) :: starEach [] X.env := by rfl) :
    PE X (.Call (.Name "tuple" p) [e] [] pos) (tTupRgN te) :=
  ⟨fun pins s σ H Q I h => Call_ (ld_blt I hg hm boot_tuple (PyProof.Rows.callWith_type1 (args_cons (thn (he pins s σ H _ I h) fun x s1 w => args_nil (by
    obtain ⟨r, a, b, t, u, v, H1, ex, hr, J, ⟨b1, b2, b3, b4, b5⟩, q⟩ := w
    subst ex
    refine call_tuple_range (n := (b - a).toNat) (J.ok.hd hc) hr (small_one b1 b2 b3 b4) (rangeSize_nat a b) b5 fun h' tk acc hk hi => ?_
    have := tp_push (t := tk) (J.kept (t' := tk) hk) (vals_rg hi) (by rw [rgV_length, sizeLine_eq]; omega) q
    rwa [Array.toArray_toList] at this)) na) na))⟩
end
end L2

/-! U6: tuples without a dict: some times over, sorted. -/
namespace L2
open PySem PySem.Spec PyProof.Rows
section
variable {X : Cx}
/-- a tuple k times over -/
def rTimesN (K : PySem.W.Frag) : R2 := fun x y H Q => ∃ l k xs, (x = .ref l ∧ y = .int k) ∧ SqT K H l xs ∧ xs.length ≤ 1000 ∧ (0 ≤ k ∧ k ≤ 1000) ∧ ((xs = [] ∨ k = 1) → Q (.ref l) H) ∧ (¬ (xs = [] ∨ k = 1) → NewT H (List.replicate k.toNat xs).flatten Q)
theorem op_timesN : OpR X (binaryOp .Mult) (rTimesN X.K) := by
  intro pins s σ H x y v u Q I rx ry h
  obtain ⟨l, k, xs, ⟨ex, ey⟩, hT, hz, ⟨k0, k1⟩, qa, qb⟩ := h
  subst ex ey
  cases rx
  obtain ⟨t, rfl⟩ := ry
  obtain ⟨us, r, ⟨⟨cls, dd, data, sl⟩, ho, hc, n, hd⟩, hs⟩ := I.tuple hT
  simp only at hc hd
  subst hc hd
  have le1 : us.length = xs.length := r.length.symm
  have w0 : (decide (k < -(2 ^ 63)) || decide (k ≥ 2 ^ 63)) = false := by
    rw [Bool.or_eq_false_iff]
    exact ⟨decide_eq_false (by omega), decide_eq_false (by omega)⟩
  have emp : us.toArray.isEmpty = decide (xs = []) := by
    cases us with
    | nil => simp [List.eq_nil_of_length_eq_zero le1.symm]
    | cons _ _ =>
      have : xs ≠ [] := fun e => by simp [e] at le1
      simp [this]
  have many : (List.replicate k.toNat xs).flatten.length ≤ sizeLine := by
    rw [PyProof.Rows.lm_len_rep_flat, sizeLine_eq]
    have : k.toNat * xs.length ≤ 1000 * 1000 := Nat.mul_le_mul (by omega) hz
    omega
  refine wpAny_binaryOp_repeat_ref (T := "tuple") (U := "int") (by decide) ⟨_, ho, rfl⟩ (fun s' => typeIs_int s' k t) noFill_tuple_mul F.fills_int_mul F.slot_int_rmul repeat_tuple F.slot_int_index.lookup (call_meets F.slot_int_rmul (typeIs_int s k t) F.entry_int_rmul (F.args_int_rmul_2 _ _) (int_rmul_tuple k t l us.toArray n dd sl) ⟨ho, rfl, ⟨_, ho, rfl⟩, ?_⟩)
  by_cases d : xs = [] ∨ k = 1
  · have w1 : (us.toArray.isEmpty || k == 1) = true := by
      rw [emp, Bool.or_eq_true, decide_eq_true_eq, beq_iff_eq]
      exact d
    exact call_meets F.slot_tuple_mul ⟨_, ho, rfl⟩ F.entry_tuple_mul (F.args_tuple_mul_2 _ _) (tm_same l us.toArray n dd sl k t w0 w1) ⟨ho, .ref l, H, I, rfl, qa d⟩
  · have w1 : (us.toArray.isEmpty || k == 1) = false := by
      rw [emp, Bool.or_eq_false_iff, decide_eq_false_iff_not, beq_eq_false_iff_ne]
      exact ⟨fun e => d (.inl e), fun e => d (.inr e)⟩
    by_cases c : k = 0
    · have w2 : (decide (k ≤ 0) || us.toArray.isEmpty) = true := by
        rw [Bool.or_eq_true, decide_eq_true_eq]
        exact .inl (by omega)
      refine call_meets F.slot_tuple_mul ⟨_, ho, rfl⟩ F.entry_tuple_mul (F.args_tuple_mul_2 _ _) (tm_none l us.toArray n dd sl k t w0 w1 w2) ⟨ho, ?_⟩
      have e : (List.replicate k.toNat xs).flatten = [] := by rw [c]; rfl
      have q := qb d
      rw [e] at q
      exact tp_push (its := []) I .nil (Nat.zero_le _) q
    · have ne : xs ≠ [] := fun e => d (.inl e)
      have w2 : (decide (k ≤ 0) || us.toArray.isEmpty) = false := by
        rw [Bool.or_eq_false_iff, emp]
        exact ⟨decide_eq_false (by omega), decide_eq_false ne⟩
      have sz : us.toArray.size = xs.length := by rw [List.size_toArray, le1]
      have bd : ((us.toArray.size : Nat) : Int) * k ≤ 1000000 := by
        rw [sz]
        have : ((xs.length : Nat) : Int) * k ≤ 1000 * k := Int.mul_le_mul_of_nonneg_right (by omega) (by omega)
        omega
      have w4 : Builtin.Tuple.tupleTooMany (((us.toArray.size : Nat) : Int) * k) = false := by
        unfold Builtin.Tuple.tupleTooMany
        rw [sizeLine_eq]
        exact decide_eq_false (by omega)
      refine call_meets F.slot_tuple_mul ⟨_, ho, rfl⟩ F.entry_tuple_mul (F.args_tuple_mul_2 _ _) (tuple_mulW l us.toArray n dd sl k t w0 w1 w2 (by omega) w4 ?_) ⟨ho, ?_⟩
      · rw [size_rep, List.size_toArray, PyProof.Rows.lm_len_rep_flat, le1, ← PyProof.Rows.lm_len_rep_flat]
        exact many
      · rw [size_rep]
        exact tp_push I (r.rep k.toNat) many (qb d)
/-- sorted(xs) of a list of pairs of ints -/
def rSortN (K : PySem.W.Frag) : List V → Hp → VK → Prop := fun vs H Q => ∃ (a : Addr) (xs : List V) (k : V → Int × Int), vs = [V.ref a] ∧ SqL K H a xs ∧ (∀ x ∈ xs, ∃ t, x = V.ref t ∧ SqT K H t [.int (k x).1, .int (k x).2]) ∧
  ∀ ys p, SrtO.Srtd (ltP k) ys → SrtO.Stb (ltP k) ys xs → H p = none → Q (.ref p) (upd H p (.lst ys))
theorem cr_sortN : CallR X (.builtin "sorted") (rSortN X.K) := by
  intro pins s σ H vs us Q I r h
  obtain ⟨a, xs, k, e, hs, hx, q⟩ := h
  subst e
  obtain ⟨ws, rw', l, z⟩ := I.list hs
  obtain ⟨u, rfl, ru⟩ := vals1 r
  obtain rfl : u = Value.ref a := ru
  obtain ⟨i1, i2⟩ := refs_back rw' fun x m => let ⟨t, e, _⟩ := hx x m; ⟨t, e⟩
  refine SrtO.sorted_pairsO (k := fun u => k (backV u)) l.isList (by rw [← rw'.length]; exact z) (fun v hv => ?_) fun h' d out j1 j2 kp hd hn => ?_
  · obtain ⟨t, e⟩ := i2 v hv
    subst e
    obtain ⟨t', e, ht⟩ := hx (V.ref t) (by rw [i1]; exact List.mem_map.mpr ⟨_, hv, rfl⟩)
    cases e
    obtain ⟨its, r2, ⟨o, ho, hc, n, hd⟩, _⟩ := I.tuple ht
    obtain ⟨u1, u2, e, ri, rj⟩ := vals2 r2
    subst e
    obtain ⟨t1, e⟩ := ri
    subst e
    obtain ⟨t2, e⟩ := rj
    subst e
    exact ⟨t, o, t1, t2, n, rfl, ho, hc, hd⟩
  · obtain ⟨n, hn⟩ := hn
    have j3 : SrtO.Stb (ltP k) (out.map backV) xs := by
      rw [i1]
      exact SrtO.Stb.map (ltP_swo k) backV j2
    refine ⟨.ref d, upd H d (.lst (out.map backV)), I.laid (t' := s.toks) kp hd ⟨by rw [j3.len]; exact z, out, n, vals_back fun u hu => i2 u (j2.perm.mem_iff.mp hu), hn⟩, rfl, q _ d (SrtO.srtd_map j1) j3 (I.hok.fresh hd)⟩
end
end L2

/-! U7: zip of two tuples. -/
namespace L2
open PySem PySem.Spec PyProof.Rows RZ
/-- two tuples side by side, the items in new pairs -/
def ItzN (K : PySem.W.Frag) (a b : Addr) : It :=
  ⟨(ItzT K a b).go, fun i H v H' => ∃ T x y o, v = .ref T ∧ H T = none ∧ (o.dict = none ∧ H' = upd H T (.frz o (.tup [x, y]))) ∧ (∀ xs, SqT K H a xs → xs[i]? = some x) ∧ ∀ ys, SqT K H b ys → ys[i]? = some y, (ItzT K a b).stop⟩
theorem turn_zipN {P : Program} {w : World} {K : PySem.W.Frag} {elts : List Expr} {kk : Nat} {tpos : Pos} {a b z TI TO i1 i2 : Addr} (D : ZipApart z TI TO i1 i2 a b) :
    Turn P w K (.Tuple elts kk tpos) (ItzN K a b) [z, TI, TO, i1, i2] z (fun i h => IsZip h z TI TO .none ∧ IsPair h TI (.ref i1) (.ref i2) ∧ (∃ x y, IsPair h TO x y) ∧ h.IsTupleIter i1 a i ∧ h.IsTupleIter i2 b i) where
  mem := by simp
  obj := (turn_zipT (P := P) (w := w) (K := K) (elts := elts) (kk := kk) (tpos := tpos) D).obj
  keep := (turn_zipT (P := P) (w := w) (K := K) (elts := elts) (kk := kk) (tpos := tpos) D).keep
  item := by
    intro X hP hw hK hc i pins s σ H E I hf st hg
    subst hP hw hK
    obtain ⟨hz, g1, ⟨x0, y0, g2⟩, k1, k2⟩ := st
    obtain ⟨xs, ys, x, y, hqx, hqy, hx, hy⟩ := hg
    obtain ⟨us, rv, p, _⟩ := I.tuple hqx
    obtain ⟨ws, rw', p2, _⟩ := I.tuple hqy
    obtain ⟨u, hu, ru⟩ := rv.get hx
    obtain ⟨v, hv, rv2⟩ := rw'.get hy
    have zl : z < s.heap.objs.size := Heap.lt_size hz
    refine pyNext_zipT_item D hz g1 g2 k1 k2 p p2 (x := u) (y := v) (by simpa using hu) (by simpa using hv) fun h1 z1 q2 j1 j2 hT _ hk => ⟨_, rfl, wpAny_letOwnedTupleGo_zip (s := { s with heap := h1 }) z1 fun h2 z2 sb => ?_⟩
    have t2 : h2.get? s.heap.objs.size = some { cls := .type "tuple", data := .seq #[u, v] } := (sb.2 _ (Nat.ne_of_gt zl)).trans hT
    have J := I.turnedNew (t' := s.toks) (ob := .frz { cls := .type "tuple", data := .seq #[u, v] } (.tup [x, y])) (ch := [z, TI, TO, i1, i2]) (fun c o hb q => (sb.2 c (fun q' => hb (by simp [q']))).trans (hk c o (fun q' => hb (by simp [q'])) (fun q' => hb (by simp [q'])) (fun q' => hb (by simp [q'])) (fun q' => hb (by simp [q'])) q)) hf (Nat.le_refl _)
      ⟨t2, by show 2 ≤ sizeLine; decide, [u, v], .cons ru (.cons rv2 .nil), _, t2, rfl, _, rfl⟩
    refine ⟨.ref s.heap.objs.size, _, J, rfl, ⟨_, x, y, _, rfl, I.hok.fresh (Nat.le_refl _), ⟨rfl, rfl⟩, fun l hl => by rw [I.tuple_inj hl hqx]; exact hx, fun l hl => by rw [I.tuple_inj hl hqy]; exact hy⟩, ⟨z2, (sb.2 _ D.TIz).trans (hk _ _ D.TIz D.TITO D.TIi1 D.TIi2 g1), ⟨u, v, (sb.2 _ D.TOz).trans q2⟩, j1.at fun o q => (sb.2 _ D.i1z).trans q, j2.at fun o q => (sb.2 _ D.i2z).trans q⟩, fun c hcm => ?_⟩
    have lt : c < s.heap.objs.size := by
      simp only [List.mem_cons, List.not_mem_nil, or_false] at hcm
      rcases hcm with q | q | q | q | q <;> rw [q]
      · exact zl
      · exact Heap.lt_size g1
      · exact Heap.lt_size g2
      · obtain ⟨_, e1, _⟩ := k1; exact Heap.lt_size e1
      · obtain ⟨_, e2, _⟩ := k2; exact Heap.lt_size e2
    rw [upd_ne (Nat.ne_of_lt lt)]
    exact (hf c hcm).1
  done := (turn_zipT (P := P) (w := w) (K := K) (elts := elts) (kk := kk) (tpos := tpos) D).done
  self := (turn_zipT (P := P) (w := w) (K := K) (elts := elts) (kk := kk) (tpos := tpos) D).self
def iZipN (K : PySem.W.Frag) (ta : TA) : TI := fun σ H R => ta σ H fun vs H1 => ∃ a b xs ys, vs = [.ref a, .ref b] ∧ SqT K H1 a xs ∧ SqT K H1 b ys ∧ R (ItzN K a b) H1
theorem pi_zipN {X : Cx} {e e2 : Expr} {ta : TA} {p pos tpos : Pos} {elts : List Expr} {kk : Nat} (hg : Gl X "zip") (hm : X.mg "zip" = none) (ha : PA X [e, e2] ta)
    (hs : starEach [e, e2] X.env = (false, eval e X.env) :: starEach [e2] X.env := by rfl) (hpl : (backTo pos (starEach [e2] X.env)).any (·.1) = false := by rfl) : PI X (.Tuple elts kk tpos) (.Call (.Name "zip" p) [e, e2] [] pos) (iZipN X.K ta) :=
  ⟨fun pins s σ H R I h => Call_ (ld_blt I hg hm PyProof.Rows.boot_zip (PyProof.Rows.callWith_type1 (thn (ha.run pos pins s σ H _ I h) fun us s1 ⟨vs, H1, J, r1, q1⟩ => by
    obtain ⟨a, b, xs, ys, ex, hx, hy, q⟩ := q1
    subst ex
    obtain ⟨u, v, eu, r, r'⟩ := vals2 r1
    subst eu
    cases r
    cases r'
    obtain ⟨us, rv, p1, _⟩ := J.tuple hx
    obtain ⟨ws, rw', p2, _⟩ := J.tuple hy
    obtain ⟨o1, g1, _⟩ := id p1
    obtain ⟨o2, g2, _⟩ := id p2
    refine call_zipT (show s1.heap.IsTuple a us.toArray from p1) (show s1.heap.IsTuple b ws.toArray from p2) fun h1 hz k1 k2 j1 j2 _ hk => wpAny_pyIter_zip hz ?_
    refine ⟨s1.heap.objs.size + 4, [s1.heap.objs.size + 4, s1.heap.objs.size + 2, s1.heap.objs.size + 3, s1.heap.objs.size, s1.heap.objs.size + 1], _, _, H1, rfl, J.kept (t' := s1.toks) hk, turn_zipN (PySem.W.ktu_apart s1.heap.objs.size a b (Heap.lt_size g1) (Heap.lt_size g2)), ⟨hz, k1, ⟨_, _, k2⟩, j1, j2⟩, fun c hc => ?_, q⟩
    have le : s1.heap.objs.size ≤ c := by
      simp only [List.mem_cons, List.not_mem_nil, or_false] at hc
      rcases hc with z | z | z | z | z <;> rw [z] <;> first | exact Nat.le_refl _ | exact Nat.le_add_right _ _
    exact J.fpOk le (J.hok.fresh le)) hs hpl))⟩
end L2

/-! U8: dicts keyed by tuples that have no dict of their own. -/
namespace L2
open PySem PySem.Spec PyProof.Rows
/-- a key, where it lies, what it holds -/
abbrev Tri := List Key × Addr × V
def TRel (ts : List Tri) (xs : List (List Key × Addr × Value)) : Prop := Paired (fun p q => p.1 = q.1 ∧ p.2.1 = q.2.1 ∧ RelV p.2.2 q.2.2) ts xs
/-- what is true of the dict's own object -/
def DitP (P : Program) (w : World) (a : Addr) (ts : List Tri) (h : Heap) : Prop := ts.length ≤ sizeLine ∧ (a == sysModules) = false ∧ ∃ xs, TRel ts xs ∧
  ∃ o es ep, h.get? a = some o ∧ o.ExactDict ∧ o.data = .dict es ep ∧ es.toList = xs.map (entryOfKey (tupleKind (mixKind P w))) ∧ (xs.map (·.1)).Nodup
/-- the dict lies there, so do its keys -/
def Dit (P : Program) (w : World) (H : Hp) (a : Addr) (ts : List Tri) : Prop := H a = some (.ext (DitP P w a ts)) ∧ ∀ t ∈ ts, Tp H t.2.1 (t.1.map kV)
def valDit (ts : List Tri) (k : List Key) : Option V := (ts.find? fun t => decide (t.1 = k)).map (·.2.2)
def putDit (ts : List Tri) (k : List Key) (b : Addr) (v : V) : List Tri :=
  if (ts.find? fun t => decide (t.1 = k)).isSome then ts.map fun t => if t.1 = k then (t.1, t.2.1, v) else t else ts ++ [(k, b, v)]
section
variable {ts : List Tri} {xs : List (List Key × Addr × Value)} {k : List Key} {b : Addr} {v : V} {u : Value} {P : Program} {w : World} {H : Hp} {h : Heap} {a : Addr}
theorem TRel.find (r : TRel ts xs) : (∃ t q, ts.find? (fun t => decide (t.1 = k)) = some t ∧ xs.find? (fun x => decide (x.1 = k)) = some q ∧ RelV t.2.2 q.2.2) ∨ (ts.find? (fun t => decide (t.1 = k)) = none ∧ xs.find? (fun x => decide (x.1 = k)) = none) := by
  unfold TRel at r
  induction r with
  | nil => exact .inr ⟨rfl, rfl⟩
  | @cons p q ps qs g _ ih =>
    obtain ⟨g1, _, g3⟩ := g
    by_cases c : p.1 = k
    · exact .inl ⟨p, q, by rw [List.find?_cons, decide_eq_true c], by rw [List.find?_cons, decide_eq_true (g1.symm.trans c)], g3⟩
    · have c2 : ¬ q.1 = k := fun z => c (g1.trans z)
      rw [List.find?_cons, List.find?_cons, decide_eq_false c, decide_eq_false c2]
      exact ih
theorem TRel.val (r : TRel ts xs) : RelO (valDit ts k) ((atKey xs k).map (·.2)) := by
  unfold valDit atKey
  rcases r.find (k := k) with ⟨t, q, e1, e2, e3⟩ | ⟨e1, e2⟩
  · rw [e1, e2]; exact e3
  · rw [e1, e2]; exact True.intro
theorem TRel.len (r : TRel ts xs) : ts.length = xs.length := Paired.length r
theorem TRel.put (r : TRel ts xs) (rv : RelV v u) : TRel (putDit ts k b v) (storedH xs k b u) := by
  unfold putDit storedH atKey
  rw [Option.isSome_map]
  have e : (ts.find? fun t => decide (t.1 = k)).isSome = (xs.find? fun x => decide (x.1 = k)).isSome := by
    rcases r.find (k := k) with ⟨t, q, e1, e2, e3⟩ | ⟨e1, e2⟩ <;> rw [e1, e2] <;> rfl
  rw [e]
  by_cases c : (xs.find? fun x => decide (x.1 = k)).isSome = true
  · rw [if_pos c, if_pos c]
    unfold TRel at r ⊢
    clear e c
    induction r with
    | nil => exact .nil
    | @cons p q ps qs g _ ih =>
      obtain ⟨g1, g2, g3⟩ := g
      rw [List.map_cons, List.map_cons]
      refine .cons ?_ ih
      unfold putAt
      by_cases c : p.1 = k
      · rw [if_pos c, if_pos (g1.symm.trans c)]; exact ⟨g1, g2, rv⟩
      · rw [if_neg c, if_neg fun z => c (g1.trans z)]; exact ⟨g1, g2, g3⟩
  · rw [if_neg c, if_neg c]
    exact Paired.snoc r ⟨rfl, rfl, rv⟩
def triTwo (t : Tri) : List Key × V := (t.1, t.2.2)
theorem valDit_two : ∀ {ts : List Tri}, valV (ts.map triTwo) k = valDit ts k
  | [] => rfl
  | t :: r => by
    have ih := valDit_two (ts := r)
    unfold valV valDit at ih ⊢
    rw [List.map_cons, List.find?_cons, List.find?_cons]
    by_cases c : t.1 = k
    · have c2 : (triTwo t).1 = k := c
      rw [decide_eq_true c, decide_eq_true c2]; rfl
    · have c2 : ¬ (triTwo t).1 = k := c
      rw [decide_eq_false c, decide_eq_false c2]; exact ih
theorem putDit_two : (putDit ts k b v).map triTwo = putK (ts.map triTwo) k v := by
  have e : ((ts.map triTwo).any fun kv => decide (kv.1 = k)) = (ts.find? fun t => decide (t.1 = k)).isSome := by
    rw [valV_any, valDit_two]
    unfold valDit
    rw [Option.isSome_map]
  unfold putDit putK
  rw [e]
  split
  · rw [List.map_map, List.map_map]
    refine List.map_congr_left fun t _ => ?_
    show triTwo (if t.1 = k then _ else _) = if t.1 = k then _ else _
    split <;> rfl
  · rw [List.map_append]; rfl
theorem putDit_len : (putDit ts k b v).length ≤ ts.length + 1 := by
  unfold putDit
  split <;> simp
theorem putDit_mem {t : Tri} (m : t ∈ putDit ts k b v) : (∃ t' ∈ ts, t'.1 = t.1 ∧ t'.2.1 = t.2.1) ∨ (t.1 = k ∧ t.2.1 = b) := by
  unfold putDit at m
  split at m
  · obtain ⟨t', m', e⟩ := List.mem_map.mp m
    refine .inl ⟨t', m', ?_⟩
    by_cases c : t'.1 = k
    · rw [if_pos c] at e; subst e; exact ⟨rfl, rfl⟩
    · rw [if_neg c] at e; subst e; exact ⟨rfl, rfl⟩
  · rcases List.mem_append.mp m with z | z
    · exact .inl ⟨t, z, rfl, rfl⟩
    · rw [List.mem_singleton.mp z]; exact .inr ⟨rfl, rfl⟩
/-- as an object of the heap -/
theorem ditP_ok {ob : Obj} (g : DitP P w a ts h) (e : h.get? a = some ob) : ObjOk P w H h a (.ext (DitP P w a ts)) :=
  ⟨g, ⟨ob, e⟩, fun h1 h2 ⟨z, y, xs, r, o, es, ep, e, q⟩ k => ⟨z, y, xs, r, o, es, ep, k _ e, q⟩⟩
theorem tp_is {ks : List Key} (ok : HOk P w H h) (e : Tp H a (ks.map kV)) : (tupleKind (mixKind P w)).is h ks a := by
  obtain ⟨o, _, e⟩ := e
  obtain ⟨_, _, its, r, o', h1, h2, n, h3⟩ := ok a _ e
  exact ⟨o', its.toArray, n, h1, h2, h3, by simpa using items_are r⟩
theorem Dit.get (ok : HOk P w H h) (d : Dit P w H a ts) : ts.length ≤ sizeLine ∧ (a == sysModules) = false ∧ ∃ xs, TRel ts xs ∧ h.DictOfH (tupleKind (mixKind P w)) a xs := by
  obtain ⟨e, keys⟩ := d
  obtain ⟨⟨z, y, xs, r, o, es, ep, h1, h2, h3, h4, h5⟩, _, _⟩ := ok a _ e
  refine ⟨z, y, xs, r, o, es, ep, h1, h2, h3, h4, fun x hx => ?_, h5⟩
  have all : ∀ {l : List Tri} {m : List (List Key × Addr × Value)}, TRel l m → (∀ t ∈ l, Tp H t.2.1 (t.1.map kV)) → ∀ x ∈ m, (tupleKind (mixKind P w)).is h x.1 x.2.1 := by
    intro l m q
    unfold TRel at q
    induction q with
    | nil => exact fun _ x hx => nomatch hx
    | @cons p q ps qs g _ ih =>
      intro kk x hx
      rcases List.mem_cons.mp hx with e | hx
      · have := kk p (List.mem_cons_self ..)
        rw [g.1, g.2.1] at this
        rw [e]
        exact tp_is ok this
      · exact ih (fun t ht => kk t (List.mem_cons_of_mem _ ht)) x hx
  exact all r keys x hx
end
section
variable {X : Cx} {pins : List (Addr × Obj)} {σ : L2.St} {H : Hp} {s : Shared} {a b : Addr} {ts : List Tri} {k : List Key} {v : V} {u r : Value} {A : Around} {E : Value → Shared → Prop}
theorem ditGet {Q : Value → Shared → Prop} (hu : A.units + 1 < cLine) (I : Inv X pins σ H s) (d : Dit X.prog X.w H a ts) (kb : Tp H b (k.map kV)) (e : valDit ts k = some v) (q : ∀ w' s', Inv X pins σ H s' → RelV v w' → Q w' s') : wpAny (model X.prog X.w) A (getItem (.ref a) (.ref b)) Q E s := by
  obtain ⟨_, _, xs, rel, dd⟩ := d.get I.hok
  obtain ⟨w', hw, rw'⟩ := RelO.some_of (v := v) (o := (atKey xs k).map (·.2)) (by rw [← e]; exact rel.val)
  obtain ⟨p, hp, e2⟩ := Option.map_eq_some_iff.mp hw
  refine wpAny_getItem_heap (tupleKind_room_in1 hu) (tp_is I.hok kb) dd hp ?_
  rw [e2]
  exact q w' _ (I.tok _) rw'
theorem ditIn {Q : Value → Shared → Prop} (hu : A.units + 1 < cLine) (I : Inv X pins σ H s) (d : Dit X.prog X.w H a ts) (kb : Tp H b (k.map kV)) (q : ∀ s', Inv X pins σ H s' → Q (.bool (valDit ts k).isSome) s') : wpAny (model X.prog X.w) A (compareOp .In (.ref b) (.ref a)) Q E s := by
  obtain ⟨_, m, xs, rel, dd⟩ := d.get I.hok
  refine wpAny_in_heap (tupleKind_room_in1 hu) (tp_is I.hok kb) m dd ?_
  have e := (rel.val (k := k)).isSome_eq
  rw [Option.isSome_map] at e
  rw [← e]
  exact q _ (I.tok _)
theorem ditNotIn {Q : Value → Shared → Prop} (hu : A.units + 1 < cLine) (I : Inv X pins σ H s) (d : Dit X.prog X.w H a ts) (kb : Tp H b (k.map kV)) (q : ∀ s', Inv X pins σ H s' → Q (.bool (!(valDit ts k).isSome)) s') : wpAny (model X.prog X.w) A (compareOp .NotIn (.ref b) (.ref a)) Q E s := by
  obtain ⟨_, m, xs, rel, dd⟩ := d.get I.hok
  refine wpAny_notIn_heap (tupleKind_room_in1 hu) (tp_is I.hok kb) m dd ?_
  have e := (rel.val (k := k)).isSome_eq
  rw [Option.isSome_map] at e
  rw [← e]
  exact q _ (I.tok _)
theorem Tp.other {b' : Addr} {vs : List V} {o : HO} (t : Tp H b vs) (n : ¬ ∃ ob u, H b' = some (.frz ob u)) : Tp (upd H b' o) b vs := by
  obtain ⟨ob, hd, e⟩ := t
  exact ⟨ob, hd, by rw [upd_ne (fun z => n ⟨ob, _, by rw [← z]; exact e⟩)]; exact e⟩
theorem ditPut {Q : Unit → Shared → Prop} (hu : A.units + 1 < cLine) (I : Inv X pins σ H s) (d : Dit X.prog X.w H a ts) (kb : Tp H b (k.map kV)) (l : ts.length < sizeLine) (rv : RelV v r)
    (q : ∀ s', Inv X pins σ (upd H a (.ext (DitP X.prog X.w a (putDit ts k b v)))) s' → Q () s') : wpAny (model X.prog X.w) A (setItem (.ref a) (.ref b) r) Q E s := by
  obtain ⟨_, m, xs, rel, dd⟩ := d.get I.hok
  refine wpAny_setItem_heap (hsz := by rw [← rel.len]; exact Nat.le_of_lt l) (tupleKind_room_in1 hu) (tp_is I.hok kb) dd fun h' dd' hs => q _ ?_
  obtain ⟨o, es, ep, h1, h2, h3, h4, _, h5⟩ := dd'
  refine d_write I (by rw [d.1]; exact True.intro) hs ⟨o, h1⟩ (ditP_ok ⟨?_, m, _, rel.put rv, o, es, ep, h1, h2, h3, h4, h5⟩ h1)
  have := putDit_len (ts := ts) (k := k) (b := b) (v := v)
  omega
theorem ditKeys {ts : List Tri} {o : HO} (d : Dit X.prog X.w H a ts) (kb : Tp H b (k.map kV)) : ∀ t ∈ putDit ts k b v, Tp (upd H a o) t.2.1 (t.1.map kV) := fun t m => by
  have n : ¬ ∃ ob u, H a = some (.frz ob u) := fun ⟨ob, u, e⟩ => by rw [d.1] at e; cases e
  rcases putDit_mem m with ⟨t', m', e1, e2⟩ | ⟨e1, e2⟩
  · rw [← e1, ← e2]; exact (d.2 t' m').other n
  · rw [e1, e2]; exact kb.other n
/-! ### dict(xs) of a list of pairs (tuple, value) -/
def mergeDit (ts more : List Tri) : List Tri := more.foldl (fun acc t => putDit acc t.1 t.2.1 t.2.2) ts
theorem TRel.merge {more : List Tri} {ms : List (List Key × Addr × Value)} (g : TRel more ms) : ∀ {ts : List Tri} {xs : List (List Key × Addr × Value)}, TRel ts xs → TRel (mergeDit ts more) (storedAllH xs ms) := by
  unfold TRel at g
  induction g with
  | nil => exact fun q => q
  | @cons p q ps qs z _ ih =>
    intro ts xs g0
    have e := g0.put (k := p.1) (b := p.2.1) z.2.2
    show TRel (mergeDit (putDit ts p.1 p.2.1 p.2.2) ps) (storedAllH (storedH xs q.1 q.2.1 q.2.2) qs)
    rw [← z.1, ← z.2.1]
    exact ih e
theorem mergeDit_two : ∀ (more ts : List Tri), (mergeDit ts more).map triTwo = mergeT (ts.map triTwo) (more.map triTwo)
  | [], _ => rfl
  | p :: r, ts => by
    have ih := mergeDit_two r (putDit ts p.1 p.2.1 p.2.2)
    show (mergeDit (putDit ts p.1 p.2.1 p.2.2) r).map triTwo = mergeT (putK (ts.map triTwo) p.1 p.2.2) (r.map triTwo)
    rw [ih, putDit_two]
theorem mergeDit_len : ∀ (more ts : List Tri), (mergeDit ts more).length ≤ ts.length + more.length
  | [], ts => by show ts.length ≤ ts.length + 0; omega
  | p :: r, ts => by
    have h1 := mergeDit_len r (putDit ts p.1 p.2.1 p.2.2)
    have h2 := putDit_len (ts := ts) (k := p.1) (b := p.2.1) (v := p.2.2)
    show (mergeDit (putDit ts p.1 p.2.1 p.2.2) r).length ≤ _
    rw [List.length_cons]; omega
theorem mergeDit_mem : ∀ {more ts : List Tri} {t : Tri}, t ∈ mergeDit ts more → ∃ t' ∈ ts ++ more, t'.1 = t.1 ∧ t'.2.1 = t.2.1
  | [], ts, t, m => ⟨t, by rw [List.append_nil]; exact m, rfl, rfl⟩
  | p :: r, ts, t, m => by
    obtain ⟨t', m', e1, e2⟩ := mergeDit_mem (more := r) (ts := putDit ts p.1 p.2.1 p.2.2) m
    rcases List.mem_append.mp m' with z | z
    · rcases putDit_mem z with ⟨t2, m2, f1, f2⟩ | ⟨f1, f2⟩
      · exact ⟨t2, List.mem_append_left _ m2, f1.trans e1, f2.trans e2⟩
      · exact ⟨p, List.mem_append_right _ (List.mem_cons_self ..), f1.symm.trans e1, f2.symm.trans e2⟩
    · exact ⟨t', List.mem_append_right _ (List.mem_cons_of_mem _ z), e1, e2⟩
theorem pairsDit (I : Inv X pins σ H s) {ps : List Addr} {ts : List Tri} (g : Paired (fun p (t : Tri) => Tp H p [.ref t.2.1, t.2.2] ∧ Tp H t.2.1 (t.1.map kV)) ps ts) :
    ∃ prs : List (List Key × Addr × Value), TRel ts prs ∧ prs.length = ps.length ∧ ∀ (j : Nat) (q : List Key × Addr × Value), prs[j]? = some q → ∃ T, ps[j]? = some T ∧ PairAt s.heap T (.ref q.2.1) q.2.2 ∧ (tupleKind (mixKind X.prog X.w)).is s.heap q.1 q.2.1 := by
  induction g with
  | nil => exact ⟨[], .nil, rfl, fun j q e => by simp at e⟩
  | @cons p t ps ts h _ ih =>
    obtain ⟨prs, rel, hl, hp⟩ := ih
    obtain ⟨h1, h2⟩ := h
    obtain ⟨us, rv, ht, _⟩ := I.tuple h1.sq
    obtain ⟨u, y, ei, ru, ry⟩ := vals2 rv
    subst ei
    cases ru
    refine ⟨(t.1, t.2.1, y) :: prs, .cons ⟨rfl, rfl, ry⟩ rel, by rw [List.length_cons, List.length_cons, hl], fun j q e => ?_⟩
    cases j with
    | zero =>
      obtain rfl : (t.1, t.2.1, y) = q := Option.some.inj e
      exact ⟨p, rfl, .inl ht, tp_is I.hok h2⟩
    | succ j =>
      obtain ⟨T, e1, e2, e3⟩ := hp j q (by simpa using e)
      exact ⟨T, by simpa using e1, e2, e3⟩
theorem callDit (hcalm : X.calm = true) (hu : X.A.units + 2 < cLine) : CallR X (.type "dict") (fun xs H Q => ∃ (a : Addr) (ps : List Addr) (ts : List Tri), xs = [.ref a] ∧ H a = some (.lst (ps.map V.ref)) ∧ Paired (fun p (t : Tri) => Tp H p [.ref t.2.1, t.2.2] ∧ Tp H t.2.1 (t.1.map kV)) ps ts ∧
    ∀ p, H p = none → Q (.ref p) (upd H p (.ext (DitP X.prog X.w p (mergeDit [] ts))))) := by
  intro pins s σ H xs us Q I r q
  obtain ⟨a, ps, ts, ex, hq, hp, q⟩ := q
  subst ex
  obtain ⟨u, eu, rx⟩ := vals1 r
  subst eu
  cases rx
  obtain ⟨its, rv, pl, hz⟩ := I.list (.inl (.inl hq))
  have ei := refs_at rv
  subst ei
  rw [List.length_map] at hz
  obtain ⟨prs, rel, hl, hpr⟩ := pairsDit I hp
  obtain ⟨o, n, ho, hc, hd, hdat⟩ := pl
  have OK : PlainSeq "list" s.heap a (ps.map Value.ref).toArray ∧ PairItems s.heap (ps.map Value.ref).toArray (fun j => ps.getD j 0) (prs.map fun q => (Value.ref q.2.1, q.2.2)) := by
    refine ⟨⟨o, n, ho, hc, hd, hdat⟩, by simp [hl], fun j k v hj => ?_⟩
    rw [List.getElem?_map] at hj
    obtain ⟨q', hq', e⟩ := Option.map_eq_some_iff.mp hj
    obtain ⟨T, e1, e2, _⟩ := hpr j q' hq'
    rw [Prod.mk.injEq] at e
    obtain ⟨rfl, rfl⟩ := e
    have e3 : ps.getD j 0 = T := by rw [List.getD_eq_getElem?_getD, e1]; rfl
    show _ = some (Value.ref (ps.getD j 0)) ∧ PairAt s.heap (ps.getD j 0) _ _
    rw [e3]
    exact ⟨by simp [e1], e2⟩
  refine PySem.call_dict_pairsH (knd := tupleKind (mixKind X.prog X.w)) (ps := prs) (PairArg.list a (ps.map Value.ref).toArray (fun j => ps.getD j 0) (prs.map fun q => (Value.ref q.2.1, q.2.2))) (I.ok.hd hcalm) (show X.A.in1.units + 1 < cLine from hu) OK ⟨by simp, fun i key v hi => ?_⟩ (fun h' hk x hx => ?_) (by simp [hl]; exact hz) fun h' tk hd' k => ?_
  · have hi : (prs.map fun q => (Value.ref q.2.1, q.2.2))[i]? = some (key, v) := hi
    rw [List.getElem?_map] at hi
    obtain ⟨q', hq', e⟩ := Option.map_eq_some_iff.mp hi
    rw [Prod.mk.injEq] at e
    obtain ⟨rfl, rfl⟩ := e
    exact ⟨q'.1, q'.2.1, hq', rfl⟩
  · obtain ⟨j, hj, rfl⟩ := List.mem_iff_getElem.mp hx
    obtain ⟨T, _, _, e3⟩ := hpr j _ (List.getElem?_eq_getElem hj)
    obtain ⟨ob, items, m, h1, h2, h3, h4⟩ := e3
    exact ⟨ob, items, m, hk _ _ (Nat.ne_of_lt (Heap.lt_size h1)) (fun z => nomatch z) h1, h2, h3, h4⟩
  · have hm : (s.heap.objs.size == sysModules) = false := beq_eq_false_iff_ne.mpr (Nat.ne_of_gt I.big)
    have hlen : (mergeDit [] ts).length ≤ sizeLine := by
      refine Nat.le_trans (mergeDit_len ts []) ?_
      rw [List.length_nil, Nat.zero_add, rel.len, hl]
      exact hz
    obtain ⟨ob, es, ep, h1, h2, h3, h4, _, h5⟩ := hd'
    exact ⟨.ref s.heap.objs.size, _, I.laid (t' := tk) (fun b u hb => k b u (fun z => nomatch z) hb) (Nat.le_refl _) (ditP_ok ⟨hlen, hm, storedAllH [] prs, TRel.merge rel .nil, ob, es, ep, h1, h2, h3, h4, h5⟩ h1), rfl, q _ (I.hok.fresh (Nat.le_refl _))⟩
end
end L2

/-! U9: index of lists and of tuples without a dict. -/
namespace L2
open PySem PySem.Spec PyProof.Rows
section
variable {X : Cx}
/-- t.index(x): the first place of an equal one -/
def rIndexT (K : PySem.W.Frag) : V → List V → Hp → VK → Prop := fun x xs H Q => ∃ (a : Addr) (vs : List V) (y : V) (d : PyData) (ds : List PyData) (j : Nat) (z : PyData), (x = V.ref a ∧ xs = [y]) ∧ (SqT K H a vs ∧ DpAll K H vs ds) ∧ Dp K H y d ∧
  (SeqAt.shaped (.list ds) = true ∧ SeqAt.shaped d = true) ∧ ds[j]? = some z ∧ PyData.eqv z d = true ∧ (∀ (m : Nat) (z' : PyData), m < j → ds[m]? = some z' → PyData.eqv z' d = false) ∧ Q (.int (j : Nat)) H
theorem mt_indexT (hu : X.A.units + 65 < cLine) : MtR X "tuple.index" (rIndexT X.K) := by
  intro pins s σ H x xs v us Q I rx rxs h
  obtain ⟨a, vs, y, d, ds, j, z, ⟨e1, e2⟩, ⟨ht, ha⟩, hy, ⟨sl, sd⟩, hz, hzj, hno, q⟩ := h
  subst e1 e2
  cases rx
  obtain ⟨uy, rfl, ry⟩ := vals1 rxs
  obtain ⟨bs, r1⟩ := Dp.reads I d y uy hy ry
  have can : PyData.canLayAll0 ds = true := SeqAt.canLay_of_shaped sl
  obtain ⟨its, rv, ⟨⟨cls, dd, data, sls⟩, ho, hc, n, hdt⟩, _⟩ := I.tuple ht
  simp only at hc hdt
  subst hc hdt
  obtain ⟨as, h4⟩ := Dp.readsAll I ds _ its ha rv
  have hn : its.length = ds.length := SeqAt.ReadsAll.length ds its as h4
  have hmap : its.map (SeqAt.readOf s.heap) = ds := SeqAt.readsAll_map ds its as can h4
  have jd := (List.getElem?_eq_some_iff.mp hz).1
  have hj : j < its.toArray.size := by rw [List.size_toArray]; omega
  have at_ : ∀ (m : Nat) (hm : m < its.toArray.size) (z' : PyData), ds[m]? = some z' → SeqAt.readOf s.heap its.toArray[m] = z' := fun m hm z' hz' => by
    have hml : m < its.length := by simpa using hm
    rw [← hmap, List.getElem?_map, List.getElem?_eq_getElem hml] at hz'
    simpa using Option.some.inj (show some (SeqAt.readOf s.heap its[m]) = some z' from hz')
  refine call_meets PySem.F.slot_tuple_index ⟨_, ho, rfl⟩ PySem.F.entry_tuple_index (PySem.F.args_tuple_index_2 _ _)
    (TI.tuple_indexAt a its.toArray n dd sls uy (fun u => PyData.eqv (SeqAt.readOf s.heap u) d) j hj ?_ ?_) ⟨ho, SeqAt.items_eqAt (vs := its.toArray) (show ReadsAll s.heap its.toArray.toList ds as from h4) r1 can (SeqAt.canLay_of_shaped sd) (room_in_shaped sd hu), .int (j : Nat), H, I.tok _, ⟨_, rfl⟩, q⟩
  · show PyData.eqv (SeqAt.readOf s.heap its.toArray[j]) d = true
    rw [at_ j hj z hz]
    exact hzj
  · intro m hm hmj
    have e : ds[m]? = some ds[m] := List.getElem?_eq_getElem (by omega)
    show PyData.eqv (SeqAt.readOf s.heap its.toArray[m]) d = false
    rw [at_ m hm _ e]
    exact hno m _ hmj e
/-- o.index(x) of a list or of a tuple -/
def tIndexA (K : PySem.W.Frag) (to : TE) (t : TA) : TE := fun σ H Q => to σ H fun x H1 => (tyV K "list" x H1 ∧ t σ H1 fun xs H2 => rIndexD K x xs H2 Q) ∨ ((∃ a vs, x = .ref a ∧ Tp H1 a vs) ∧ t σ H1 fun xs H2 => rIndexT K x xs H2 Q)
theorem pe_indexA {o e : Expr} {to : TE} {t : TA} {apos cpos : Pos} (hu : X.A.units + 65 < cLine) (ho : PE X o to) (ha : PA X [e] t)
    (hbase : attributeBase o "index" X.env (eval o X.env) = eval o X.env)
    (hfew : ((backTo cpos (starEach [e] X.env)).all (fun x => !x.1) && (backToKw cpos (keywordEach [] X.env)).all (fun x => x.1.isSome)
      && decide (([e] : List Expr).length + ([] : List Keyword).length + (if ([] : List Keyword).isEmpty then 0 else 1) < 30)) = true)
    (hline : (apos.endLine == cpos.line) = true) (hs : starEach [e] X.env = (false, eval e X.env) :: starEach [] X.env) :
    PE X (.Call (.Attribute o "index" apos) [e] [] cpos) (tIndexA X.K to t) := by
  refine ⟨fun pins s σ H Q I h => wpAny_Call_method_late hbase hfew hline rfl (thn (ho.run pins s σ H _ I h) fun v s1 w => ?_)⟩
  obtain ⟨x, H1, J, r1, q1⟩ := w
  have fin : ∀ {id : String} {r : V → List V → Hp → VK → Prop}, MtR X id r → (t σ H1 fun xs H2 => r x xs H2 Q) → wpAny (model X.prog X.w) X.A (callWith cpos (.builtin id) [v] (backTo cpos (starEach [e] X.env)) (backToKw cpos (keywordEach [] X.env))) (EP X pins σ Q) X.xe s1 := fun {id r} hm q2 => by
    have hA := ha.run cpos pins s1 σ H1 _ J q2
    rw [hs] at hA ⊢
    refine Calls.callWith_builtin rfl (Calls.evalArgs_plain ?_)
    exact thn hA fun us s2 w2 => by
      obtain ⟨ws, H2, J2, r2, q3⟩ := w2
      exact hm pins s2 σ H2 x ws v us Q J2 r1 r2 q3
  rcases q1 with ⟨ty, q2⟩ | ⟨⟨a, vs, ex, g⟩, q2⟩
  · obtain ⟨h1, h2⟩ := tyV_is J r1 ty
    exact ⟨"list", "list.index", F.plainAttrs_list, F.slot_list_index, F.type_list_index, h1, h2, fin (mt_indexD hu) q2⟩
  · subst ex
    cases r1
    obtain ⟨ob, hd, g⟩ := g
    obtain ⟨e1, _, its, _, o', h1, h2, _⟩ := J.hok a _ g
    refine ⟨"tuple", "tuple.index", F.plainAttrs_tuple, F.slot_tuple_index, F.type_tuple_index, ⟨o', h1, h2⟩, fun b eb => ?_, fin (mt_indexT hu) q2⟩
    cases eb
    exact ⟨ob, e1, hd⟩
end
end L2

/-! W1: plain data, a small code, and what running it gives (no machine in sight). -/
namespace Wb
open PySem

inductive D where
  | non | bl (b : Bool) | int (i : Int) | str (x : Str) | tup (xs : List D) | fix (xs : List D) | ref (n : Nat)
inductive O where
  | lst (xs : List D)
  | dik (kvs : List (L2.Key × D))
  | dit (kvs : List (List L2.Key × D))

mutual
def D.beq : D → D → Bool
  | .non, .non => true
  | .bl a, .bl b => decide (a = b)
  | .int a, .int b => decide (a = b)
  | .str a, .str b => decide (a = b)
  | .tup a, .tup b => D.beqs a b
  | .fix a, .fix b => D.beqs a b
  | .ref a, .ref b => decide (a = b)
  | _, _ => false
def D.beqs : List D → List D → Bool
  | [], [] => true
  | a :: r, b :: t => D.beq a b && D.beqs r t
  | _, _ => false
end
mutual
theorem D.beq_eq : ∀ a b : D, D.beq a b = true → a = b
  | .non, b, h => by cases b <;> simp_all [D.beq]
  | .bl _, b, h => by cases b <;> simp_all [D.beq]
  | .int _, b, h => by cases b <;> simp_all [D.beq]
  | .str _, b, h => by cases b <;> simp_all [D.beq]
  | .ref _, b, h => by cases b <;> simp_all [D.beq]
  | .tup xs, b, h => by
    cases b with
    | tup ys => rw [D.beqs_eq xs ys (by simpa [D.beq] using h)]
    | _ => simp [D.beq] at h
  | .fix xs, b, h => by
    cases b with
    | fix ys => rw [D.beqs_eq xs ys (by simpa [D.beq] using h)]
    | _ => simp [D.beq] at h
theorem D.beqs_eq : ∀ a b : List D, D.beqs a b = true → a = b
  | [], b, h => by cases b <;> simp_all [D.beqs]
  | x :: r, b, h => by
    cases b with
    | nil => simp [D.beqs] at h
    | cons y t =>
      have h' : D.beq x y = true ∧ D.beqs r t = true := by simpa [D.beqs] using h
      rw [D.beq_eq x y h'.1, D.beqs_eq r t h'.2]
end
mutual
theorem D.beq_self : ∀ a : D, D.beq a a = true
  | .non => rfl
  | .bl _ => by simp [D.beq]
  | .int _ => by simp [D.beq]
  | .str _ => by simp [D.beq]
  | .ref _ => by simp [D.beq]
  | .tup xs => by simp [D.beq, D.beqs_self xs]
  | .fix xs => by simp [D.beq, D.beqs_self xs]
theorem D.beqs_self : ∀ a : List D, D.beqs a a = true
  | [] => rfl
  | x :: r => by simp [D.beqs, D.beq_self x, D.beqs_self r]
end
instance : DecidableEq D := fun a b => if h : D.beq a b = true then isTrue (D.beq_eq a b h) else isFalse fun e => h (e ▸ D.beq_self a)
instance : DecidableEq O := fun a b => match a, b with
  | .lst x, .lst y => if h : x = y then isTrue (h ▸ rfl) else isFalse fun e => h (O.lst.inj e)
  | .dik x, .dik y => if h : x = y then isTrue (h ▸ rfl) else isFalse fun e => h (O.dik.inj e)
  | .dit x, .dit y => if h : x = y then isTrue (h ▸ rfl) else isFalse fun e => h (O.dit.inj e)
  | .lst _, .dik _ => isFalse nofun
  | .lst _, .dit _ => isFalse nofun
  | .dik _, .lst _ => isFalse nofun
  | .dik _, .dit _ => isFalse nofun
  | .dit _, .lst _ => isFalse nofun
  | .dit _, .dik _ => isFalse nofun

mutual
def D.under (m : Nat) : D → Bool
  | .tup xs => D.unders m xs
  | .fix xs => D.unders m xs
  | .ref n => decide (n < m)
  | _ => true
def D.unders (m : Nat) : List D → Bool
  | [] => true
  | x :: r => D.under m x && D.unders m r
end
def O.under (m : Nat) : O → Bool
  | .lst xs => D.unders m xs
  | .dik kvs => kvs.all fun p => p.2.under m
  | .dit kvs => kvs.all fun p => p.2.under m

abbrev Store := List O
abbrev Env := List (Option D)
inductive Res (α : Type) where
  | ok (a : α) (S : Store)
  | exc (x : D) (S : Store)
  | bad
@[inline] def Res.bind {α β : Type} (r : Res α) (f : α → Store → Res β) : Res β := match r with
  | .ok a S => f a S
  | .exc x S => .exc x S
  | .bad => .bad
@[simp] theorem Res.bind_ok {α β : Type} (a : α) (S : Store) (f : α → Store → Res β) : (Res.ok a S).bind f = f a S := rfl
@[simp] theorem Res.bind_exc {α β : Type} (x : D) (S : Store) (f : α → Store → Res β) : (Res.exc x S : Res α).bind f = .exc x S := rfl
@[simp] theorem Res.bind_bad {α β : Type} (f : α → Store → Res β) : (Res.bad : Res α).bind f = .bad := rfl
def Res.opt {α : Type} (S : Store) : Option α → Res α
  | some a => .ok a S
  | none => .bad
@[simp] theorem Res.opt_some {α : Type} (S : Store) (a : α) : Res.opt S (some a) = .ok a S := rfl
@[simp] theorem Res.opt_none {α : Type} (S : Store) : (Res.opt S (none : Option α)) = .bad := rfl
/-- what a statement comes to -/
inductive Out where
  | nx (r : Env) | rt (d : D) | bk (r : Env) | ct (r : Env)

/-! ### the code -/
inductive Op where
  | add | sub | mul | fdiv | mod | pow | shl | shr | band
  deriving DecidableEq
inductive Cp where
  | eq | ne | lt | le | gt | ge | is | isnt | isin | notin
  deriving DecidableEq
/-- calls of built-ins on values -/
inductive B where
  | len | repr | int | str | abs | min2 | max2 | isInt | isBool | isStr | isTup | isList
  deriving DecidableEq
/-- calls of built-ins on lists -/
inductive C where
  | tup | all | any | len | sum | min | max | lenSet
  deriving DecidableEq
inductive M where
  | append | pop | index | count | insert | popAt | clear | reverse
  deriving DecidableEq
mutual
inductive E where
  | var (i : Nat)
  | lit (d : D)
  | tup (es : List E)
  | op (o : Op) (a b : E)
  | cp (o : Cp) (a b : E)
  | cpL (neg : Bool) (a b : Ls)
  | chain (o p : Cp) (a b c : E)
  | neg (a : E)
  | not (a : E)
  | and (a b : E)
  | or (a b : E)
  | ite (c a b : E)
  | ix (a i : E)
  | sl (a : E) (lo hi : Option E)
  | call (f : Nat) (es : List E)
  | blt (b : B) (es : List E)
  | con (c : C) (l : Ls)
  | tupRng (a b : E)
  | newL (l : Ls)
  | newP (l : Ls)
  | newD
  | newT
  | dic (kvs : List (Str × E))
  | meth (m : M) (o : E) (es : List E)
  | ext (o : E) (l : Ls)
  | isi (b : B) (e : E)
  | index (o a : E)
  | get2 (o k d : E)
  | setd (o k d : E)
  | join (o : E) (l : Ls)
  | rev (a : E)
  | nilq (neg : Bool) (a : E)
inductive Ls where
  | of (e : E)
  | ofl (e : E)
  | disp (es : List E)
  | comp (own : List Nat) (t : T) (it : It) (c : Option E) (e : E)
  | list (l : Ls)
  | rng (a b : E)
  | sorted (l : Ls)
  | sortedSet (l : Ls)
  | cat (a b : Ls)
  | rep (a : Ls) (n : E)
  | sl (a : E) (lo hi : Option E)
inductive T where
  | name (i : Nat)
  | tup (ts : List T)
  | sub (o i : E)
inductive It where
  | of (e : E)
  | ofL (l : Ls)
  | rng (a b : E)
  | enum (e : E)
  | zip (a b : E)
end
/-- 0: a list or a tuple; 1: a list of the store; 2: a new list -/
def Ls.kd : Ls → Nat
  | .of _ => 0
  | .sl _ _ _ => 0
  | .ofl _ => 1
  | _ => 2
/-- what was read as a list ahead still stands -/
def heldL (l : Ls) (s1 s2 : Store) : Bool := decide (l.kd = 2) || decide (s2 = s1)
mutual
def T.ids : T → List Nat
  | .name i => [i]
  | .tup ts => T.idss ts
  | .sub _ _ => []
def T.idss : List T → List Nat
  | [] => []
  | t :: ts => T.ids t ++ T.idss ts
end
inductive S where
  | asg (t : T) (e : E)
  | ex (e : E)
  | ret (e : E)
  | retN
  | ite (c : E) (a b : List S)
  | for_ (t : T) (it : It) (b : List S)
  | whl (c : E) (b : List S)
  | par (i j : Nat) (a b : E)
  | par3 (i j l : Nat) (a b c : E)
  | pass
  | brk
  | cnt
  | no
structure Fn where
  np : Nat
  nn : Nat
  body : List S

/-! ### operations on plain data -/
def D.key : D → Option L2.Key
  | .int i => some (.inl i)
  | .str x => some (.inr x)
  | _ => none
def D.keys : List D → Option (List L2.Key)
  | [] => some []
  | d :: ds => match d.key, D.keys ds with
    | some k, some r => some (k :: r)
    | _, _ => none
/-- a pair of a tuple of numbers and texts, and a value -/
def pairK : D → Option (List L2.Key × D)
  | .tup [.tup ks, v] => (D.keys ks).map fun q => (q, v)
  | _ => none
def keyD : L2.Key → D
  | .inl i => .int i
  | .inr x => .str x
section
variable {κ : Type} [DecidableEq κ] {α : Type}
def getK (kvs : List (κ × α)) (k : κ) : Option α := (kvs.find? fun kv => decide (kv.1 = k)).map (·.2)
def setK (kvs : List (κ × α)) (k : κ) (v : α) : List (κ × α) :=
  if kvs.any fun kv => decide (kv.1 = k) then kvs.map fun kv => if kv.1 = k then (kv.1, v) else kv else kvs ++ [(k, v)]
end
def mapO {α β : Type} (f : α → Option β) : List α → Option (List β)
  | [] => some []
  | x :: r => match f x, mapO f r with
    | some a, some b => some (a :: b)
    | _, _ => none
/-- as plain data, objects read; less than n deep -/
def toPy (S : Store) : Nat → D → Option PyData
  | 0, _ => none
  | n + 1, d => match d with
    | .non => some .none
    | .bl b => some (.bool b)
    | .int i => some (.int i)
    | .str x => some (.str x)
    | .tup xs => (mapO (toPy S n) xs).map .tuple
    | .fix xs => (mapO (toPy S n) xs).map .list
    | .ref k => match S[k]? with
      | some (.lst xs) => (mapO (toPy S n) xs).map .list
      | _ => none
/-- the plain data, if it can be compared -/
def pyOk (S : Store) (d : D) : Option PyData := match toPy S 60 d with
  | some a => if SeqAt.shaped a then some a else none
  | none => none
def eqD (S : Store) : D → D → Option Bool
  | .int i, .int j => some (decide (i = j))
  | .str x, .str y => some (decide (x = y))
  | .bl a, .bl b => some (decide (a = b))
  | d, e => match pyOk S d, pyOk S e with
    | some a, some b => some (PyData.eqv a b)
    | _, _ => none
def pyOks (S : Store) (xs : List D) : Option (List PyData) := match mapO (toPy S 59) xs with
  | some a => if SeqAt.shaped (.list a) then some a else none
  | none => none
def eqL (S : Store) (a b : List D) : Option Bool := match pyOks S a, pyOks S b with
  | some a, some b => some (PyData.eqv (.list a) (.list b))
  | _, _ => none
def inD (S : Store) (d : D) (xs : List D) : Option Bool := match pyOk S d, pyOks S xs with
  | some a, some b => some (b.any fun z => PyData.eqv z a)
  | _, _ => none
def asInt : D → Option Int
  | .int i => some i
  | _ => none
def asBool : D → Option Bool
  | .bl b => some b
  | _ => none
def asPair : D → Option (Int × Int)
  | .tup [.int i, .int j] => some (i, j)
  | _ => none
def asInts (xs : List D) : Option (List Int) := mapO asInt xs
def asBools (xs : List D) : Option (List Bool) := mapO asBool xs
def asPairs (xs : List D) : Option (List (Int × Int)) := mapO asPair xs
def ofPair (p : Int × Int) : D := .tup [.int p.1, .int p.2]
def ltD : D → D → Option Bool
  | .int i, .int j => some (decide (i < j))
  | .tup xs, .tup ys => match asInts xs, asInts ys with
    | some a, some b => some (HT.lexLt a b)
    | _, _ => none
  | _, _ => none
def lt2 (p q : Int × Int) : Bool := if p.1 = q.1 then decide (p.2 < q.2) else decide (p.1 < q.1)
def ins {α : Type} (le : α → α → Bool) (x : α) : List α → List α
  | [] => [x]
  | y :: r => if le x y then x :: y :: r else y :: ins le x r
def srt {α : Type} (le : α → α → Bool) : List α → List α
  | [] => []
  | x :: r => ins le x (srt le r)
abbrev srtI : List Int → List Int := srt fun a b => decide (a ≤ b)
abbrev srtP : List (Int × Int) → List (Int × Int) := srt fun a b => !lt2 b a
def dedup {α : Type} [DecidableEq α] : List α → List α
  | [] => []
  | x :: r => if x ∈ r then dedup r else x :: dedup r
def sortD (xs : List D) : Option (List D) := match asInts xs with
  | some ns => some ((srtI ns).map .int)
  | none => match asPairs xs with
    | some ps => some ((srtP ps).map ofPair)
    | none => none
def sortSetD (xs : List D) : Option (List D) := match asPairs xs with
  | some ps => if decide (ps.length < 64) && ps.all (fun p => decide (0 ≤ p.1) && decide (p.1 < 1000000) && decide (0 ≤ p.2) && decide (p.2 < 1000000)) then some ((srtP (dedup ps)).map ofPair) else none
  | none => match asInts xs with
    | some ns => if ns.length < 64 then some ((srtI (dedup ns)).map .int) else none
    | none => none
/-- at most so many things -/
abbrev top : Nat := 1000000
def small (n : Nat) : Bool := decide (n ≤ top)
def rngL (a b : Int) : List D := (List.range (b - a).toNat).map fun i => .int (a + (i : Nat))
def rngOk (a b : Int) : Bool := decide (-1000000 ≤ a) && decide (a ≤ 1000000) && decide (-1000000 ≤ b) && decide (b ≤ 1000000)
abbrev atD {α : Type} (xs : List α) (i : Int) : Option α := L2.atI xs i
def cut {α : Type} (xs : List α) (lo hi : Option Int) : List α := (xs.drop (HT.sIx xs.length 0 lo)).take (HT.sIx xs.length xs.length hi - HT.sIx xs.length 0 lo)
def listAt (S : Store) : D → Option (List D)
  | .fix xs => some xs
  | .ref n => match S[n]? with
    | some (.lst xs) => some xs
    | _ => none
  | _ => none
def lstAt (S : Store) : D → Option (List D)
  | .ref n => match S[n]? with
    | some (.lst xs) => some xs
    | _ => none
  | _ => none
def enumL (k : Int) : List D → List D
  | [] => []
  | x :: r => .tup [.int k, x] :: enumL (k + 1) r
def zipL : List D → List D → List D
  | x :: r, y :: t => .tup [x, y] :: zipL r t
  | _, _ => []
/-- a list or a tuple -/
def seqAt (S : Store) : D → Option (List D)
  | .tup xs => some xs
  | .fix xs => some xs
  | .ref n => match S[n]? with
    | some (.lst xs) => some xs
    | _ => none
  | _ => none
def okMul (i j : Int) : Bool := (decide (-(2 ^ 64) < i) && decide (i < 2 ^ 64)) || (decide (-(2 ^ 64) < j) && decide (j < 2 ^ 64))
def opD (S : Store) : Op → D → D → Option (D × Store)
  | .add, .int i, .int j => some (.int (i + j), S)
  | .add, .tup xs, .tup ys => if small (xs.length + ys.length) then some (.tup (xs ++ ys), S) else none
  | .add, .ref n, .ref m => match S[n]?, S[m]? with
    | some (.lst xs), some (.lst ys) => if small (xs.length + ys.length) then some (.ref S.length, S ++ [.lst (xs ++ ys)]) else none
    | _, _ => none
  | .add, .str x, .str y => if small (x.length + y.length) then some (.str (x ++ y), S) else none
  | .sub, .int i, .int j => some (.int (i - j), S)
  | .mul, .int i, .int j => if okMul i j then some (.int (i * j), S) else none
  | .mul, .tup xs, .int k => if decide (0 ≤ k) && decide (k ≤ 1000) && decide (xs.length ≤ 1000) then some (.tup (List.replicate k.toNat xs).flatten, S) else none
  | .fdiv, .int i, .int j => if decide (0 < j) && decide (j < 1073741824) then some (.int (i / j), S) else none
  | .mod, .int i, .int j => if decide (0 < j) then some (.int (i % j), S) else none
  | .pow, .int i, .int j => if decide (0 ≤ j) && decide (j ≤ 1000000) && decide (i.natAbs < 2 ^ 64) then some (.int (i ^ j.toNat), S) else none
  | .shl, .int i, .int j => if decide (0 ≤ j) && decide (j ≤ 1000000) && decide (i.natAbs < 2 ^ 64) then some (.int (i * 2 ^ j.toNat), S) else none
  | .shr, .int i, .int j => if decide (0 ≤ j) then some (.int (i / 2 ^ j.toNat), S) else none
  | .band, .int i, .int j => some (.int (Builtin.bitAnd i j), S)
  | _, _, _ => none
def noB (b : Bool) : D := .bl (!b)
def cpD (S : Store) : Cp → D → D → Option D
  | .eq, d, e => (eqD S d e).map .bl
  | .ne, d, e => (eqD S d e).map noB
  | .lt, d, e => (ltD d e).map .bl
  | .gt, .int i, .int j => some (.bl (decide (j < i)))
  | .le, .int i, .int j => some (.bl (decide (i ≤ j)))
  | .ge, .int i, .int j => some (.bl (decide (j ≤ i)))
  | .is, d, .non => some (.bl (decide (d = .non)))
  | .isnt, d, .non => some (.bl (!decide (d = .non)))
  | .is, .bl a, .bl b => some (.bl (decide (a = b)))
  | .isnt, .bl a, .bl b => some (.bl (!decide (a = b)))
  | .isin, .str x, .str y => some (.bl (!(Builtin.Str.occurrences y x 0 y.length 1).isEmpty))
  | .notin, .str x, .str y => some (.bl (!!(Builtin.Str.occurrences y x 0 y.length 1).isEmpty))
  | .isin, d, .tup xs => (inD S d xs).map .bl
  | .notin, d, .tup xs => (inD S d xs).map noB
  | .isin, d, .ref n => match S[n]? with
    | some (.lst xs) => (inD S d xs).map .bl
    | some (.dik kvs) => d.key.map fun k => .bl (getK kvs k).isSome
    | some (.dit kvs) => match d with
      | .tup ds => (D.keys ds).map fun k => .bl (getK kvs k).isSome
      | _ => none
    | _ => none
  | .notin, d, .ref n => match S[n]? with
    | some (.lst xs) => (inD S d xs).map noB
    | some (.dik kvs) => d.key.map fun k => noB (getK kvs k).isSome
    | some (.dit kvs) => match d with
      | .tup ds => (D.keys ds).map fun k => noB (getK kvs k).isSome
      | _ => none
    | _ => none
  | _, _, _ => none
def ixD (S : Store) : D → D → Option D
  | .tup xs, .int i => atD xs i
  | .fix xs, .int i => atD xs i
  | .str x, .int i => if small x.length then (atD x.cps.toList i).map fun c => .str ⟨#[c]⟩ else none
  | .ref n, k => match S[n]? with
    | some (.lst xs) => match k with
      | .int i => atD xs i
      | _ => none
    | some (.dik kvs) => match k.key with
      | some q => getK kvs q
      | none => none
    | some (.dit kvs) => match k with
      | .tup ds => match D.keys ds with
        | some q => getK kvs q
        | none => none
      | _ => none
    | none => none
  | _, _ => none
def slD (lo hi : Option Int) : D → Option D
  | .tup xs => some (.tup (cut xs lo hi))
  | .str x => if small x.length then some (.str (L2.cutS x lo hi)) else none
  | _ => none
def setD (S : Store) : D → D → D → Option Store
  | .ref n, k, v => match S[n]? with
    | some (.lst xs) => match k with
      | .int i => if 0 ≤ i ∧ i < xs.length then some (S.set n (.lst (xs.set i.toNat v))) else none
      | _ => none
    | some (.dik kvs) => match k.key with
      | some q => if small kvs.length then some (S.set n (.dik (setK kvs q v))) else none
      | none => none
    | some (.dit kvs) => match k with
      | .tup ds => match D.keys ds with
        | some q => if small kvs.length then some (S.set n (.dit (setK kvs q v))) else none
        | none => none
      | _ => none
    | _ => none
  | _, _, _ => none
def truthD (S : Store) : D → Option Bool
  | .non => some false
  | .bl b => some b
  | .int i => some (i != 0)
  | .str x => if small x.length then some (x.length != 0) else none
  | .tup xs => some (!xs.isEmpty)
  | .fix xs => some (!xs.isEmpty)
  | .ref n => match S[n]? with
    | some (.lst xs) => some (!xs.isEmpty)
    | _ => none
def reprD (S : Store) (d : D) : Option D := match pyOk S d with
  | some p => if p.showable && small p.shown.length then some (.str p.shown) else none
  | none => none
def bltD (S : Store) : B → List D → Option D
  | .len, [.tup xs] => some (.int xs.length)
  | .len, [.fix xs] => some (.int xs.length)
  | .len, [.str x] => if small x.length then some (.int x.length) else none
  | .len, [.ref n] => match S[n]? with
    | some (.lst xs) => some (.int xs.length)
    | some (.dik kvs) => some (.int kvs.length)
    | _ => none
  | .repr, [d] => reprD S d
  | .int, [.int i] => some (.int i)
  | .int, [.bl b] => some (.int (if b then 1 else 0))
  | .str, [.int i] => if decide (i.natAbs.log2 < 1920) then some (.str (toString i)) else none
  | .abs, [.int i] => some (.int (if i < 0 then -i else i))
  | .min2, [.int i, .int j] => some (.int (if j < i then j else i))
  | .max2, [.int i, .int j] => some (.int (if j > i then j else i))
  | _, _ => none
def isiD (S : Store) : B → D → Option Bool
  | .isInt, .int _ => some true
  | .isInt, .bl _ => some true
  | .isInt, .ref n => match S[n]? with
    | some _ => some false
    | none => none
  | .isInt, _ => some false
  | .isBool, .bl _ => some true
  | .isBool, .ref n => match S[n]? with
    | some _ => some false
    | none => none
  | .isBool, _ => some false
  | .isStr, .str _ => some true
  | .isStr, .ref n => match S[n]? with
    | some _ => some false
    | none => none
  | .isStr, _ => some false
  | .isTup, .tup _ => some true
  | .isTup, .ref n => match S[n]? with
    | some _ => some false
    | none => none
  | .isTup, _ => some false
  | .isList, .fix _ => some true
  | .isList, .ref n => match S[n]? with
    | some (.lst _) => some true
    | some _ => some false
    | none => none
  | .isList, _ => some false
  | _, _ => none
def conD : C → List D → Option D
  | .tup, xs => some (.tup xs)
  | .all, xs => (asBools xs).map fun b => .bl (b.all id)
  | .any, xs => (asBools xs).map fun b => .bl (b.any id)
  | .len, xs => some (.int xs.length)
  | .sum, xs => (asInts xs).map fun b => .int b.sum
  | .min, xs => match asInts xs with
    | some (i :: r) => some (.int (r.foldl (fun a b => if b < a then b else a) i))
    | _ => none
  | .max, xs => match asInts xs with
    | some (i :: r) => some (.int (r.foldl (fun a b => if a < b then b else a) i))
    | _ => none
  | _, _ => none
def methD (S : Store) : M → D → List D → Option (D × Store)
  | .append, .ref n, [d] => match S[n]? with
    | some (.lst xs) => if small xs.length then some (.non, S.set n (.lst (xs ++ [d]))) else none
    | _ => none
  | .pop, .ref n, [] => match S[n]? with
    | some (.lst xs) => match xs.getLast? with
      | some d => some (d, S.set n (.lst xs.dropLast))
      | none => none
    | _ => none
  | .clear, .ref n, [] => match S[n]? with
    | some (.lst _) => some (.non, S.set n (.lst []))
    | _ => none
  | .reverse, .ref n, [] => match S[n]? with
    | some (.lst xs) => some (.non, S.set n (.lst xs.reverse))
    | _ => none
  | .popAt, .ref n, [.int i] => match S[n]? with
    | some (.lst xs) => if 0 ≤ i ∧ i < xs.length ∧ xs.length ≤ 1000000 then (xs[i.toNat]?).map fun d => (d, S.set n (.lst (xs.eraseIdx i.toNat))) else none
    | _ => none
  | _, _, _ => none

/-- a list of the store, or a tuple -/
def seqI (S : Store) : D → Option (List D)
  | .tup xs => some xs
  | d => lstAt S d
def indexD (S : Store) (x y : D) : Option D := match seqI S x, pyOk S y with
  | some xs, some a => match pyOks S xs with
    | some ps => (ps.findIdx? fun z => PyData.eqv z a).map fun i => .int (i : Nat)
    | none => none
  | _, _ => none
def dikAt (S : Store) : D → Option (List (L2.Key × D))
  | .ref n => match S[n]? with
    | some (.dik kvs) => some kvs
    | _ => none
  | _ => none
def get2D (S : Store) (x y z : D) : Option D := match dikAt S x with
  | some kvs => y.key.map fun q => (getK kvs q).getD z
  | none => none
def setdD (S : Store) : D → D → D → Option (D × Store)
  | .ref n, y, z => match S[n]? with
    | some (.dik kvs) => match y.key with
      | some q => if small kvs.length then match getK kvs q with
        | some v => some (v, S)
        | none => some (z, S.set n (.dik (setK kvs q z)))
        else none
      | none => none
    | _ => none
  | _, _, _ => none
def asStr : D → Option Str
  | .str x => some x
  | _ => none
def asStrs (xs : List D) : Option (List Str) := mapO asStr xs
def joinD (x : D) (ds : List D) : Option D := match x, asStrs ds with
  | .str a, some ys => if (ys.map (·.length)).sum + ys.length * a.length ≤ 1000000 then some (.str (Txt.join a ys)) else none
  | _, _ => none
/-! ### running -/
def wipe (r : Env) : List Nat → Env
  | [] => r
  | v :: vs => (wipe r vs).set v none
def still (S : Store) : Option (Nat × List D) → Bool
  | none => true
  | some (n, xs) => decide (S[n]? = some (.lst xs))
def forGo (body : D → Env → Store → Res Out) (g : Option (Nat × List D)) : List D → Env → Store → Res Out
  | [], r, s => if still s g then .ok (.nx r) s else .bad
  | d :: ds, r, s => if still s g then match body d r s with
    | .ok (.nx r') s' => forGo body g ds r' s'
    | .ok (.ct r') s' => forGo body g ds r' s'
    | .ok (.bk r') s' => .ok (.nx r') s'
    | .ok (.rt d) s' => .ok (.rt d) s'
    | .exc x s' => .exc x s'
    | .bad => .bad
  else .bad
/-- step tells the thing that is kept, if one is -/
def compGo (step : D → Store → Res (Option D)) (g : Option (Nat × List D)) : List D → List D → Store → Res (List D)
  | [], acc, s => if still s g then .ok acc s else .bad
  | d :: ds, acc, s => if still s g then match step d s with
    | .ok none s' => compGo step g ds acc s'
    | .ok (some v) s' => if small acc.length then compGo step g ds (acc ++ [v]) s' else .bad
    | _ => .bad
  else .bad
def whlGo (c : Env → Store → Res Bool) (body : Env → Store → Res Out) : Nat → Env → Store → Res Out
  | 0, _, _ => .bad
  | n + 1, r, s => (c r s).bind fun b s1 => if b then match body r s1 with
    | .ok (.nx r') s' => whlGo c body n r' s'
    | .ok (.ct r') s' => whlGo c body n r' s'
    | .ok (.bk r') s' => .ok (.nx r') s'
    | .ok (.rt d) s' => .ok (.rt d) s'
    | .exc x s' => .exc x s'
    | .bad => .bad
  else .ok (.nx r) s1
def alloc (o : O) (s : Store) : Res D := .ok (.ref s.length) (s ++ [o])
def look (r : Env) (i : Nat) : Option D := match r[i]? with
  | some (some d) => some d
  | _ => none
section
variable (cl : Nat → List D → Store → Res D)
mutual
def evE : E → Env → Store → Res D
  | .var i, r, s => Res.opt s (look r i)
  | .lit d, _, s => .ok d s
  | .tup es, r, s => (evEs es r s).bind fun ds s1 => if small ds.length then .ok (.tup ds) s1 else .bad
  | .op o a b, r, s => (evE a r s).bind fun x s1 => (evE b r s1).bind fun y s2 => match opD s2 o x y with
    | some (z, s3) => .ok z s3
    | none => .bad
  | .cp o a b, r, s => (evE a r s).bind fun x s1 => (evE b r s1).bind fun y s2 => Res.opt s2 (cpD s2 o x y)
  | .cpL neg a b, r, s => (evL a r s).bind fun x s1 => (evL b r s1).bind fun y s2 => if heldL a s1 s2 then Res.opt s2 ((eqL s2 x y).map fun k => .bl (if neg then !k else k)) else .bad
  | .chain o p a b c, r, s => (evE a r s).bind fun x s1 => (evE b r s1).bind fun y s2 => match cpD s2 o x y with
    | some (.bl true) => (evE c r s2).bind fun z s3 => Res.opt s3 (cpD s3 p y z)
    | some (.bl false) => .ok (.bl false) s2
    | _ => .bad
  | .neg a, r, s => (evE a r s).bind fun x s1 => match x with
    | .int i => .ok (.int (-i)) s1
    | _ => .bad
  | .not a, r, s => (evE a r s).bind fun x s1 => Res.opt s1 ((truthD s1 x).map noB)
  | .and a b, r, s => (evE a r s).bind fun x s1 => match x with
    | .bl true => evE b r s1
    | .bl false => .ok (.bl false) s1
    | _ => .bad
  | .or a b, r, s => (evE a r s).bind fun x s1 => match x with
    | .bl false => evE b r s1
    | .bl true => .ok (.bl true) s1
    | _ => .bad
  | .ite c a b, r, s => (evT c r s).bind fun k s1 => if k then evE a r s1 else evE b r s1
  | .ix a i, r, s => (evE a r s).bind fun x s1 => (evE i r s1).bind fun y s2 => Res.opt s2 (ixD s2 x y)
  | .sl a lo hi, r, s => (evE a r s).bind fun x s1 => (evO lo r s1).bind fun l s2 => (evO hi r s2).bind fun h s3 => match listAt s3 x with
    | some xs => alloc (.lst (cut xs l h)) s3
    | none => Res.opt s3 (slD l h x)
  | .call f es, r, s => (evEs es r s).bind fun ds s1 => cl f ds s1
  | .blt b es, r, s => (evEs es r s).bind fun ds s1 => Res.opt s1 (bltD s1 b ds)
  | .con c l, r, s => (evL l r s).bind fun ds s1 => Res.opt s1 (conD c ds)
  | .tupRng a b, r, s => (evE a r s).bind fun x s1 => (evE b r s1).bind fun y s2 => match x, y with
    | .int i, .int j => if rngOk i j then .ok (.tup (rngL i j)) s2 else .bad
    | _, _ => .bad
  | .newL l, r, s => (evL l r s).bind fun ds s1 => alloc (.lst ds) s1
  | .newP l, r, s => (evL l r s).bind fun ds s1 => match mapO pairK ds with
    | some ps => alloc (.dit (ps.foldl (fun a p => setK a p.1 p.2) [])) s1
    | none => .bad
  | .newD, _, s => alloc (.dik []) s
  | .newT, _, s => alloc (.dit []) s
  | .dic kvs, r, s => (evKs kvs r s).bind fun ps s1 => if ps.length ≤ 15 then alloc (.dik (ps.foldl (fun a p => setK a (.inr p.1) p.2) [])) s1 else .bad
  | .meth m o es, r, s => (evE o r s).bind fun x s1 => if (lstAt s1 x).isSome then (evEs es r s1).bind fun ds s2 => match methD s2 m x ds with
    | some (z, s3) => .ok z s3
    | none => .bad
  else .bad
  | .ext o l, r, s => (evE o r s).bind fun x s1 => if (lstAt s1 x).isSome then (evL l r s1).bind fun ds s2 => match x with
    | .ref n => match s2[n]? with
      | some (.lst xs) => if small (xs.length + ds.length) then .ok .non (s2.set n (.lst (xs ++ ds))) else .bad
      | _ => .bad
    | _ => .bad
  else .bad
  | .isi b e, r, s => (evE e r s).bind fun x s1 => Res.opt s1 ((isiD s1 b x).map .bl)
  | .index o a, r, s => (evE o r s).bind fun x s1 => if (seqI s1 x).isSome then (evE a r s1).bind fun y s2 => Res.opt s2 (indexD s2 x y) else .bad
  | .get2 o k d, r, s => (evE o r s).bind fun x s1 => if (dikAt s1 x).isSome then (evE k r s1).bind fun y s2 => (evE d r s2).bind fun z s3 => Res.opt s3 (get2D s3 x y z) else .bad
  | .setd o k d, r, s => (evE o r s).bind fun x s1 => if (dikAt s1 x).isSome then (evE k r s1).bind fun y s2 => (evE d r s2).bind fun z s3 => match setdD s3 x y z with
    | some (v, s4) => .ok v s4
    | none => .bad
  else .bad
  | .join o l, r, s => (evE o r s).bind fun x s1 => (evL l r s1).bind fun ds s2 => Res.opt s2 (joinD x ds)
  | .rev a, r, s => (evE a r s).bind fun x s1 => match listAt s1 x with
    | some xs => alloc (.lst xs.reverse) s1
    | none => match x with
      | .tup xs => .ok (.tup xs.reverse) s1
      | _ => .bad
  | .nilq neg a, r, s => (evE a r s).bind fun x s1 => match listAt s1 x with
    | some xs => Res.opt s1 ((eqL s1 xs []).map fun k => .bl (if neg then !k else k))
    | none => .bad
def evT : E → Env → Store → Res Bool
  | .not a, r, s => (evT a r s).bind fun x s1 => .ok (!x) s1
  | .and a b, r, s => (evT a r s).bind fun x s1 => if x then evT b r s1 else .ok false s1
  | .or a b, r, s => (evT a r s).bind fun x s1 => if x then .ok true s1 else evT b r s1
  | .var i, r, s => Res.opt s ((look r i).bind (truthD s))
  | .cp o a b, r, s => (evE a r s).bind fun x s1 => (evE b r s1).bind fun y s2 => Res.opt s2 ((cpD s2 o x y).bind asBool)
  | .cpL neg a b, r, s => (evL a r s).bind fun x s1 => (evL b r s1).bind fun y s2 => if heldL a s1 s2 then Res.opt s2 ((eqL s2 x y).map fun k => if neg then !k else k) else .bad
  | .chain o p a b c, r, s => (evE a r s).bind fun x s1 => (evE b r s1).bind fun y s2 => match cpD s2 o x y with
    | some (.bl true) => (evE c r s2).bind fun z s3 => Res.opt s3 ((cpD s3 p y z).bind asBool)
    | some (.bl false) => .ok false s2
    | _ => .bad
  | .ix a i, r, s => (evE a r s).bind fun x s1 => (evE i r s1).bind fun y s2 => Res.opt s2 ((ixD s2 x y).bind (truthD s2))
  | .call f es, r, s => (evEs es r s).bind fun ds s1 => (cl f ds s1).bind fun d s2 => Res.opt s2 (truthD s2 d)
  | .blt b es, r, s => (evEs es r s).bind fun ds s1 => Res.opt s1 ((bltD s1 b ds).bind (truthD s1))
  | .con c l, r, s => (evL l r s).bind fun ds s1 => Res.opt s1 ((conD c ds).bind (truthD s1))
  | .lit d, _, s => Res.opt s (truthD s d)
  | .isi b e, r, s => (evE e r s).bind fun x s1 => Res.opt s1 (isiD s1 b x)
  | _, _, _ => .bad
def evEs : List E → Env → Store → Res (List D)
  | [], _, s => .ok [] s
  | e :: es, r, s => (evE e r s).bind fun x s1 => (evEs es r s1).bind fun xs s2 => .ok (x :: xs) s2
def evKs : List (Str × E) → Env → Store → Res (List (Str × D))
  | [], _, s => .ok [] s
  | (k, e) :: es, r, s => (evE e r s).bind fun x s1 => (evKs es r s1).bind fun xs s2 => .ok ((k, x) :: xs) s2
def evO : Option E → Env → Store → Res (Option Int)
  | none, _, s => .ok none s
  | some e, r, s => (evE e r s).bind fun x s1 => match x with
    | .int i => .ok (some i) s1
    | _ => .bad
def evL : Ls → Env → Store → Res (List D)
  | .of e, r, s => (evE e r s).bind fun x s1 => Res.opt s1 (seqAt s1 x)
  | .ofl e, r, s => (evE e r s).bind fun x s1 => Res.opt s1 (lstAt s1 x)
  | .disp es, r, s => (evEs es r s).bind fun ds s1 => if small ds.length then .ok ds s1 else .bad
  | .comp own t it c e, r, s => (evIt it r s).bind fun p s1 => compGo (fun d s2 => (asT t d (wipe r own) s2).bind fun r3 s3 => (evC c r3 s3).bind fun k s4 => if k then (evE e r3 s4).bind fun v s5 => .ok (some v) s5 else .ok none s4) p.2 p.1 [] s1
  | .list l, r, s => evL l r s
  | .rng a b, r, s => (evE a r s).bind fun x s1 => (evE b r s1).bind fun y s2 => match x, y with
    | .int i, .int j => if rngOk i j then .ok (rngL i j) s2 else .bad
    | _, _ => .bad
  | .sorted l, r, s => (evL l r s).bind fun ds s1 => Res.opt s1 (sortD ds)
  | .sortedSet l, r, s => (evL l r s).bind fun ds s1 => Res.opt s1 (sortSetD ds)
  | .cat a b, r, s => (evL a r s).bind fun x s1 => (evL b r s1).bind fun y s2 => if heldL a s1 s2 && small (x.length + y.length) then .ok (x ++ y) s2 else .bad
  | .rep a n, r, s => (evL a r s).bind fun x s1 => (evE n r s1).bind fun y s2 => match y with
    | .int k => if heldL a s1 s2 && decide (x.length ≤ 1000) && decide (-1000 ≤ k) && decide (k ≤ 1000) then .ok (List.replicate k.toNat x).flatten s2 else .bad
    | _ => .bad
  | .sl a lo hi, r, s => (evE a r s).bind fun x s1 => (evO lo r s1).bind fun l s2 => (evO hi r s2).bind fun h s3 => Res.opt s3 ((seqAt s3 x).map fun xs => cut xs l h)
def evIt : It → Env → Store → Res (List D × Option (Nat × List D))
  | .of e, r, s => (evE e r s).bind fun x s1 => match x with
    | .tup xs => .ok (xs, none) s1
    | .fix xs => .ok (xs, none) s1
    | .str z => .ok (z.cps.toList.map fun c => .str ⟨#[c]⟩, none) s1
    | .ref n => match s1[n]? with
      | some (.lst xs) => .ok (xs, some (n, xs)) s1
      | _ => .bad
    | _ => .bad
  | .ofL l, r, s => (evL l r s).bind fun xs s1 => .ok (xs, none) s1
  | .rng a b, r, s => (evE a r s).bind fun x s1 => (evE b r s1).bind fun y s2 => match x, y with
    | .int i, .int j => if rngOk i j then .ok (rngL i j, none) s2 else .bad
    | _, _ => .bad
  | .enum e, r, s => (evE e r s).bind fun x s1 => match x with
    | .tup xs => .ok (enumL 0 xs, none) s1
    | .fix xs => .ok (enumL 0 xs, none) s1
    | .str z => .ok (enumL 0 (z.cps.toList.map fun c => .str ⟨#[c]⟩), none) s1
    | .ref n => match s1[n]? with
      | some (.lst xs) => .ok (enumL 0 xs, some (n, xs)) s1
      | _ => .bad
    | _ => .bad
  | .zip a b, r, s => (evE a r s).bind fun x s1 => (evE b r s1).bind fun y s2 => match x, y with
    | .tup xs, .tup ys => .ok (zipL xs ys, none) s2
    | _, _ => .bad
def evC : Option E → Env → Store → Res Bool
  | none, _, s => .ok true s
  | some e, r, s => evT e r s
def asT : T → D → Env → Store → Res Env
  | .name i, d, r, s => .ok (r.set i (some d)) s
  | .tup ts, d, r, s => match d with
    | .tup xs => if xs.length = ts.length then asTs ts xs r s else .bad
    | _ => .bad
  | .sub o i, d, r, s => (evE o r s).bind fun x s1 => (evE i r s1).bind fun y s2 => match setD s2 x y d with
    | some s3 => .ok r s3
    | none => .bad
def asTs : List T → List D → Env → Store → Res Env
  | [], _, r, s => .ok r s
  | t :: ts, ds, r, s => match ds with
    | d :: ds => (asT t d r s).bind fun r1 s1 => asTs ts ds r1 s1
    | [] => .bad
end
variable (F : Nat)
mutual
def evS : S → Env → Store → Res Out
  | .asg t e, r, s => (evE cl e r s).bind fun d s1 => (asT cl t d r s1).bind fun r2 s2 => .ok (.nx r2) s2
  | .ex e, r, s => (evE cl e r s).bind fun _ s1 => .ok (.nx r) s1
  | .ret e, r, s => (evE cl e r s).bind fun d s1 => .ok (.rt d) s1
  | .retN, _, s => .ok (.rt .non) s
  | .ite c a b, r, s => (evT cl c r s).bind fun k s1 => if k then evSs a r s1 else evSs b r s1
  | .for_ t it b, r, s => (evIt cl it r s).bind fun p s1 => forGo (fun d r2 s2 => (asT cl t d r2 s2).bind fun r3 s3 => evSs b r3 s3) p.2 p.1 r s1
  | .whl c b, r, s => whlGo (evT cl c) (evSs b) F r s
  | .par i j a b, r, s => (evE cl a r s).bind fun x s1 => (evE cl b r s1).bind fun y s2 => .ok (.nx ((r.set i (some x)).set j (some y))) s2
  | .par3 i j l a b c, r, s => (evE cl a r s).bind fun x s1 => (evE cl b r s1).bind fun y s2 => (evE cl c r s2).bind fun z s3 => .ok (.nx (((r.set i (some x)).set j (some y)).set l (some z))) s3
  | .pass, r, s => .ok (.nx r) s
  | .brk, r, s => .ok (.bk r) s
  | .cnt, r, s => .ok (.ct r) s
  | .no, _, _ => .bad
def evSs : List S → Env → Store → Res Out
  | [], r, s => .ok (.nx r) s
  | st :: sts, r, s => (evS st r s).bind fun o s1 => match o with
    | .nx r1 => evSs sts r1 s1
    | .rt d => .ok (.rt d) s1
    | .bk r1 => .ok (.bk r1) s1
    | .ct r1 => .ok (.ct r1) s1
end
end
/-- what was made on the way and is not handed out is forgotten -/
def okOld (s t : Store) : Bool := decide (t = s) || t.all fun o => o.under s.length
def gc (s : Store) (d : D) (s' : Store) : Res D :=
  if okOld s (s'.take s.length) then
    if d.under s.length then .ok d (s'.take s.length)
    else match d with
      | .ref n => match s'[n]? with
        | some o => if o.under s.length then .ok (.ref s.length) (s'.take s.length ++ [o]) else .ok d s'
        | none => .ok d s'
      | _ => .ok d s'
  else .ok d s'
def call (P : List Fn) (F : Nat) : Nat → Nat → List D → Store → Res D
  | 0, _, _, _ => .bad
  | k + 1, f, ds, s => match P[f]? with
    | none => .bad
    | some fn => if ds.length = fn.np then (evSs (call P F k) F fn.body (ds.map some ++ List.replicate (fn.nn - fn.np) none) s).bind fun o s1 => match o with
      | .rt d => gc s d s1
      | .nx _ => gc s .non s1
      | _ => .bad
    else .bad
end Wb

/-! W2: from the text's trees to the code. -/
namespace Wb
open PySem

/-- what the module holds: its defs' names by number, its plain constants -/
structure Gm where
  fns : List Str
  cons : List (Str × D)
  /-- built-ins that the module leaves alone -/
  blt : List Str
def ixOf (N : List Str) (x : Str) : Option Nat := N.findIdx? fun y => decide (y = x)
def visB (sc : Scope) (x : Str) : Bool := match sc.names.lookup x with
  | some .local => true
  | some .cell => true
  | some .free => true
  | _ => false
def locB (sc : Scope) (x : Str) : Bool := match sc.names.lookup x with
  | some .local => true
  | some .cell => true
  | _ => false
def isLoc (sc : Scope) (x : Str) : Bool := match sc.names.lookup x with
  | some .local => true
  | _ => false
def glB (sc : Scope) (x : Str) : Bool := match sc.names.lookup x with
  | some .globalImplicit => true
  | _ => false
def plainName (x : Str) : Bool := !(x == ("__debug__" : Str)) && !(x == ("__classdict__" : Str))
def opOf : Operator → Option Op
  | .Add => some .add
  | .Sub => some .sub
  | .Mult => some .mul
  | .FloorDiv => some .fdiv
  | .Mod => some .mod
  | .Pow => some .pow
  | .LShift => some .shl
  | .RShift => some .shr
  | .BitAnd => some .band
  | _ => none
def cpOf : CmpOp → Cp
  | .Eq => .eq
  | .NotEq => .ne
  | .Lt => .lt
  | .LtE => .le
  | .Gt => .gt
  | .GtE => .ge
  | .Is => .is
  | .IsNot => .isnt
  | .In => .isin
  | .NotIn => .notin
/-- a call of a built-in by its name -/
def bCall (sc : Scope) (x : Str) : Expr → Option (List Expr)
  | .Call (.Name f _) es [] _ => if f = x ∧ glB sc x = true then some es else none
  | _ => none
/-- trees that make a new list -/
def listy (sc : Scope) : Nat → Expr → Bool
  | 0, _ => false
  | n + 1, e => match e with
    | .ListComp .. => true
    | .List .. => true
    | .Call (.Name f _) _ [] _ => glB sc f && (f == ("list" : Str) || f == ("sorted" : Str))
    | .BinOp a .Add b _ => listy sc n a || listy sc n b
    | .BinOp a .Mult _ _ => listy sc n a
    | _ => false
def isSet : Expr → Bool
  | .Set .. => true
  | _ => false
def isSlice : Expr → Bool
  | .Slice .. => true
  | _ => false
def isCall : Expr → Bool
  | .Call (.Attribute ..) _ _ _ => false
  | .Call .. => true
  | _ => false
def isStar : Expr → Bool
  | .Starred .. => true
  | _ => false
/-- the block's own names with their places -/
def ownOf (N : List Str) (scope : Scope) : List (Str × Nat) := scope.names.filterMap fun p => match p.2 with
  | .local => (ixOf N p.1).map fun i => (p.1, i)
  | .cell => (ixOf N p.1).map fun i => (p.1, i)
  | _ => none
def c1 (id : Str) : Option C :=
  if id = ("tuple" : Str) then some .tup else if id = ("all" : Str) then some .all else if id = ("any" : Str) then some .any
  else if id = ("sum" : Str) then some .sum else if id = ("min" : Str) then some .min else if id = ("max" : Str) then some .max else none
def kindB (id : Str) : Option B :=
  if id = ("int" : Str) then some .isInt else if id = ("bool" : Str) then some .isBool else if id = ("str" : Str) then some .isStr
  else if id = ("tuple" : Str) then some .isTup else if id = ("list" : Str) then some .isList else none
def methOf (m : Str) (k : Nat) : Option M :=
  if m = ("append" : Str) ∧ k = 1 then some .append
  else if m = ("pop" : Str) ∧ k = 0 then some .pop else if m = ("pop" : Str) ∧ k = 1 then some .popAt
  else if m = ("clear" : Str) ∧ k = 0 then some .clear else if m = ("reverse" : Str) ∧ k = 0 then some .reverse else none
def strKey : Option Expr → Option Str
  | some (.Constant (.str x) _ _) => some x
  | _ => none
/-- what has been compiled of what is smaller -/
structure Rc where
  e : List Str → Scope → Expr → Option E
  o : List Str → Scope → Option Expr → Option (Option E)
  l : List Str → Scope → Expr → Option Ls
  ll : List Str → Scope → Expr → Option Ls
  i : List Str → Scope → List Expr → Option (Option E)
  it : List Str → Scope → Expr → Expr → Option It
  t : List Str → Scope → (Str → Bool) → Expr → Option T
def two {α β γ : Type} (f : α → β → γ) (a : Option α) (b : Option β) : Option γ := match a, b with
  | some x, some y => some (f x y)
  | _, _ => none
def three {α β γ δ : Type} (f : α → β → γ → δ) (a : Option α) (b : Option β) (c : Option γ) : Option δ := match a, b, c with
  | some x, some y, some z => some (f x y z)
  | _, _, _ => none
def ifO {α : Type} (b : Bool) (a : Option α) : Option α := if b = true then a else none
/-- of the kind k at least -/
def kdO (k : Nat) (a : Option Ls) : Option Ls := match a with
  | some l => if k ≤ l.kd then some l else none
  | none => none
section
variable (G : Gm) (r : Rc) (N : List Str) (sc : Scope)
def gB (f : Str) : Bool := glB sc f && G.blt.contains f
def eName (x : Str) : Option E := ifO (plainName x) (if visB sc x then (ixOf N x).map .var else ifO (glB sc x) ((G.cons.lookup x).map .lit))
def eConst : Const → Option E
  | .int i => some (.lit (.int i))
  | .bool b => some (.lit (.bl b))
  | .none => some (.lit .non)
  | .str x => some (.lit (.str x))
  | _ => none
def eBool : BoolOp → List Expr → Pos → Option E
  | _, [a], _ => r.e N sc a
  | .And, a :: b :: rest, p => two .and (r.e N sc a) (r.e N sc (.BoolOp .And (b :: rest) p))
  | .Or, a :: b :: rest, p => two .or (r.e N sc a) (r.e N sc (.BoolOp .Or (b :: rest) p))
  | _, _, _ => none
def isEqs (o : CmpOp) : Bool := decide (o = .Eq) || decide (o = .NotEq)
def isNil : Expr → Bool
  | .List [] _ => true
  | _ => false
def isScript : Expr → Bool
  | .Name f _ => f == ("_law_script" : Str)
  | _ => false
def eCmp1 (o : CmpOp) (a b : Expr) : Option E := ifO (!isSet b) (if isEqs o && isNil b && isScript a then (r.e N sc a).map (.nilq (decide (o = .NotEq))) else if (listy sc 9 a || listy sc 9 b) && isEqs o then two (.cpL (decide (o = .NotEq))) (kdO 1 (r.ll N sc a)) (kdO 1 (r.ll N sc b))
  else two (.cp (cpOf o)) (r.e N sc a) (r.e N sc b))
def rng2 : List Expr → Option (E × E)
  | [x] => (r.e N sc x).map fun y => (.lit (.int 0), y)
  | [x, y] => two Prod.mk (r.e N sc x) (r.e N sc y)
  | _ => none
def bRange (e : Expr) : Option (List Expr) := match e with
  | .Call (.Name f _) es [] _ => if f = ("range" : Str) ∧ gB G sc f = true ∧ es.any isStar = false then some es else none
  | _ => none
def isRange (e : Expr) : Bool := match e with
  | .Call (.Name f _) _ _ _ => f == ("range" : Str)
  | _ => false
def bOf1 (f : Str) : Option B :=
  if f = ("len" : Str) then some .len else if f = ("repr" : Str) then some .repr else if f = ("int" : Str) then some .int
  else if f = ("str" : Str) then some .str else if f = ("abs" : Str) then some .abs else none
def eCall1 (e : Expr) (f : Str) (a : Expr) : Option E := ifO (gB G sc f && !isStar a) (
  if f = ("list" : Str) ∨ f = ("sorted" : Str) then (kdO 2 (r.l N sc e)).map .newL
  else if f = ("dict" : Str) then (kdO 2 (r.l N sc a)).map .newP
  else if f = ("len" : Str) ∧ listy sc 9 a = true then (r.l N sc a).map (.con .len)
  else match c1 f with
    | some c => match bRange G sc a with
      | some es => ifO (decide (c = .tup)) ((rng2 r N sc es).map fun p => .tupRng p.1 p.2)
      | none => ifO (!isRange a) ((kdO (if c = .tup ∨ c = .max then 0 else 1) (r.l N sc a)).map (.con c))
    | none => match bOf1 f with
      | some bn => (r.e N sc a).map fun x => .blt bn [x]
      | none => none)
def b2 (f : Str) : Option B := if f = ("min" : Str) then some .min2 else if f = ("max" : Str) then some .max2 else none
def eCall2 (f : Str) (a b : Expr) : Option E := ifO (gB G sc f && !isStar a && !isStar b) (match b2 f with
  | some k => two (fun x y => .blt k [x, y]) (r.e N sc a) (r.e N sc b)
  | none => none)
def eCall (e : Expr) (f : Str) (args : List Expr) : Option E := ifO (glB sc f && !args.any isStar && !(f == ("__debug__" : Str))) (match ixOf G.fns f with
  | some k => (mapO (r.e N sc) args).map (.call k)
  | none => match args with
    | [a] => eCall1 G r N sc e f a
    | [a, b] => match b with
      | .Name t _ => if f = ("isinstance" : Str) then ifO (gB G sc f && gB G sc t) (match kindB t with
        | some k => (r.e N sc a).map (.isi k)
        | none => none)
        else eCall2 G r N sc f a b
      | _ => eCall2 G r N sc f a b
    | _ => none)
def eMeth1 (o : Expr) (m : Str) (a : Expr) : Option E := ifO (!isCall o && !isStar a) (if m = ("extend" : Str) then two .ext (r.e N sc o) (kdO 1 (r.ll N sc a))
  else if m = ("index" : Str) then two .index (r.e N sc o) (r.e N sc a)
  else if m = ("join" : Str) then (match r.e N sc o with
    | some (.lit (.str t)) => (r.l N sc a).map (.join (.lit (.str t)))
    | _ => none)
  else match methOf m 1 with
    | some k => two (fun x y => .meth k x [y]) (r.e N sc o) (r.e N sc a)
    | none => none)
def eMeth2 (o : Expr) (m : Str) (a b : Expr) : Option E := ifO (!isCall o && !isStar a && !isStar b) (if m = ("get" : Str) then three .get2 (r.e N sc o) (r.e N sc a) (r.e N sc b)
  else if m = ("setdefault" : Str) then three .setd (r.e N sc o) (r.e N sc a) (r.e N sc b)
  else none)
def eDict (k : List (Option Expr)) (vs : List Expr) : Option E := match k with
  | [] => match vs with
    | [] => some .newD
    | _ => none
  | k :: ks => match mapO strKey (k :: ks), mapO (r.e N sc) vs with
    | some xs, some ys => ifO (decide (xs.length = ys.length) && decide (xs.length ≤ 15)) (some (.dic (xs.zip ys)))
    | _, _ => none
def stepE0 (e : Expr) : Option E := match e with
  | .Name x _ => eName G N sc x
  | .Constant k _ _ => eConst k
  | .Tuple es _ _ => ifO (!es.any isStar) ((mapO (r.e N sc) es).map .tup)
  | .BinOp a o b _ => if listy sc 9 e = true then (kdO 2 (r.l N sc e)).map .newL else match opOf o with
    | some o => two (.op o) (r.e N sc a) (r.e N sc b)
    | none => none
  | .UnaryOp .Not a _ => (r.e N sc a).map .not
  | .UnaryOp .USub a _ => (r.e N sc a).map .neg
  | .BoolOp o es p => eBool r N sc o es p
  | .Compare a [o] [b] _ => eCmp1 r N sc o a b
  | .Compare a [o, p] [b, c] _ => ifO (!isSet b && !isSet c) (three (.chain (cpOf o) (cpOf p)) (r.e N sc a) (r.e N sc b) (r.e N sc c))
  | .IfExp c a b _ => three .ite (r.e N sc c) (r.e N sc a) (r.e N sc b)
  | .Subscript a (.Slice lo hi none _) _ => three .sl (r.e N sc a) (r.o N sc lo) (r.o N sc hi)
  | .Subscript a (.Slice none none (some (.UnaryOp .USub (.Constant (.int 1) _ _) _)) _) _ => (r.e N sc a).map .rev
  | .Subscript a i _ => ifO (!isSlice i) (two .ix (r.e N sc a) (r.e N sc i))
  | .ListComp .. => (kdO 2 (r.l N sc e)).map .newL
  | .List .. => (kdO 2 (r.l N sc e)).map .newL
  | .Dict ks vs _ => eDict r N sc ks vs
  | .Call (.Name f _) args [] _ => eCall G r N sc e f args
  | .Call (.Attribute o m ap) [a] [] cp => ifO (ap.endLine == cp.line) (eMeth1 r N sc o m a)
  | .Call (.Attribute o m ap) [] [] cp => ifO ((ap.endLine == cp.line) && !isCall o) (match methOf m 0 with
    | some k => (r.e N sc o).map fun x => .meth k x []
    | none => none)
  | .Call (.Attribute o m ap) [a, b] [] cp => ifO (ap.endLine == cp.line) (eMeth2 r N sc o m a b)
  | _ => none
/-- trees whose truth is their value's -/
def genE : Expr → Bool
  | .UnaryOp .Not _ _ => false
  | .BoolOp .. => false
  | .IfExp .. => false
  | .Compare .. => false
  | _ => true
def plainC : E → Bool
  | .not _ => false
  | .and _ _ => false
  | .or _ _ => false
  | .cp _ _ _ => false
  | .cpL _ _ _ => false
  | .chain _ _ _ _ _ => false
  | _ => true
def stepE (e : Expr) : Option E := match stepE0 G r N sc e with
  | some c => if genE e && !plainC c then none else some c
  | none => none
def stepO (e : Option Expr) : Option (Option E) := match e with
  | none => some none
  | some e => (r.e N sc e).map some
def lComp (elt tg iter : Expr) (ifs : List Expr) (scope : Scope) : Option Ls := ifO (L2.blkC N sc scope (ownOf N scope) && !isSet iter)
  (match r.t N (L2.relS scope sc) (fun x => scope.names.lookup x == some .cell) tg, r.it N sc tg iter, r.i N (L2.relS scope sc) ifs, r.e N (L2.relS scope sc) elt with
    | some t, some i, some c, some x => ifO (t.ids.all fun j => ((ownOf N scope).map (·.2)).contains j) (some (.comp ((ownOf N scope).map (·.2)) t i c x))
    | _, _, _, _ => none)
def bSet (e : Expr) : Option Expr := match e with
  | .Call (.Name f _) [x] [] _ => if f = ("set" : Str) ∧ gB G sc f = true ∧ isStar x = false then some x else none
  | _ => none
def lCall (e : Expr) (f : Str) (a : Expr) : Option Ls :=
  if f = ("list" : Str) then ifO (gB G sc f && !isStar a) (match bRange G sc a with
    | some es => (rng2 r N sc es).map fun p => .rng p.1 p.2
    | none => ifO (!isRange a) ((r.l N sc a).map .list))
  else if f = ("sorted" : Str) then ifO (gB G sc f && !isStar a) (match bSet G sc a with
    | some x => (kdO 1 (r.ll N sc x)).map .sortedSet
    | none => (kdO 1 (r.ll N sc a)).map .sorted)
  else (r.e N sc e).map .of
/-- a new list, or what is read as one -/
def stepL (e : Expr) : Option Ls := match e with
  | .ListComp elt [⟨tg, iter, ifs, 0⟩] scope _ => lComp r N sc elt tg iter ifs scope
  | .List es _ => ifO (!es.any isStar) ((mapO (r.e N sc) es).map .disp)
  | .BinOp a .Add b _ => if listy sc 9 e = true then two .cat (kdO 1 (r.ll N sc a)) (kdO 1 (r.ll N sc b)) else (r.e N sc e).map .of
  | .BinOp a .Mult b _ => if listy sc 9 e = true then two .rep (kdO 1 (r.ll N sc a)) (r.e N sc b) else (r.e N sc e).map .of
  | .Call (.Name f _) [a] [] _ => lCall G r N sc e f a
  | .Subscript a (.Slice lo hi none _) _ => three .sl (r.e N sc a) (r.o N sc lo) (r.o N sc hi)
  | _ => (r.e N sc e).map .of
/-- a list, never a tuple -/
def addOf : Expr → Option (Expr × Expr)
  | .BinOp a .Add b _ => some (a, b)
  | _ => none
def stepLl (e : Expr) : Option Ls := if listy sc 9 e = true then r.l N sc e else match addOf e with
  | some (a, b) => two .cat (kdO 1 (r.ll N sc a)) (kdO 1 (r.ll N sc b))
  | none => (r.e N sc e).map .ofl
def stepIf (e : List Expr) : Option (Option E) := match e with
  | [] => some none
  | [c] => (r.e N sc c).map some
  | _ => none
def isTup : Expr → Bool
  | .Tuple .. => true
  | _ => false
def bZip (e : Expr) : Option (Expr × Expr) := match e with
  | .Call (.Name f _) [a, b] [] _ => if f = ("zip" : Str) ∧ gB G sc f = true ∧ isStar a = false ∧ isStar b = false then some (a, b) else none
  | _ => none
def isZip (e : Expr) : Bool := match e with
  | .Call (.Name f _) _ _ _ => f == ("zip" : Str)
  | _ => false
def bEnum (e : Expr) : Option Expr := match e with
  | .Call (.Name f _) [a] [] _ => if f = ("enumerate" : Str) ∧ gB G sc f = true ∧ isStar a = false then some a else none
  | _ => none
def isEnum (e : Expr) : Bool := match e with
  | .Call (.Name f _) _ _ _ => f == ("enumerate" : Str)
  | _ => false
def stepIt (tg e : Expr) : Option It := ifO (!isSet e) (match bRange G sc e with
  | some es => (rng2 r N sc es).map fun p => .rng p.1 p.2
  | none => if isZip e then (match bZip G sc e with
      | some p => ifO (isTup tg) (two .zip (r.e N sc p.1) (r.e N sc p.2))
      | none => none)
    else if isEnum e then (match bEnum G sc e with
      | some a => ifO (isTup tg) ((r.e N sc a).map .enum)
      | none => none)
    else ifO (!isRange e) (if listy sc 9 e = true then (kdO 2 (r.l N sc e)).map .ofL else (r.e N sc e).map .of))
def stepT (fb : Str → Bool) (e : Expr) : Option T := match e with
  | .Name x _ => ifO (isLoc sc x || (locB sc x && fb x)) ((ixOf N x).map .name)
  | .Tuple es _ _ => ifO (!es.any isStar) ((mapO (r.t N sc fb) es).map .tup)
  | .Subscript o i _ => ifO (!isSlice i) (two .sub (r.e N sc o) (r.e N sc i))
  | _ => none
end
def rc (G : Gm) : Nat → Rc
  | 0 => ⟨fun _ _ _ => none, fun _ _ _ => none, fun _ _ _ => none, fun _ _ _ => none, fun _ _ _ => none, fun _ _ _ _ => none, fun _ _ _ _ => none⟩
  | n + 1 => ⟨stepE G (rc G n), stepO (rc G n), stepL G (rc G n), stepLl (rc G n), stepIf (rc G n), stepIt G (rc G n), stepT (rc G n)⟩
section
variable (G : Gm)
/-- a pair of plain local names, stored from a written pair -/
def parOf (N : List Str) (sc : Scope) : Expr → Expr → Option (Nat × Nat × Expr × Expr)
  | .Tuple [.Name x px, .Name y py] _ _, .Tuple [a, b] _ _ => if isLoc sc x && isLoc sc y && decide (x ≠ y) && decide (px.line = py.line) && !(foldedForSure 8 a && foldedForSure 8 b) && !(constantsAlone 8 a && constantsAlone 8 b) && !isStar a && !isStar b then
      match ixOf N x, ixOf N y with
      | some i, some j => some (i, j, a, b)
      | _, _ => none
    else none
  | _, _ => none
/-- three of them -/
def parOf3 (N : List Str) (sc : Scope) : Expr → Expr → Option ((Nat × Nat × Nat) × Expr × Expr × Expr)
  | .Tuple [.Name x px, .Name y py, .Name z pz] _ _, .Tuple [a, b, c] _ _ => if isLoc sc x && isLoc sc y && isLoc sc z && decide (x ≠ y) && decide (x ≠ z) && decide (y ≠ z) && decide (px.line = py.line) && decide (px.line = pz.line) && !(foldedForSure 8 a && foldedForSure 8 b && foldedForSure 8 c) && !(constantsAlone 8 a && constantsAlone 8 b && constantsAlone 8 c) && !isStar a && !isStar b && !isStar c then
      match ixOf N x, ixOf N y, ixOf N z with
      | some i, some j, some l => some ((i, j, l), a, b, c)
      | _, _, _ => none
    else none
  | _, _ => none
def isStr : Expr → Bool
  | .Constant (.str _) _ _ => true
  | _ => false
def isComp : Expr → Bool
  | .ListComp .. => true
  | .SetComp .. => true
  | .DictComp .. => true
  | _ => false
def isTgt : Expr → Bool
  | .Name .. => true
  | .Tuple .. => true
  | .Subscript .. => true
  | _ => false
/-- the tuple is made, then unpacked -/
def noSwap (sc : Scope) (t e : Expr) : Bool := match t, e with
  | .Tuple ts _ _, .Tuple _ _ _ => ts.any fun t => match t with
    | .Name x _ => !isLoc sc x
    | _ => true
  | _, _ => true
def sAsg (r : Rc) (N : List Str) (sc : Scope) (t e : Expr) : Option S := match t, e with
  | .Name y _, .ListComp elt [⟨tg, iter, ifs, 0⟩] scope _ => ifO (locB sc y) (two (fun i l => .asg (.name i) (.newL l)) (ixOf N y) (lComp r N sc elt tg iter ifs scope))
  | t, e => match parOf N sc t e with
    | some (i, j, a, b) => two (.par i j) (r.e N sc a) (r.e N sc b)
    | none => match parOf3 N sc t e with
      | some ((i, j, l), a, b, c) => three (.par3 i j l) (r.e N sc a) (r.e N sc b) (r.e N sc c)
      | none => ifO (isTgt t && noSwap sc t e && !isComp e) (two (fun x y => .asg y x) (r.e N sc e) (r.t N sc (fun _ => true) t))
mutual
def cS (r : Rc) (N : List Str) (sc : Scope) : Nat → Stmt → Option S
  | 0, _ => none
  | n + 1, st => match st with
    | .Assign [t] e _ => sAsg r N sc t e
    | .Expr (.Constant (.str _) _ _) _ => some .pass
    | .Expr (.Call f as ks p) _ => (r.e N sc (.Call f as ks p)).map .ex
    | .Return (some e) _ => (r.e N sc e).map .ret
    | .Return none _ => some .retN
    | .If c a b _ => three .ite (r.e N sc c) (cSs r N sc n a) (cSs r N sc n b)
    | .For t it b [] _ => ifO (!isSet it) (three .for_ (r.t N sc (fun _ => true) t) (r.it N sc t it) (cSs r N sc n b))
    | .While c b [] _ => two .whl (r.e N sc c) (cSs r N sc n b)
    | .Pass _ => some .pass
    | .Break _ => some .brk
    | .Continue _ => some .cnt
    | .Raise _ _ _ => some .no
    | _ => none
def cSs (r : Rc) (N : List Str) (sc : Scope) : Nat → List Stmt → Option (List S)
  | 0, _ => none
  | n + 1, sts => match sts with
    | [] => some []
    | st :: rest => two List.cons (cS r N sc n st) (cSs r N sc n rest)
end
end
end Wb

/-! W3: how plain data and the store lie in the layer's heap. -/
namespace Wb
open PySem L2

/-- a list that nobody writes -/
def FixL (K : PySem.W.Frag) (H : Hp) (a : Addr) (vs : List V) : Prop :=
  (∃ o, H a = some (.frz o (.lst vs))) ∨ ∃ (o : Obj) (its : Array Value) (n : Nat), K.lookup a = some o ∧ o.cls = .type "list" ∧ o.dict = none ∧ o.data = .seq its n ∧ its.size ≤ sizeLine ∧ Vals vs its.toList
theorem FixL.sq {K : PySem.W.Frag} {H : Hp} {a : Addr} {vs : List V} (h : FixL K H a vs) : SqL K H a vs := by
  rcases h with ⟨o, h⟩ | h
  · exact .inl (.inr ⟨o, h⟩)
  · exact .inr h
/-- the program and the world that the dicts keyed by tuples lean on -/
class PWd where
  P : Program
  w : World
variable [PWd]
section
variable (K : PySem.W.Frag) (φ : List Addr) (H : Hp)
mutual
def Rep : D → V → Prop
  | .non, v => v = .non
  | .bl b, v => v = .bl b
  | .int i, v => v = .int i
  | .str x, v => v = .str x
  | .tup ds, v => ∃ a vs, v = .ref a ∧ Tp H a vs ∧ Reps ds vs
  | .fix ds, v => ∃ a vs, v = .ref a ∧ FixL K H a vs ∧ Reps ds vs
  | .ref n, v => ∃ a, v = .ref a ∧ φ[n]? = some a
def Reps : List D → List V → Prop
  | [], vs => vs = []
  | d :: ds, vs => ∃ v r, vs = v :: r ∧ Rep d v ∧ Reps ds r
end
def KRep {κ : Type} (kvs : List (κ × D)) (ws : List (κ × V)) : Prop := Paired (fun p q => p.1 = q.1 ∧ Rep K φ H p.2 q.2) kvs ws
def ORep : O → Addr → Prop
  | .lst ds, a => ∃ vs, H a = some (.lst vs) ∧ Reps K φ H ds vs
  | .dik kvs, a => ∃ ws, H a = some (.dK ws) ∧ KRep K φ H kvs ws
  | .dit kvs, a => ∃ ts, Dit PWd.P PWd.w H a ts ∧ KRep K φ H kvs (ts.map triTwo)
structure HS (S : Store) : Prop where
  len : φ.length = S.length
  nd : φ.Nodup
  ob : ∀ (n : Nat) (o : O) (a : Addr), S[n]? = some o → φ[n]? = some a → ORep K φ H o a
def VS (r : Env) (σ : St) : Prop := r.length = σ.length ∧ ∀ (i : Nat) (d : D), r[i]? = some (some d) → ∃ v, σ[i]? = some (some v) ∧ Rep K φ H d v
end
structure Ex (φ : List Addr) (H : Hp) (φ' : List Addr) (H' : Hp) : Prop where
  pre : ∃ ψ, φ' = φ ++ ψ ∧ ∀ a ∈ ψ, H a = none
  keep : ∀ a o, H a = some o → a ∉ φ → H' a = some o
  live : ∀ a, H' a = none → H a = none
section
variable {K : PySem.W.Frag} {φ φ' φ1 φ2 : List Addr} {H H' H1 H2 : Hp} {S S' : Store} {d : D} {v : V} {ds : List D} {vs : List V} {r : Env} {σ : St}
theorem Ex.rfl' : Ex φ H φ H := ⟨⟨[], by simp, by simp⟩, fun _ _ h _ => h, fun _ h => h⟩
theorem Ex.trans (a : Ex φ H φ1 H1) (b : Ex φ1 H1 φ2 H2) : Ex φ H φ2 H2 := by
  obtain ⟨⟨p, rfl, hp⟩, ka, la⟩ := a
  obtain ⟨⟨q, rfl, hq⟩, kb, lb⟩ := b
  refine ⟨⟨p ++ q, by simp, fun a ha => ?_⟩, fun a o h n => kb a o (ka a o h n) fun hm => ?_, fun a h => la a (lb a h)⟩
  · rcases List.mem_append.mp ha with h1 | h1
    · exact hp a h1
    · exact la a (hq a h1)
  · rcases List.mem_append.mp hm with h1 | h1
    · exact n h1
    · rw [hp a h1] at h; cases h
theorem Ex.new {p : Addr} {o : HO} (h : H p = none) : Ex φ H φ (upd H p o) :=
  ⟨⟨[], by simp, by simp⟩, fun a u e _ => by rw [upd_ne (ne_of_none e h)]; exact e, fun a e => by
    by_cases hb : a = p
    · rw [hb, upd_same] at e; cases e
    · rwa [upd_ne hb] at e⟩
theorem Ex.newR {p : Addr} {o : HO} (h : H p = none) : Ex φ H (φ ++ [p]) (upd H p o) :=
  ⟨⟨[p], rfl, fun a ha => by rw [List.mem_singleton.mp ha]; exact h⟩, (Ex.new (φ := φ) h).keep, (Ex.new (φ := φ) h).live⟩
theorem Ex.reg {p : Addr} (e : Ex φ H φ' H') (h : H p = none) : Ex φ H (φ' ++ [p]) H' := by
  obtain ⟨⟨q, rfl, hq⟩, k, l⟩ := e
  exact ⟨⟨q ++ [p], by simp, fun a ha => (List.mem_append.mp ha).elim (hq a) fun z => by rw [List.mem_singleton.mp z]; exact h⟩, k, l⟩
theorem Ex.mut {p : Addr} {o u : HO} (hm : p ∈ φ) (hp : H p = some u) : Ex φ H φ (upd H p o) :=
  ⟨⟨[], by simp, by simp⟩, fun a w e n => by
    have : a ≠ p := fun z => n (z ▸ hm)
    rw [upd_ne this]; exact e, fun a e => by
    by_cases hb : a = p
    · rw [hb, upd_same] at e; cases e
    · rwa [upd_ne hb] at e⟩

theorem HS.obj (h : HS K φ H S) {a : Addr} (hm : a ∈ φ) : ∃ o, ORep K φ H o a := by
  obtain ⟨n, hn, e⟩ := List.mem_iff_getElem.mp hm
  have hs : n < S.length := by rw [← h.len]; exact hn
  exact ⟨S[n], h.ob n S[n] a (List.getElem?_eq_getElem hs) (by rw [List.getElem?_eq_getElem hn, e])⟩
theorem HS.live (h : HS K φ H S) {a : Addr} (hm : a ∈ φ) : H a ≠ none := by
  obtain ⟨o, r⟩ := h.obj hm
  cases o with
  | dit _ => obtain ⟨_, ⟨e, _⟩, _⟩ := r; rw [e]; simp
  | _ => obtain ⟨_, e, _⟩ := r; rw [e]; simp
/-- what is read, never written, is no object of the store -/
def Cold : HO → Prop
  | .tup _ => True
  | .frz _ _ => True
  | _ => False
theorem HS.cold (h : HS K φ H S) {a : Addr} {u : HO} (e : H a = some u) (c : Cold u) : a ∉ φ := fun hm => by
  obtain ⟨o, r⟩ := h.obj hm
  cases o with
  | dit _ => obtain ⟨_, ⟨e', _⟩, _⟩ := r; rw [e] at e'; cases e'; exact c
  | _ => obtain ⟨_, e', _⟩ := r; rw [e] at e'; cases e'; exact c
theorem sqT_ext (hs : HS K φ H S) (e : Ex φ H φ' H') {a : Addr} {xs : List V} (h : SqT K H a xs) : SqT K H' a xs := by
  rcases h with (h | ⟨o, h⟩) | h
  · exact .inl (.inl (e.keep a _ h (hs.cold h trivial)))
  · exact .inl (.inr ⟨o, e.keep a _ h (hs.cold h trivial)⟩)
  · exact .inr h
theorem tp_ext (hs : HS K φ H S) (e : Ex φ H φ' H') {a : Addr} {xs : List V} (h : Tp H a xs) : Tp H' a xs := let ⟨o, hd, g⟩ := h; ⟨o, hd, e.keep a _ g (hs.cold g trivial)⟩
theorem fix_ext (hs : HS K φ H S) (e : Ex φ H φ' H') {a : Addr} {xs : List V} (h : FixL K H a xs) : FixL K H' a xs := by
  rcases h with ⟨o, h⟩ | h
  · exact .inl ⟨o, e.keep a _ h (hs.cold h trivial)⟩
  · exact .inr h
mutual
theorem Rep.ext (hs : HS K φ H S) (e : Ex φ H φ' H') : ∀ (d : D) (v : V), Rep K φ H d v → Rep K φ' H' d v
  | .non, v, h => by simpa only [Rep] using h
  | .bl _, v, h => by simpa only [Rep] using h
  | .int _, v, h => by simpa only [Rep] using h
  | .str _, v, h => by simpa only [Rep] using h
  | .tup ds, v, h => by
    simp only [Rep] at h ⊢
    obtain ⟨a, vs, h1, h2, h3⟩ := h
    exact ⟨a, vs, h1, tp_ext hs e h2, Reps.ext hs e ds vs h3⟩
  | .fix ds, v, h => by
    simp only [Rep] at h ⊢
    obtain ⟨a, vs, h1, h2, h3⟩ := h
    exact ⟨a, vs, h1, fix_ext hs e h2, Reps.ext hs e ds vs h3⟩
  | .ref n, v, h => by
    simp only [Rep] at h ⊢
    obtain ⟨a, h1, h2⟩ := h
    obtain ⟨q, rfl, _⟩ := e.pre
    exact ⟨a, h1, by rw [List.getElem?_append_left (List.getElem?_eq_some_iff.mp h2).1]; exact h2⟩
theorem Reps.ext (hs : HS K φ H S) (e : Ex φ H φ' H') : ∀ (ds : List D) (vs : List V), Reps K φ H ds vs → Reps K φ' H' ds vs
  | [], vs, h => by simpa only [Reps] using h
  | d :: ds, vs, h => by
    simp only [Reps] at h ⊢
    obtain ⟨v, r, h1, h2, h3⟩ := h
    exact ⟨v, r, h1, Rep.ext hs e d v h2, Reps.ext hs e ds r h3⟩
end
theorem KRep.ext {κ : Type} (hs : HS K φ H S) (e : Ex φ H φ' H') {kvs : List (κ × D)} {ws : List (κ × V)} (h : KRep K φ H kvs ws) : KRep K φ' H' kvs ws :=
  Paired.mapP h fun p q z => ⟨z.1, Rep.ext hs e _ _ z.2⟩
theorem ORep.ext (hs : HS K φ H S) (e : Ex φ H φ' H') {o : O} {a : Addr} (h : ORep K φ H o a) (k : H' a = H a) : ORep K φ' H' o a := by
  cases o with
  | lst ds => obtain ⟨ws, h1, h2⟩ := h; exact ⟨ws, k.trans h1, Reps.ext hs e _ _ h2⟩
  | dik kvs => obtain ⟨ws, h1, h2⟩ := h; exact ⟨ws, k.trans h1, h2.ext hs e⟩
  | dit kvs => obtain ⟨ts, h1, h2⟩ := h; exact ⟨ts, ⟨k.trans h1.1, fun t m => tp_ext hs e (h1.2 t m)⟩, h2.ext hs e⟩
theorem VS.ext (hs : HS K φ H S) (e : Ex φ H φ' H') {r : Env} {σ : St} (h : VS K φ H r σ) : VS K φ' H' r σ :=
  ⟨h.1, fun i d hd => let ⟨v, h1, h2⟩ := h.2 i d hd; ⟨v, h1, Rep.ext hs e d v h2⟩⟩
/-- an object is laid and named -/
theorem HS.push (hs : HS K φ H S) {p : Addr} {u : HO} {o : O} (hp : H p = none) (h : ORep K (φ ++ [p]) (upd H p u) o p) : HS K (φ ++ [p]) (upd H p u) (S ++ [o]) := by
  have np : p ∉ φ := fun hm => hs.live hm hp
  have e : Ex φ H (φ ++ [p]) (upd H p u) := Ex.newR hp
  refine ⟨by simp [hs.len], List.nodup_append.mpr ⟨hs.nd, by simp, fun a ha b hb z => np (by rw [List.mem_singleton.mp hb] at z; exact z ▸ ha)⟩, fun n ob a h1 h2 => ?_⟩
  by_cases hn : n < S.length
  · rw [List.getElem?_append_left hn] at h1
    rw [List.getElem?_append_left (by rw [hs.len]; exact hn)] at h2
    refine (hs.ob n ob a h1 h2).ext hs e (upd_ne ?_)
    rintro rfl
    exact np (List.mem_of_getElem? h2)
  · rw [List.getElem?_append_right (by omega)] at h1
    rw [List.getElem?_append_right (by rw [hs.len]; omega)] at h2
    have z : n - S.length = 0 := by
      have := (List.getElem?_eq_some_iff.mp h1).1
      simp at this; omega
    rw [hs.len] at h2
    rw [z] at h1 h2
    simp at h1 h2
    subst h1; subst h2
    exact h
mutual
theorem Rep.more {q : List Addr} : ∀ (d : D) (v : V), Rep K φ H d v → Rep K (φ ++ q) H d v
  | .non, v, h => by simpa only [Rep] using h
  | .bl _, v, h => by simpa only [Rep] using h
  | .int _, v, h => by simpa only [Rep] using h
  | .str _, v, h => by simpa only [Rep] using h
  | .tup ds, v, h => by
    simp only [Rep] at h ⊢
    obtain ⟨a, vs, h1, h2, h3⟩ := h
    exact ⟨a, vs, h1, h2, Reps.more ds vs h3⟩
  | .fix ds, v, h => by
    simp only [Rep] at h ⊢
    obtain ⟨a, vs, h1, h2, h3⟩ := h
    exact ⟨a, vs, h1, h2, Reps.more ds vs h3⟩
  | .ref n, v, h => by
    simp only [Rep] at h ⊢
    obtain ⟨a, h1, h2⟩ := h
    exact ⟨a, h1, by rw [List.getElem?_append_left (List.getElem?_eq_some_iff.mp h2).1]; exact h2⟩
theorem Reps.more {q : List Addr} : ∀ (ds : List D) (vs : List V), Reps K φ H ds vs → Reps K (φ ++ q) H ds vs
  | [], vs, h => by simpa only [Reps] using h
  | d :: ds, vs, h => by
    simp only [Reps] at h ⊢
    obtain ⟨v, r, h1, h2, h3⟩ := h
    exact ⟨v, r, h1, Rep.more d v h2, Reps.more ds r h3⟩
end
theorem ORep.more {q : List Addr} {o : O} {a : Addr} (h : ORep K φ H o a) : ORep K (φ ++ q) H o a := by
  cases o with
  | lst ds => obtain ⟨ws, h1, h2⟩ := h; exact ⟨ws, h1, Reps.more _ _ h2⟩
  | dik kvs => obtain ⟨ws, h1, h2⟩ := h; exact ⟨ws, h1, Paired.mapP h2 fun p q z => ⟨z.1, Rep.more _ _ z.2⟩⟩
  | dit kvs => obtain ⟨ws, h1, h2⟩ := h; exact ⟨ws, h1, Paired.mapP h2 fun p q z => ⟨z.1, Rep.more _ _ z.2⟩⟩
/-- an object of the heap that nothing names is named -/
theorem HS.reg (hs : HS K φ H S) {p : Addr} {o : O} (np : p ∉ φ) (h : ORep K φ H o p) : HS K (φ ++ [p]) H (S ++ [o]) := by
  refine ⟨by simp [hs.len], List.nodup_append.mpr ⟨hs.nd, by simp, fun a ha b hb z => np (by rw [List.mem_singleton.mp hb] at z; exact z ▸ ha)⟩, fun n ob a h1 h2 => ?_⟩
  by_cases hn : n < S.length
  · rw [List.getElem?_append_left hn] at h1
    rw [List.getElem?_append_left (by rw [hs.len]; exact hn)] at h2
    exact (hs.ob n ob a h1 h2).more
  · rw [List.getElem?_append_right (by omega)] at h1
    rw [List.getElem?_append_right (by rw [hs.len]; omega)] at h2
    have z : n - S.length = 0 := by
      have := (List.getElem?_eq_some_iff.mp h1).1
      simp at this; omega
    rw [hs.len] at h2
    rw [z] at h1 h2
    simp at h1 h2
    subst h1; subst h2
    exact h.more
theorem nodup_at {N : List Addr} (hN : N.Nodup) {i j : Nat} {x : Addr} (a : N[i]? = some x) (b : N[j]? = some x) : i = j := by
  obtain ⟨h1, e1⟩ := List.getElem?_eq_some_iff.mp a
  obtain ⟨h2, e2⟩ := List.getElem?_eq_some_iff.mp b
  exact (List.getElem_inj hN).mp (e1.trans e2.symm)
/-- an object is written -/
theorem HS.set (hs : HS K φ H S) {n : Nat} {a : Addr} {u : HO} {o o' : O} (h1 : S[n]? = some o) (h2 : φ[n]? = some a) (h : ORep K φ (upd H a u) o' a) : HS K φ (upd H a u) (S.set n o') := by
  have hm : a ∈ φ := List.mem_of_getElem? h2
  obtain ⟨w, hw⟩ : ∃ w, H a = some w := Option.ne_none_iff_exists'.mp (hs.live hm)
  have e : Ex φ H φ (upd H a u) := Ex.mut hm hw
  refine ⟨by simp [hs.len], hs.nd, fun m ob b h3 h4 => ?_⟩
  by_cases hn : m = n
  · subst hn
    rw [h2] at h4; cases h4
    have hl := (List.getElem?_eq_some_iff.mp h1).1
    rw [List.getElem?_set_self hl] at h3
    cases h3
    exact h
  · rw [List.getElem?_set_ne (Ne.symm hn)] at h3
    refine (hs.ob m ob b h3 h4).ext hs e (upd_ne ?_)
    rintro rfl
    exact hn (nodup_at hs.nd h4 h2)
theorem HS.mutEx (hs : HS K φ H S) {n : Nat} {a : Addr} {u : HO} (h2 : φ[n]? = some a) : Ex φ H φ (upd H a u) := by
  have hm : a ∈ φ := List.mem_of_getElem? h2
  obtain ⟨w, hw⟩ : ∃ w, H a = some w := Option.ne_none_iff_exists'.mp (hs.live hm)
  exact Ex.mut hm hw
theorem HS.sget (hs : HS K φ H S) {n : Nat} {a : Addr} (h : φ[n]? = some a) : ∃ o, S[n]? = some o ∧ ORep K φ H o a := by
  have hl : n < S.length := by rw [← hs.len]; exact (List.getElem?_eq_some_iff.mp h).1
  exact ⟨S[n], List.getElem?_eq_getElem hl, hs.ob n _ a (List.getElem?_eq_getElem hl) h⟩
theorem HS.at_ (hs : HS K φ H S) {n : Nat} {o : O} (h : S[n]? = some o) : ∃ a, φ[n]? = some a ∧ ORep K φ H o a := by
  have hl : n < φ.length := by rw [hs.len]; exact (List.getElem?_eq_some_iff.mp h).1
  exact ⟨φ[n], List.getElem?_eq_getElem hl, hs.ob n o _ h (List.getElem?_eq_getElem hl)⟩
/-! ### lists of data -/
theorem Reps.len : ∀ {ds : List D} {vs : List V}, Reps K φ H ds vs → vs.length = ds.length
  | [], vs, h => by simp only [Reps] at h; rw [h]; rfl
  | d :: ds, vs, h => by
    simp only [Reps] at h
    obtain ⟨v, r, rfl, _, h3⟩ := h
    simp [Reps.len h3]
theorem Reps.app : ∀ {ds es : List D} {vs ws : List V}, Reps K φ H ds vs → Reps K φ H es ws → Reps K φ H (ds ++ es) (vs ++ ws)
  | [], es, vs, ws, h, g => by simp only [Reps] at h; rw [h]; exact g
  | d :: ds, es, vs, ws, h, g => by
    simp only [Reps] at h
    obtain ⟨v, r, rfl, h2, h3⟩ := h
    simp only [List.cons_append, Reps]
    exact ⟨v, r ++ ws, rfl, h2, Reps.app h3 g⟩
theorem Reps.one {d : D} {v : V} (h : Rep K φ H d v) : Reps K φ H [d] [v] := by simp only [Reps]; exact ⟨v, [], rfl, h, rfl⟩
theorem Reps.at_ : ∀ {ds : List D} {vs : List V} {i : Nat} {d : D}, Reps K φ H ds vs → ds[i]? = some d → ∃ v, vs[i]? = some v ∧ Rep K φ H d v
  | [], _, _, _, _, e => by simp at e
  | d :: ds, vs, 0, x, h, e => by
    simp only [Reps] at h
    obtain ⟨v, r, rfl, h2, _⟩ := h
    simp at e; subst e
    exact ⟨v, rfl, h2⟩
  | d :: ds, vs, i + 1, x, h, e => by
    simp only [Reps] at h
    obtain ⟨v, r, rfl, _, h3⟩ := h
    obtain ⟨w, h4, h5⟩ := Reps.at_ (i := i) h3 (by simpa using e)
    exact ⟨w, by simpa using h4, h5⟩
theorem Reps.atV : ∀ {ds : List D} {vs : List V} {i : Nat} {v : V}, Reps K φ H ds vs → vs[i]? = some v → ∃ d, ds[i]? = some d ∧ Rep K φ H d v
  | [], vs, i, v, h, e => by simp only [Reps] at h; rw [h] at e; simp at e
  | d :: ds, vs, 0, x, h, e => by
    simp only [Reps] at h
    obtain ⟨v, r, rfl, h2, _⟩ := h
    simp at e; subst e
    exact ⟨d, rfl, h2⟩
  | d :: ds, vs, i + 1, x, h, e => by
    simp only [Reps] at h
    obtain ⟨v, r, rfl, _, h3⟩ := h
    obtain ⟨w, h4, h5⟩ := Reps.atV (i := i) h3 (by simpa using e)
    exact ⟨w, by simpa using h4, h5⟩
theorem Reps.set {x : D} {y : V} (hx : Rep K φ H x y) : ∀ {ds : List D} {vs : List V} (i : Nat), Reps K φ H ds vs → Reps K φ H (ds.set i x) (vs.set i y)
  | [], vs, i, h => by simp only [Reps] at h; rw [h]; simp only [List.set_nil, Reps]
  | d :: ds, vs, 0, h => by
    simp only [Reps] at h
    obtain ⟨v, r, rfl, _, h3⟩ := h
    simp only [List.set_cons_zero, Reps]
    exact ⟨y, r, rfl, hx, h3⟩
  | d :: ds, vs, i + 1, h => by
    simp only [Reps] at h
    obtain ⟨v, r, rfl, h2, h3⟩ := h
    simp only [List.set_cons_succ, Reps]
    exact ⟨v, r.set i y, rfl, h2, Reps.set hx i h3⟩
theorem Reps.drop : ∀ {ds : List D} {vs : List V} (i : Nat), Reps K φ H ds vs → Reps K φ H (ds.drop i) (vs.drop i)
  | ds, vs, 0, h => by simpa using h
  | [], vs, i + 1, h => by simp only [Reps] at h; rw [h]; simp only [List.drop_nil, Reps]
  | d :: ds, vs, i + 1, h => by
    simp only [Reps] at h
    obtain ⟨v, r, rfl, _, h3⟩ := h
    simpa using Reps.drop i h3
theorem Reps.take : ∀ {ds : List D} {vs : List V} (i : Nat), Reps K φ H ds vs → Reps K φ H (ds.take i) (vs.take i)
  | ds, vs, 0, h => by simp only [List.take_zero, Reps]
  | [], vs, i + 1, h => by simp only [Reps] at h; rw [h]; simp only [List.take_nil, Reps]
  | d :: ds, vs, i + 1, h => by
    simp only [Reps] at h
    obtain ⟨v, r, rfl, h2, h3⟩ := h
    simp only [List.take_succ_cons, Reps]
    exact ⟨v, r.take i, rfl, h2, Reps.take i h3⟩
theorem Reps.ints : ∀ {ds : List D} {vs : List V} {ns : List Int}, Reps K φ H ds vs → asInts ds = some ns → vs = ns.map V.int
  | [], vs, ns, h, e => by simp only [Reps] at h; simp [asInts, mapO] at e; rw [h, e]; rfl
  | d :: ds, vs, ns, h, e => by
    simp only [Reps] at h
    obtain ⟨v, r, rfl, h2, h3⟩ := h
    unfold asInts mapO at e
    cases d <;> simp only [asInt] at e <;> try (cases e; done)
    cases q : mapO asInt ds with
    | none => rw [q] at e; cases e
    | some t =>
      rw [q] at e
      simp at e
      subst e
      simp only [Rep] at h2
      rw [h2, Reps.ints h3 q]; rfl
theorem Reps.bools : ∀ {ds : List D} {vs : List V} {ns : List Bool}, Reps K φ H ds vs → asBools ds = some ns → vs = ns.map V.bl
  | [], vs, ns, h, e => by simp only [Reps] at h; simp [asBools, mapO] at e; rw [h, e]; rfl
  | d :: ds, vs, ns, h, e => by
    simp only [Reps] at h
    obtain ⟨v, r, rfl, h2, h3⟩ := h
    unfold asBools mapO at e
    cases d <;> simp only [asBool] at e <;> try (cases e; done)
    cases q : mapO asBool ds with
    | none => rw [q] at e; cases e
    | some t =>
      rw [q] at e
      simp at e
      subst e
      simp only [Rep] at h2
      rw [h2, Reps.bools h3 q]; rfl
theorem reps_ints : ∀ (ns : List Int), Reps K φ H (ns.map D.int) (ns.map V.int)
  | [] => by simp only [List.map_nil, Reps]
  | n :: r => by simp only [List.map_cons, Reps]; exact ⟨_, _, rfl, by simp only [Rep], reps_ints r⟩
/-! ### names -/
theorem VS.set (h : VS K φ H r σ) (i : Nat) (hd : Rep K φ H d v) : VS K φ H (r.set i (some d)) (σ.set i (some v)) := by
  refine ⟨by simp [h.1], fun j x hj => ?_⟩
  by_cases e : j = i
  · subst e
    have hl : j < r.length := by
      have := (List.getElem?_eq_some_iff.mp hj).1
      simpa using this
    rw [List.getElem?_set_self hl] at hj
    cases hj
    exact ⟨v, by rw [List.getElem?_set_self (by rw [← h.1]; exact hl)], hd⟩
  · rw [List.getElem?_set_ne (Ne.symm e)] at hj ⊢
    exact h.2 j x hj
theorem VS.unset (h : VS K φ H r σ) (i : Nat) : VS K φ H (r.set i none) (σ.set i none) := by
  refine ⟨by simp [h.1], fun j x hj => ?_⟩
  by_cases e : j = i
  · subst e
    have hl : j < r.length := by
      have := (List.getElem?_eq_some_iff.mp hj).1
      simpa using this
    rw [List.getElem?_set_self hl] at hj
    cases hj
  · rw [List.getElem?_set_ne (Ne.symm e)] at hj ⊢
    exact h.2 j x hj
theorem VS.wipe (h : VS K φ H r σ) : ∀ vs : List Nat, VS K φ H (Wb.wipe r vs) (L2.wipe σ vs)
  | [] => h
  | v :: vs => (VS.wipe h vs).unset v
theorem VS.look (h : VS K φ H r σ) {i : Nat} {d : D} (e : Wb.look r i = some d) : ∃ v, σ[i]? = some (some v) ∧ Rep K φ H d v := by
  unfold Wb.look at e
  split at e
  · next x q => cases e; exact h.2 i _ q
  · cases e
end
end Wb

/-! W4: the operations on plain data are the machine's. -/
namespace Wb
open PySem PySem.Spec PyProof.Rows L2
variable [PWd]

/-- what is to be shown of a value made on the way -/
def Nxt (K : PySem.W.Frag) (φ : List Addr) (H : Hp) (S' : Store) (d : D) (Q : VK) : Prop :=
  ∀ (φ' : List Addr) (v : V) (H' : Hp), Ex φ H φ' H' → HS K φ' H' S' → Rep K φ' H' d v → Q v H'
theorem sz_top {n : Nat} (h : n ≤ 1000001) : n ≤ sizeLine := by rw [sizeLine_eq]; omega
theorem small_le {n : Nat} (h : small n = true) : n ≤ 1000000 := of_decide_eq_true h
section
variable {X : Cx} {φ : List Addr} {H : Hp} {S S' : Store} {d e z : D} {x y : V} {Q : VK} {K : PySem.W.Frag}
theorem Nxt.same (h : Nxt K φ H S d Q) (hs : HS K φ H S) {v : V} (r : Rep K φ H d v) : Q v H := h φ v H Ex.rfl' hs r
/-- a new tuple -/
theorem Nxt.tup {ds : List D} {vs : List V} (h : Nxt K φ H S (.tup ds) Q) (hs : HS K φ H S) (r : Reps K φ H ds vs) : NewT H vs Q := fun p ob hp hd => by
  have e : Ex φ H φ (upd H p (.frz ob (.tup vs))) := Ex.new hp
  refine h φ _ _ e ⟨hs.len, hs.nd, fun n o a h1 h2 => (hs.ob n o a h1 h2).ext hs e (upd_ne ?_)⟩ ?_
  · rintro rfl
    exact hs.live (List.mem_of_getElem? h2) hp
  · simp only [Rep]
    exact ⟨p, vs, rfl, Tp.obj hd, Reps.ext hs e _ _ r⟩
/-- a new object of the heap that the store does not name -/
theorem HS.side (hs : HS K φ H S) {p : Addr} {u : HO} (hp : H p = none) : HS K φ (upd H p u) S :=
  ⟨hs.len, hs.nd, fun n o a h1 h2 => (hs.ob n o a h1 h2).ext hs (Ex.new hp) (upd_ne (by
    rintro rfl
    exact hs.live (List.mem_of_getElem? h2) hp))⟩

def rOp (K : PySem.W.Frag) (o : Op) : R2 := fun x y H Q => ∃ (φ : List Addr) (S : Store) (d e z : D) (S' : Store), HS K φ H S ∧ Rep K φ H d x ∧ Rep K φ H e y ∧ opD S o d e = some (z, S') ∧ Nxt K φ H S' z Q
theorem okMul_c {i j : Int} (h : okMul i j = true) : CMul i j := by
  unfold okMul at h
  simp only [Bool.or_eq_true, Bool.and_eq_true, decide_eq_true_eq] at h
  exact h
theorem reps_times {ds : List D} {vs : List V} (r : Reps K φ H ds vs) : ∀ {m : Nat}, Reps K φ H (List.replicate m ds).flatten (List.replicate m vs).flatten
  | 0 => by simp only [List.replicate, List.flatten_nil, Reps]
  | m + 1 => by
    rw [List.replicate_succ, List.replicate_succ, List.flatten_cons, List.flatten_cons]
    exact Reps.app r (reps_times r)
theorem op_sim {p : Operator} {o : Op} (hp : opOf p = some o) : OpR X (binaryOp p) (rOp X.K o) := by
  intro pins s σ H x y v u Q I rx ry h
  obtain ⟨φ, S, d, e, z, S', hs, rd, re, ho, q⟩ := h
  have I2 : ∀ {i j : Int}, d = .int i → e = .int j → x = .int i ∧ y = .int j := fun h1 h2 => by
    subst h1; subst h2
    simp only [Rep] at rd re
    exact ⟨rd, re⟩
  cases p <;> simp only [opOf] at hp <;> cases hp
  case Add =>
    cases d <;> cases e <;> simp only [opD] at ho <;> try (cases ho; done)
    case int.int i j =>
      obtain ⟨rfl, rfl⟩ := I2 rfl rfl
      cases ho
      exact op_add pins s σ H _ _ v u Q I rx ry ⟨i, j, rfl, rfl, q.same hs (by simp only [Rep])⟩
    case str.str a b =>
      split at ho
      · next hz =>
        cases ho
        simp only [Rep] at rd re
        subst rd; subst re
        exact op_add_str pins s σ H _ _ v u Q I rx ry ⟨a, b, rfl, rfl, sz_top (Nat.le_succ_of_le (small_le hz)), q.same hs (by simp only [Rep])⟩
      · cases ho
    case ref.ref n m =>
      split at ho
      · next xs ys h1 h2 =>
        split at ho
        · next hz =>
          cases ho
          simp only [Rep] at rd re
          obtain ⟨p1, rfl, g1⟩ := rd
          obtain ⟨p2, rfl, g2⟩ := re
          obtain ⟨o1, e1, r1⟩ := hs.sget g1
          obtain ⟨o2, e2, r2⟩ := hs.sget g2
          rw [h1] at e1
          rw [h2] at e2
          cases e1
          cases e2
          obtain ⟨vs, v1, w1⟩ := r1
          obtain ⟨ws, v2, w2⟩ := r2
          refine op_cat pins s σ H _ _ v u Q I rx ry ⟨p1, p2, vs, ws, rfl, rfl, v1, v2, by rw [w1.len, w2.len]; exact sz_top (Nat.le_succ_of_le (small_le hz)), fun p hp => ?_⟩
          have ex : Ex φ H φ (upd H p (.lst (vs ++ ws))) := Ex.new hp
          refine q (φ ++ [p]) (.ref p) _ (ex.reg hp) ((hs.side hp).reg (fun z => hs.live z hp) ⟨_, upd_same, Reps.ext hs ex _ _ (Reps.app w1 w2)⟩) ?_
          simp only [Rep]
          exact ⟨p, rfl, by rw [← hs.len]; simp⟩
        · cases ho
      · cases ho
    case tup.tup a b =>
      split at ho
      · next hz =>
        cases ho
        simp only [Rep] at rd re
        obtain ⟨p1, xs, rfl, h1, r1⟩ := rd
        obtain ⟨p2, ys, rfl, h2, r2⟩ := re
        have l1 := r1.len
        have l2 := r2.len
        have rr := Reps.app r1 r2
        refine op_catN pins s σ H _ _ v u Q I rx ry ⟨p1, p2, xs, ys, ⟨rfl, rfl⟩, ⟨h1.sq, h2.sq⟩, by rw [l1, l2]; exact sz_top (Nat.le_succ_of_le (small_le hz)), fun e => ?_, fun _ e => ?_, fun _ _ => q.tup hs rr⟩
        · subst e
          exact q.same hs (by simp only [Rep]; exact ⟨p2, ys, rfl, h2, by simpa using rr⟩)
        · subst e
          exact q.same hs (by simp only [Rep]; exact ⟨p1, xs, rfl, h1, by simpa using rr⟩)
      · cases ho
  case Sub =>
    cases d <;> cases e <;> simp only [opD] at ho <;> try (cases ho; done)
    obtain ⟨rfl, rfl⟩ := I2 rfl rfl
    cases ho
    exact op_sub pins s σ H _ _ v u Q I rx ry ⟨_, _, rfl, rfl, q.same hs (by simp only [Rep])⟩
  case Mult =>
    cases d <;> cases e <;> simp only [opD] at ho <;> try (cases ho; done)
    case int.int i j =>
      split at ho
      · next hz =>
        obtain ⟨rfl, rfl⟩ := I2 rfl rfl
        cases ho
        exact op_mul pins s σ H _ _ v u Q I rx ry ⟨_, _, rfl, rfl, okMul_c hz, q.same hs (by simp only [Rep])⟩
      · cases ho
    case tup.int a k =>
      split at ho
      · next hz =>
        cases ho
        simp only [Bool.and_eq_true, decide_eq_true_eq] at hz
        simp only [Rep] at rd re
        obtain ⟨p1, xs, rfl, h1, r1⟩ := rd
        subst re
        have l1 := r1.len
        refine op_timesN pins s σ H _ _ v u Q I rx ry ⟨p1, k, xs, ⟨rfl, rfl⟩, h1.sq, by omega, ⟨hz.1.1, hz.1.2⟩, fun e => q.same hs ?_, fun _ => q.tup hs (reps_times r1)⟩
        simp only [Rep]
        refine ⟨p1, xs, rfl, h1, ?_⟩
        rcases e with e | e
        · subst e
          have : a = [] := List.eq_nil_of_length_eq_zero (by simpa using l1.symm)
          subst this
          rw [List.flatten_eq_nil_iff.mpr fun l hl => (List.mem_replicate.mp hl).2]
          simp only [Reps]
        · subst e
          simpa using r1
      · cases ho
  case FloorDiv =>
    cases d <;> cases e <;> simp only [opD] at ho <;> try (cases ho; done)
    split at ho
    · next hz =>
      obtain ⟨rfl, rfl⟩ := I2 rfl rfl
      cases ho
      simp only [Bool.and_eq_true, decide_eq_true_eq] at hz
      exact op_fdiv pins s σ H _ _ v u Q I rx ry ⟨_, _, rfl, rfl, hz, q.same hs (by simp only [Rep])⟩
    · cases ho
  case Mod =>
    cases d <;> cases e <;> simp only [opD] at ho <;> try (cases ho; done)
    split at ho
    · next hz =>
      obtain ⟨rfl, rfl⟩ := I2 rfl rfl
      cases ho
      exact op_mod pins s σ H _ _ v u Q I rx ry ⟨_, _, rfl, rfl, of_decide_eq_true hz, q.same hs (by simp only [Rep])⟩
    · cases ho
  case Pow =>
    cases d <;> cases e <;> simp only [opD] at ho <;> try (cases ho; done)
    split at ho
    · next hz =>
      obtain ⟨rfl, rfl⟩ := I2 rfl rfl
      cases ho
      simp only [Bool.and_eq_true, decide_eq_true_eq] at hz
      exact op_pow pins s σ H _ _ v u Q I rx ry ⟨_, _, rfl, rfl, ⟨hz.1.1, hz.1.2, hz.2⟩, q.same hs (by simp only [Rep])⟩
    · cases ho
  case LShift =>
    cases d <;> cases e <;> simp only [opD] at ho <;> try (cases ho; done)
    split at ho
    · next hz =>
      obtain ⟨rfl, rfl⟩ := I2 rfl rfl
      cases ho
      simp only [Bool.and_eq_true, decide_eq_true_eq] at hz
      exact op_shl pins s σ H _ _ v u Q I rx ry ⟨_, _, rfl, rfl, ⟨hz.1.1, hz.1.2, hz.2⟩, q.same hs (by simp only [Rep])⟩
    · cases ho
  case RShift =>
    cases d <;> cases e <;> simp only [opD] at ho <;> try (cases ho; done)
    split at ho
    · next hz =>
      obtain ⟨rfl, rfl⟩ := I2 rfl rfl
      cases ho
      exact op_shr pins s σ H _ _ v u Q I rx ry ⟨_, _, rfl, rfl, of_decide_eq_true hz, q.same hs (by simp only [Rep])⟩
    · cases ho
  case BitAnd =>
    cases d <;> cases e <;> simp only [opD] at ho <;> try (cases ho; done)
    obtain ⟨rfl, rfl⟩ := I2 rfl rfl
    cases ho
    exact op_and pins s σ H _ _ v u Q I rx ry ⟨_, _, rfl, rfl, q.same hs (by simp only [Rep])⟩
end
end Wb

/-! W5: comparisons, subscripts, slices, stores. -/
namespace Wb
open PySem PySem.Spec PyProof.Rows L2
variable [PWd]
section
variable {X : Cx} {φ : List Addr} {H : Hp} {S S' : Store} {d e z : D} {x y : V} {Q : VK} {K : PySem.W.Frag}

theorem Reps.dp {n : Nat} (ih : ∀ (d : D) (v : V) (p : PyData), toPy S n d = some p → Rep K φ H d v → Dp K H v p) :
    ∀ {ds : List D} {vs : List V} {ps : List PyData}, mapO (toPy S n) ds = some ps → Reps K φ H ds vs → DpAll K H vs ps
  | [], vs, ps, h, r => by
    simp only [Reps] at r
    simp only [mapO, Option.some.injEq] at h
    subst h; subst r
    exact .nil
  | d :: ds, vs, ps, h, r => by
    simp only [Reps] at r
    obtain ⟨v, t, rfl, r1, r2⟩ := r
    simp only [mapO] at h
    cases h1 : toPy S n d with
    | none => rw [h1] at h; cases h
    | some a =>
      cases h2 : mapO (toPy S n) ds with
      | none => rw [h1, h2] at h; cases h
      | some b =>
        rw [h1, h2] at h
        cases h
        exact .cons (ih d v a h1 r1) (Reps.dp ih h2 r2)
theorem toPy_dp (hs : HS K φ H S) : ∀ (n : Nat) (d : D) (v : V) (p : PyData), toPy S n d = some p → Rep K φ H d v → Dp K H v p
  | 0, d, v, p, h, _ => by simp [toPy] at h
  | n + 1, d, v, p, h, r => by
    have go : ∀ {xs : List D} {vs : List V} {ps : List PyData}, mapO (toPy S n) xs = some ps → Reps K φ H xs vs → DpAll K H vs ps := fun h r => Reps.dp (toPy_dp hs n) h r
    cases d with
    | non => simp only [toPy] at h; cases h; simp only [Rep] at r; rw [r]; exact .non
    | bl b => simp only [toPy] at h; cases h; simp only [Rep] at r; rw [r]; exact .bl b
    | int i => simp only [toPy] at h; cases h; simp only [Rep] at r; rw [r]; exact .int i
    | str s => simp only [toPy] at h; cases h; simp only [Rep] at r; rw [r]; exact .str s
    | tup xs =>
      simp only [toPy] at h
      obtain ⟨ps, h1, rfl⟩ := Option.map_eq_some_iff.mp h
      simp only [Rep] at r
      obtain ⟨a, vs, rfl, ha, hr⟩ := r
      exact .tup ha.sq (go h1 hr)
    | fix xs =>
      simp only [toPy] at h
      obtain ⟨ps, h1, rfl⟩ := Option.map_eq_some_iff.mp h
      simp only [Rep] at r
      obtain ⟨a, vs, rfl, ha, hr⟩ := r
      exact .lst ha.sq (go h1 hr)
    | ref k =>
      simp only [toPy] at h
      simp only [Rep] at r
      obtain ⟨a, rfl, ha⟩ := r
      obtain ⟨o, ho, ro⟩ := hs.sget ha
      rw [ho] at h
      cases o with
      | lst xs =>
        obtain ⟨ps, h1, rfl⟩ := Option.map_eq_some_iff.mp h
        obtain ⟨vs, hv, hr⟩ := ro
        exact .lst (SqL.of hv) (go h1 hr)
      | dik _ => cases h
      | dit _ => cases h
theorem pyOk_dp (hs : HS K φ H S) {d : D} {v : V} {p : PyData} (h : pyOk S d = some p) (r : Rep K φ H d v) : Dp K H v p ∧ SeqAt.shaped p = true := by
  unfold pyOk at h
  split at h
  · next a q =>
    split at h
    · next hq => cases h; exact ⟨toPy_dp hs _ _ _ _ q r, hq⟩
    · cases h
  · cases h
theorem pyOks_dp (hs : HS K φ H S) {ds : List D} {vs : List V} {ps : List PyData} (h : pyOks S ds = some ps) (r : Reps K φ H ds vs) : DpAll K H vs ps ∧ SeqAt.shaped (.list ps) = true := by
  unfold pyOks at h
  split at h
  · next a q =>
    split at h
    · next hq => cases h; exact ⟨Reps.dp (toPy_dp hs _) q r, hq⟩
    · cases h
  · cases h
theorem eqD_sim (hu : X.A.units + 64 < cLine) {b : Bool} : 
    OpR X (compareOp .Eq) (fun x y H Q => ∃ (φ : List Addr) (S : Store) (d e : D), HS X.K φ H S ∧ Rep X.K φ H d x ∧ Rep X.K φ H e y ∧ eqD S d e = some b ∧ Q (.bl b) H) ∧
    OpR X (compareOp .NotEq) (fun x y H Q => ∃ (φ : List Addr) (S : Store) (d e : D), HS X.K φ H S ∧ Rep X.K φ H d x ∧ Rep X.K φ H e y ∧ eqD S d e = some b ∧ Q (.bl (!b)) H) := by
  have sc : ∀ {i j : V}, i = j → decide (i = j) = true := fun h => decide_eq_true h
  refine ⟨fun pins s σ H x y v u Q I rx ry h => ?_, fun pins s σ H x y v u Q I rx ry h => ?_⟩
  all_goals
    obtain ⟨φ, S, d, e, hs, rd, re, ho, q⟩ := h
    unfold eqD at ho
    split at ho
    · cases ho
      simp only [Rep] at rd re
      subst rd; subst re
      first
        | (refine op_eq pins s σ H _ _ v u Q I rx ry ⟨rfl, ?_⟩; simpa using q)
        | (refine op_ne pins s σ H _ _ v u Q I rx ry ⟨rfl, ?_⟩; simpa using q)
    · cases ho
      simp only [Rep] at rd re
      subst rd; subst re
      first
        | (refine op_eq pins s σ H _ _ v u Q I rx ry ⟨rfl, ?_⟩; simpa using q)
        | (refine op_ne pins s σ H _ _ v u Q I rx ry ⟨rfl, ?_⟩; simpa using q)
    · cases ho
      simp only [Rep] at rd re
      subst rd; subst re
      first
        | (refine op_eq pins s σ H _ _ v u Q I rx ry ⟨rfl, ?_⟩; simpa using q)
        | (refine op_ne pins s σ H _ _ v u Q I rx ry ⟨rfl, ?_⟩; simpa using q)
    · split at ho
      · next a b' h1 h2 =>
        cases ho
        obtain ⟨p1, s1⟩ := pyOk_dp hs h1 rd
        obtain ⟨p2, s2⟩ := pyOk_dp hs h2 re
        first
          | exact op_eqD hu pins s σ H _ _ v u Q I rx ry ⟨a, b', p1, p2, s1, s2, q⟩
          | exact op_neD hu pins s σ H _ _ v u Q I rx ry ⟨a, b', p1, p2, s1, s2, q⟩
      · cases ho
theorem inT_sim (hu : X.A.units + 65 < cLine) : 
    OpR X (compareOp .In) (fun x y H Q => ∃ d ds, Dp X.K H x d ∧ Dp X.K H y (.tuple ds) ∧ SeqAt.shaped d = true ∧ SeqAt.shaped (.list ds) = true ∧ Q (.bl (ds.any fun z => PyData.eqv z d)) H) ∧
    OpR X (compareOp .NotIn) (fun x y H Q => ∃ d ds, Dp X.K H x d ∧ Dp X.K H y (.tuple ds) ∧ SeqAt.shaped d = true ∧ SeqAt.shaped (.list ds) = true ∧ Q (.bl (!ds.any fun z => PyData.eqv z d)) H) := by
  refine ⟨fun pins s σ H x y v u Q I rx ry h => ?_, fun pins s σ H x y v u Q I rx ry h => ?_⟩
  · obtain ⟨d, ds, hd, he, sd, se, q⟩ := h
    obtain ⟨as, r1⟩ := Dp.reads I d x v hd rx
    obtain ⟨bs, r2⟩ := Dp.reads I (.tuple ds) y u he ry
    exact SeqAt.in_tuple_reads r2 r1 (SeqAt.canLay_of_shaped se) (SeqAt.canLay_of_shaped sd) (room_in_shaped sd hu) ⟨.bl _, H, I, rfl, q⟩
  · obtain ⟨d, ds, hd, he, sd, se, q⟩ := h
    obtain ⟨as, r1⟩ := Dp.reads I d x v hd rx
    obtain ⟨bs, r2⟩ := Dp.reads I (.tuple ds) y u he ry
    exact SeqAt.notIn_tuple_reads r2 r1 (SeqAt.canLay_of_shaped se) (SeqAt.canLay_of_shaped sd) (room_in_shaped sd hu) ⟨.bl _, H, I, rfl, q⟩
theorem keys_v : ∀ {ds : List D} {ks : List Key} {vs : List V}, D.keys ds = some ks → Reps K φ H ds vs → vs = ks.map kV
  | [], ks, vs, h, r => by
    simp only [Reps] at r
    simp only [D.keys, Option.some.injEq] at h
    rw [r, ← h]; rfl
  | d :: ds, ks, vs, h, r => by
    simp only [Reps] at r
    obtain ⟨v, t, rfl, r1, r2⟩ := r
    simp only [D.keys] at h
    cases h1 : d.key with
    | none => rw [h1] at h; cases h
    | some a =>
      cases h2 : D.keys ds with
      | none => rw [h1, h2] at h; cases h
      | some b =>
        rw [h1, h2] at h
        cases h
        rw [keys_v h2 r2]
        cases d <;> simp only [D.key] at h1 <;> cases h1 <;> (simp only [Rep] at r1; rw [r1]; rfl)
theorem key_v {k : Key} {v : V} (h : d.key = some k) (r : Rep K φ H d v) : v = kV k := by
  cases d <;> simp only [D.key] at h <;> cases h <;> (simp only [Rep] at r; rw [r]; rfl)
theorem KRep.get {κ : Type} [DecidableEq κ] {kvs : List (κ × D)} {ws : List (κ × V)} (h : KRep K φ H kvs ws) (k : κ) :
    match getK kvs k, valV ws k with
    | some d, some v => Rep K φ H d v
    | none, none => True
    | _, _ => False := by
  unfold KRep at h
  induction h with
  | nil => trivial
  | @cons p q r t hpq _ ih =>
    obtain ⟨k1, d⟩ := p
    obtain ⟨k2, v⟩ := q
    obtain ⟨e, hr⟩ := hpq
    simp only at e hr
    subst e
    by_cases hk : k1 = k
    · have e1 : getK ((k1, d) :: r) k = some d := by simp [getK, List.find?_cons, hk]
      have e2 : valV ((k1, v) :: t) k = some v := by simp [valV, List.find?_cons, hk]
      rw [e1, e2]; exact hr
    · have e1 : getK ((k1, d) :: r) k = getK r k := by simp [getK, List.find?_cons, hk]
      have e2 : valV ((k1, v) :: t) k = valV t k := by simp [valV, List.find?_cons, hk]
      rw [e1, e2]; exact ih
theorem KRep.some_ {κ : Type} [DecidableEq κ] {kvs : List (κ × D)} {ws : List (κ × V)} (h : KRep K φ H kvs ws) (k : κ) : (getK kvs k).isSome = (valV ws k).isSome := by
  have g := h.get k
  cases h1 : getK kvs k <;> cases h2 : valV ws k <;> rw [h1, h2] at g <;> first | rfl | exact g.elim
theorem KRep.val {κ : Type} [DecidableEq κ] {kvs : List (κ × D)} {ws : List (κ × V)} (h : KRep K φ H kvs ws) {k : κ} {d : D} (e : getK kvs k = some d) : ∃ v, valV ws k = some v ∧ Rep K φ H d v := by
  have g := h.get k
  rw [e] at g
  cases h2 : valV ws k with
  | none => rw [h2] at g; exact g.elim
  | some v => rw [h2] at g; exact ⟨v, rfl, g⟩
theorem KRep.len {κ : Type} {kvs : List (κ × D)} {ws : List (κ × V)} (h : KRep K φ H kvs ws) : ws.length = kvs.length := (Paired.length h).symm
theorem KRep.set {κ : Type} [DecidableEq κ] {kvs : List (κ × D)} {ws : List (κ × V)} (h : KRep K φ H kvs ws) (k : κ) {d : D} {v : V} (r : Rep K φ H d v) : KRep K φ H (setK kvs k d) (putK ws k v) := by
  have ha : ∀ {kvs : List (κ × D)} {ws : List (κ × V)}, KRep K φ H kvs ws → (kvs.any fun kv => decide (kv.1 = k)) = (ws.any fun kv => decide (kv.1 = k)) := fun h => by
    unfold KRep at h
    induction h with
    | nil => rfl
    | cons hpq _ ih => simp only [List.any_cons, hpq.1, ih]
  have hm : ∀ {kvs : List (κ × D)} {ws : List (κ × V)}, KRep K φ H kvs ws → KRep K φ H (kvs.map fun kv => if kv.1 = k then (kv.1, d) else kv) (ws.map fun kv => if kv.1 = k then (kv.1, v) else kv) := fun h => by
    unfold KRep at h ⊢
    induction h with
    | nil => exact .nil
    | @cons p q _ _ hpq _ ih =>
      refine .cons ?_ ih
      by_cases e : p.1 = k
      · have e' : q.1 = k := hpq.1 ▸ e
        simp only [e, e', if_true]
        exact ⟨trivial, r⟩
      · have e' : ¬ q.1 = k := fun z => e (hpq.1.trans z)
        simp only [e, e', if_false]
        exact hpq
  have hp : ∀ {kvs : List (κ × D)} {ws : List (κ × V)}, KRep K φ H kvs ws → KRep K φ H (kvs ++ [(k, d)]) (ws ++ [(k, v)]) := fun h => by
    unfold KRep at h ⊢
    induction h with
    | nil => exact .cons ⟨rfl, r⟩ .nil
    | cons hpq _ ih => exact .cons hpq ih
  unfold setK putK
  rw [ha h]
  split
  · exact hm h
  · exact hp h
end
end Wb

/-! W6: each operation's rule, by plain data. -/
namespace Wb
open PySem PySem.Spec PyProof.Rows L2
variable [PWd]
/-- room for what the operations ask -/
structure Rm (X : Cx) : Prop where
  calm : X.calm = true
  un : X.A.units + 150 < cLine
  gd : X.A.guards = some []
  pP : X.prog = PWd.P
  pW : X.w = PWd.w
theorem Rm.dit {X : Cx} (R : Rm X) : DitP X.prog X.w = DitP PWd.P PWd.w := by rw [R.pP, R.pW]
theorem Rm.ditH {X : Cx} (R : Rm X) {H : Hp} {a : Addr} {ts : List Tri} (d : Dit PWd.P PWd.w H a ts) : Dit X.prog X.w H a ts := by rw [R.pP, R.pW]; exact d
section
variable {X : Cx} {φ : List Addr} {H : Hp} {S S' : Store} {d e z : D} {x y : V} {Q : VK} {K : PySem.W.Frag}
def rCp (K : PySem.W.Frag) (c : Cp) : R2 := fun x y H Q => ∃ (φ : List Addr) (S : Store) (d e z : D), HS K φ H S ∧ Rep K φ H d x ∧ Rep K φ H e y ∧ cpD S c d e = some z ∧ ∀ v, Rep K φ H z v → Q v H
theorem Rep.blv {b : Bool} : Rep K φ H (.bl b) (.bl b) := by simp only [Rep]
omit [PWd] in
theorem map_some {α β : Type} {o : Option α} {f : α → β} {b : β} (h : o.map f = some b) : ∃ a, o = some a ∧ b = f a := by
  obtain ⟨a, h1, h2⟩ := Option.map_eq_some_iff.mp h
  exact ⟨a, h1, h2.symm⟩
theorem cp_sim (R : Rm X) (c : CmpOp) : OpR X (compareOp c) (rCp X.K (cpOf c)) := by
  intro pins s σ H x y v u Q I rx ry h
  obtain ⟨φ, S, d, e, z, hs, rd, re, ho, q⟩ := h
  have hu := R.un
  have fin : ∀ {b : Bool}, z = .bl b → Q (.bl b) H := fun h => by subst h; exact q _ Rep.blv
  -- membership
  have mem : ∀ {c : CmpOp} {neg : Bool}, (c = .In ∧ neg = false) ∨ (c = .NotIn ∧ neg = true) → (∀ {b : Bool}, (if neg then noB b else .bl b) = z → Q (if neg then .bl (!b) else .bl b) H) →
      (∃ xs vs ps qs a, e = .tup xs ∧ y = .ref a ∧ Tp H a vs ∧ Reps X.K φ H xs vs ∧ pyOk S d = some ps ∧ pyOks S xs = some qs ∧ (if neg then noB (qs.any fun w => PyData.eqv w ps) else .bl (qs.any fun w => PyData.eqv w ps)) = z) ∨
      (∃ xs vs ps qs a, y = .ref a ∧ H a = some (.lst vs) ∧ Reps X.K φ H xs vs ∧ pyOk S d = some ps ∧ pyOks S xs = some qs ∧ (if neg then noB (qs.any fun w => PyData.eqv w ps) else .bl (qs.any fun w => PyData.eqv w ps)) = z) ∨
      (∃ a o, y = .ref a ∧ DGet H a x o ∧ (if neg then noB o.isSome else .bl o.isSome) = z) ∨
      (∃ a b ts k, y = .ref a ∧ x = .ref b ∧ Dit X.prog X.w H a ts ∧ Tp H b (k.map kV) ∧ (if neg then noB (valDit ts k).isSome else .bl (valDit ts k).isSome) = z) →
      wpAny (model X.prog X.w) X.A (compareOp c v u) (EP X pins σ Q) X.xe s := by
    intro c neg hc hq hh
    rcases hh with ⟨xs, vs, ps, qs, a, rfl, rfl, ha, hr, h1, h2, h3⟩ | ⟨xs, vs, ps, qs, a, rfl, ha, hr, h1, h2, h3⟩ | ⟨a, o, rfl, g, h3⟩ | ⟨a, b, ts, k, rfl, rfl, g, kb, h3⟩
    · obtain ⟨p1, s1⟩ := pyOk_dp hs h1 rd
      obtain ⟨p2, s2⟩ := pyOks_dp hs h2 hr
      have q' := hq h3
      rcases hc with ⟨rfl, rfl⟩ | ⟨rfl, rfl⟩
      · exact (inT_sim (by omega)).1 pins s σ H _ _ v u Q I rx ry ⟨ps, qs, p1, .tup ha.sq p2, s1, s2, by simpa using q'⟩
      · exact (inT_sim (by omega)).2 pins s σ H _ _ v u Q I rx ry ⟨ps, qs, p1, .tup ha.sq p2, s1, s2, by simpa using q'⟩
    · obtain ⟨p1, s1⟩ := pyOk_dp hs h1 rd
      obtain ⟨p2, s2⟩ := pyOks_dp hs h2 hr
      have q' := hq h3
      rcases hc with ⟨rfl, rfl⟩ | ⟨rfl, rfl⟩
      · exact op_inD (by omega) pins s σ H _ _ v u Q I rx ry ⟨ps, qs, p1, .lst (SqL.of ha) p2, s1, s2, by simpa using q'⟩
      · exact op_notInD (by omega) pins s σ H _ _ v u Q I rx ry ⟨ps, qs, p1, .lst (SqL.of ha) p2, s1, s2, by simpa using q'⟩
    · have q' := hq h3
      cases (show u = Value.ref a from ry)
      rcases hc with ⟨rfl, rfl⟩ | ⟨rfl, rfl⟩
      · exact d_in (by omega) I g rx fun s' I' => ⟨.bl _, H, I', rfl, by simpa using q'⟩
      · exact d_notIn (by omega) I g rx fun s' I' => ⟨.bl _, H, I', rfl, by simpa using q'⟩
    · have q' := hq h3
      cases (show u = Value.ref a from ry)
      cases (show v = Value.ref b from rx)
      rcases hc with ⟨rfl, rfl⟩ | ⟨rfl, rfl⟩
      · exact ditIn (by omega) I g kb fun s' I' => ⟨.bl _, H, I', rfl, by simpa using q'⟩
      · exact ditNotIn (by omega) I g kb fun s' I' => ⟨.bl _, H, I', rfl, by simpa using q'⟩
  cases c
  case Eq =>
    simp only [cpOf, cpD] at ho
    obtain ⟨b, h1, h2⟩ := map_some ho
    exact (eqD_sim (b := b) (by omega)).1 pins s σ H _ _ v u Q I rx ry ⟨φ, S, d, e, hs, rd, re, h1, fin h2⟩
  case NotEq =>
    simp only [cpOf, cpD] at ho
    obtain ⟨b, h1, h2⟩ := map_some ho
    exact (eqD_sim (b := b) (by omega)).2 pins s σ H _ _ v u Q I rx ry ⟨φ, S, d, e, hs, rd, re, h1, fin h2⟩
  case Lt =>
    simp only [cpOf, cpD] at ho
    obtain ⟨b, h1, h2⟩ := map_some ho
    cases d <;> cases e <;> simp only [ltD] at h1 <;> try (cases h1; done)
    case int.int i j =>
      cases h1
      simp only [Rep] at rd re
      exact op_lt pins s σ H _ _ v u Q I rx ry ⟨i, j, rd, re, fin h2⟩
    case tup.tup xs ys =>
      split at h1
      · next a b' e1 e2 =>
        cases h1
        simp only [Rep] at rd re
        obtain ⟨p1, vs, rfl, h3, r1⟩ := rd
        obtain ⟨p2, ws, rfl, h4, r2⟩ := re
        rw [r1.ints e1] at h3
        rw [r2.ints e2] at h4
        exact op_ltT (by omega) pins s σ H _ _ v u Q I rx ry ⟨p1, p2, a, b', rfl, rfl, h3.sq, h4.sq, fin h2⟩
      · cases h1
  case LtE =>
    cases d <;> cases e <;> simp only [cpOf, cpD] at ho <;> try (cases ho; done)
    simp only [Rep] at rd re
    cases ho
    exact op_le pins s σ H _ _ v u Q I rx ry ⟨_, _, rd, re, fin rfl⟩
  case Gt =>
    cases d <;> cases e <;> simp only [cpOf, cpD] at ho <;> try (cases ho; done)
    simp only [Rep] at rd re
    cases ho
    exact op_gt pins s σ H _ _ v u Q I rx ry ⟨_, _, rd, re, fin rfl⟩
  case GtE =>
    cases d <;> cases e <;> simp only [cpOf, cpD] at ho <;> try (cases ho; done)
    simp only [Rep] at rd re
    cases ho
    exact op_ge pins s σ H _ _ v u Q I rx ry ⟨_, _, rd, re, fin rfl⟩
  case Is =>
    have key : (e = .non ∧ z = .bl (decide (d = .non))) ∨ ∃ a b, d = .bl a ∧ e = .bl b ∧ z = .bl (decide (a = b)) := by
      cases e <;> cases d <;> simp only [cpOf, cpD] at ho <;> first | (cases ho; done) | (cases ho; exact .inl ⟨rfl, rfl⟩) | (cases ho; exact .inr ⟨_, _, rfl, rfl, rfl⟩)
    rcases key with ⟨rfl, h2⟩ | ⟨a, b, rfl, rfl, h2⟩
    rotate_left
    · simp only [Rep] at rd re
      exact op_is_bl pins s σ H _ _ v u Q I rx ry ⟨a, b, rd, re, fin h2⟩
    simp only [Rep] at re
    refine op_isN pins s σ H _ _ v u Q I rx ry ⟨re, ?_⟩
    have : decide (x = V.non) = decide (d = D.non) := by
      cases d <;> simp only [Rep] at rd
      all_goals first | (subst rd; simp; done) | (obtain ⟨_, rfl, _⟩ := rd; simp; done) | (obtain ⟨_, _, rfl, _⟩ := rd; simp)
    rw [this]; exact fin h2
  case IsNot =>
    have key : (e = .non ∧ z = .bl (!decide (d = .non))) ∨ ∃ a b, d = .bl a ∧ e = .bl b ∧ z = .bl (!decide (a = b)) := by
      cases e <;> cases d <;> simp only [cpOf, cpD] at ho <;> first | (cases ho; done) | (cases ho; exact .inl ⟨rfl, rfl⟩) | (cases ho; exact .inr ⟨_, _, rfl, rfl, rfl⟩)
    rcases key with ⟨rfl, h2⟩ | ⟨a, b, rfl, rfl, h2⟩
    rotate_left
    · simp only [Rep] at rd re
      exact op_isnot_bl pins s σ H _ _ v u Q I rx ry ⟨a, b, rd, re, fin h2⟩
    simp only [Rep] at re
    refine op_notN pins s σ H _ _ v u Q I rx ry ⟨re, ?_⟩
    have : decide (x = V.non) = decide (d = D.non) := by
      cases d <;> simp only [Rep] at rd
      all_goals first | (subst rd; simp; done) | (obtain ⟨_, rfl, _⟩ := rd; simp; done) | (obtain ⟨_, _, rfl, _⟩ := rd; simp)
    rw [this]; exact fin h2
  case In =>
    have hq : ∀ {b : Bool}, (if false = true then noB b else .bl b) = z → Q (if false = true then .bl (!b) else .bl b) H := fun {b} h => by
      have h' : z = .bl b := by simpa using h.symm
      simpa using fin h'
    refine (?_ : _ ∨ _).elim (fun hh => mem (neg := false) (.inl ⟨rfl, rfl⟩) hq hh) id
    cases e with
    | tup xs =>
      left; left
      have ho' : (inD S d xs).map D.bl = some z := by cases d <;> simpa only [cpOf, cpD] using ho
      obtain ⟨b, h1, h2⟩ := map_some ho'
      unfold inD at h1
      split at h1
      · next p q h3 h4 =>
        cases h1
        simp only [Rep] at re
        obtain ⟨a, vs, rfl, ha, hr⟩ := re
        exact ⟨xs, vs, p, q, a, rfl, rfl, ha, hr, h3, h4, by simpa using h2.symm⟩
      · cases h1
    | ref n =>
      left; right
      simp only [Rep] at re
      obtain ⟨a, rfl, ha⟩ := re
      obtain ⟨o, ho1, ro⟩ := hs.sget ha
      simp only [cpOf, cpD, ho1] at ho
      cases o with
      | lst xs =>
        left
        obtain ⟨b, h1, h2⟩ := map_some ho
        unfold inD at h1
        split at h1
        · next p q h3 h4 =>
          cases h1
          obtain ⟨vs, hv, hr⟩ := ro
          exact ⟨xs, vs, p, q, a, rfl, hv, hr, h3, h4, by simpa using h2.symm⟩
        · cases h1
      | dik kvs =>
        right; left
        obtain ⟨k, h1, h2⟩ := map_some ho
        obtain ⟨ws, hv, hr⟩ := ro
        refine ⟨a, valV ws k, rfl, ?_, ?_⟩
        · rw [key_v h1 rd]; exact DGet.k hv
        · rw [← hr.some_ k]; simpa using h2.symm
      | dit kvs =>
        right; right
        cases d <;> simp only at ho <;> try (cases ho; done)
        next ds =>
        obtain ⟨k, h1, h2⟩ := map_some ho
        obtain ⟨ts, hv, hr⟩ := ro
        simp only [Rep] at rd
        obtain ⟨b, vs, rfl, hb, rb⟩ := rd
        rw [keys_v h1 rb] at hb
        exact ⟨a, b, ts, k, rfl, rfl, R.ditH hv, hb, by rw [← valDit_two, ← hr.some_ k]; simpa using h2.symm⟩
    | str t =>
      right
      cases d <;> simp only [cpOf, cpD] at ho <;> try (cases ho; done)
      cases ho
      simp only [Rep] at rd re
      exact op_in_str pins s σ H _ _ v u Q I rx ry ⟨_, _, rd, re, fin rfl⟩
    | _ => exfalso; cases d <;> simp only [cpOf, cpD] at ho <;> cases ho
  case NotIn =>
    have hq : ∀ {b : Bool}, (if true = true then noB b else .bl b) = z → Q (if true = true then .bl (!b) else .bl b) H := fun {b} h => by
      have h' : z = .bl (!b) := by simpa [noB] using h.symm
      simpa using fin h'
    refine (?_ : _ ∨ _).elim (fun hh => mem (neg := true) (.inr ⟨rfl, rfl⟩) hq hh) id
    cases e with
    | tup xs =>
      left; left
      have ho' : (inD S d xs).map noB = some z := by cases d <;> simpa only [cpOf, cpD] using ho
      obtain ⟨b, h1, h2⟩ := map_some ho'
      unfold inD at h1
      split at h1
      · next p q h3 h4 =>
        cases h1
        simp only [Rep] at re
        obtain ⟨a, vs, rfl, ha, hr⟩ := re
        exact ⟨xs, vs, p, q, a, rfl, rfl, ha, hr, h3, h4, by simpa using h2.symm⟩
      · cases h1
    | ref n =>
      left; right
      simp only [Rep] at re
      obtain ⟨a, rfl, ha⟩ := re
      obtain ⟨o, ho1, ro⟩ := hs.sget ha
      simp only [cpOf, cpD, ho1] at ho
      cases o with
      | lst xs =>
        left
        obtain ⟨b, h1, h2⟩ := map_some ho
        unfold inD at h1
        split at h1
        · next p q h3 h4 =>
          cases h1
          obtain ⟨vs, hv, hr⟩ := ro
          exact ⟨xs, vs, p, q, a, rfl, hv, hr, h3, h4, by simpa using h2.symm⟩
        · cases h1
      | dik kvs =>
        right; left
        obtain ⟨k, h1, h2⟩ := map_some ho
        obtain ⟨ws, hv, hr⟩ := ro
        refine ⟨a, valV ws k, rfl, ?_, ?_⟩
        · rw [key_v h1 rd]; exact DGet.k hv
        · rw [← hr.some_ k]; simpa using h2.symm
      | dit kvs =>
        right; right
        cases d <;> simp only at ho <;> try (cases ho; done)
        next ds =>
        obtain ⟨k, h1, h2⟩ := map_some ho
        obtain ⟨ts, hv, hr⟩ := ro
        simp only [Rep] at rd
        obtain ⟨b, vs, rfl, hb, rb⟩ := rd
        rw [keys_v h1 rb] at hb
        exact ⟨a, b, ts, k, rfl, rfl, R.ditH hv, hb, by rw [← valDit_two, ← hr.some_ k]; simpa using h2.symm⟩
    | str t =>
      right
      cases d <;> simp only [cpOf, cpD] at ho <;> try (cases ho; done)
      cases ho
      simp only [Rep] at rd re
      exact op_notin_str pins s σ H _ _ v u Q I rx ry ⟨_, _, rd, re, fin rfl⟩
    | _ => exfalso; cases d <;> simp only [cpOf, cpD] at ho <;> cases ho

/-- a[i] -/
def rIxD (K : PySem.W.Frag) : R2 := fun x y H Q => ∃ (φ : List Addr) (S : Store) (d e z : D), HS K φ H S ∧ Rep K φ H d x ∧ Rep K φ H e y ∧ ixD S d e = some z ∧ ∀ v, Rep K φ H z v → Q v H
theorem Reps.atI_ {ds : List D} {vs : List V} {i : Int} {d : D} (r : Reps K φ H ds vs) (e : atI ds i = some d) : ∃ v, atI vs i = some v ∧ Rep K φ H d v := by
  unfold atI at e ⊢
  obtain ⟨j, h1, h2⟩ := Option.bind_eq_some_iff.mp e
  obtain ⟨v, h3, h4⟩ := r.at_ h2
  exact ⟨v, by rw [r.len, h1]; exact h3, h4⟩
theorem ix_dict (hu : X.A.units + 1 < cLine) : IxR X (fun x y H Q => ∃ a v, x = .ref a ∧ DGet H a y (some v) ∧ Q v H) := by
  intro value slice pins s σ H x y v u Q I rx ry h hs
  obtain ⟨a, w, rfl, g, q⟩ := h
  cases (show v = Value.ref a from rx)
  exact tail_any (dict_typeIs I g) PySem.F.slot_dict_getitem.lookup (d_getItem hu I g ry fun w' s' I' rw' => ⟨w, H, I', rw', q⟩) hs
theorem ix_dit (hu : X.A.units + 1 < cLine) : IxR X (fun x y H Q => ∃ a b ts k v, x = .ref a ∧ y = .ref b ∧ Dit X.prog X.w H a ts ∧ Tp H b (k.map kV) ∧ valDit ts k = some v ∧ Q v H) := by
  intro value slice pins s σ H x y v u Q I rx ry h hs
  obtain ⟨a, b, ts, k, w, rfl, rfl, g, kb, e, q⟩ := h
  cases (show v = Value.ref a from rx)
  cases (show u = Value.ref b from ry)
  have T : s.TypeIs (.ref a) "dict" := by
    obtain ⟨_, _, xs, _, o, es, ep, h1, h2, _⟩ := g.get I.hok
    exact ⟨o, h1, h2.1⟩
  exact tail_any T PySem.F.slot_dict_getitem.lookup (ditGet hu I g kb e fun w' s' I' rw' => ⟨w, H, I', rw', q⟩) hs
theorem ix_sim (R : Rm X) : IxR X (rIxD X.K) := by
  intro value slice pins s σ H x y v u Q I rx ry h hsl
  obtain ⟨φ, S, d, e, z, hs, rd, re, ho, q⟩ := h
  have hu := R.un
  cases d <;> simp only [ixD] at ho <;> try (cases ho; done)
  case tup xs =>
    cases e <;> simp only at ho <;> try (cases ho; done)
    simp only [Rep] at rd re
    obtain ⟨a, vs, rfl, ha, hr⟩ := rd
    obtain ⟨w, h1, h2⟩ := hr.atI_ ho
    exact ix_tup value slice pins s σ H _ _ v u Q I rx ry ⟨a, vs, _, w, rfl, re, ha.sq, h1, q w h2⟩ hsl
  case fix xs =>
    cases e <;> simp only at ho <;> try (cases ho; done)
    simp only [Rep] at rd re
    obtain ⟨a, vs, rfl, ha, hr⟩ := rd
    obtain ⟨w, h1, h2⟩ := hr.atI_ ho
    exact ix_list value slice pins s σ H _ _ v u Q I rx ry ⟨a, vs, _, w, rfl, re, ha.sq, h1, q w h2⟩ hsl
  case str t =>
    cases e <;> simp only at ho <;> try (cases ho; done)
    split at ho
    · next hz =>
      obtain ⟨c, h1, h2⟩ := map_some ho
      simp only [Rep] at rd re
      exact ix_str value slice pins s σ H _ _ v u Q I rx ry ⟨t, _, c, rd, re, sz_top (Nat.le_succ_of_le (small_le hz)), h1, q _ (by rw [h2]; simp only [Rep])⟩ hsl
    · cases ho
  case ref n =>
    simp only [Rep] at rd
    obtain ⟨a, rfl, ha⟩ := rd
    obtain ⟨o, ho1, ro⟩ := hs.sget ha
    rw [ho1] at ho
    cases o with
    | lst xs =>
      cases e <;> simp only at ho <;> try (cases ho; done)
      simp only [Rep] at re
      obtain ⟨vs, hv, hr⟩ := ro
      obtain ⟨w, h1, h2⟩ := hr.atI_ ho
      exact ix_list value slice pins s σ H _ _ v u Q I rx ry ⟨a, vs, _, w, rfl, re, SqL.of hv, h1, q w h2⟩ hsl
    | dik kvs =>
      simp only at ho
      split at ho
      · next k h1 =>
        obtain ⟨ws, hv, hr⟩ := ro
        obtain ⟨w, h2, h3⟩ := hr.val ho
        refine ix_dict (by omega) value slice pins s σ H _ _ v u Q I rx ry ⟨a, w, rfl, ?_, q w h3⟩ hsl
        rw [key_v h1 re, ← h2]; exact DGet.k hv
      · cases ho
    | dit kvs =>
      cases e <;> simp only at ho <;> try (cases ho; done)
      split at ho
      · next k h1 =>
        obtain ⟨ts, hv, hr⟩ := ro
        obtain ⟨w, h2, h3⟩ := hr.val ho
        simp only [Rep] at re
        obtain ⟨b, vs, rfl, hb, rb⟩ := re
        rw [keys_v h1 rb] at hb
        rw [valDit_two] at h2
        exact ix_dit (by omega) value slice pins s σ H _ _ v u Q I rx ry ⟨a, b, ts, k, w, rfl, rfl, R.ditH hv, hb, h2, q w h3⟩ hsl
      · cases ho
/-- o[i] = v -/
def rSetD (K : PySem.W.Frag) : V → V → V → Hp → (Hp → Prop) → Prop := fun o i v H Q => ∃ (φ : List Addr) (S : Store) (d e f : D) (S' : Store), HS K φ H S ∧ Rep K φ H d o ∧ Rep K φ H e i ∧ Rep K φ H f v ∧ setD S d e f = some S' ∧
  ∀ H', Ex φ H φ H' → HS K φ H' S' → Q H'
theorem set_sim (R : Rm X) : PSet X (rSetD X.K) := by
  intro pins s σ H o i w ov iv u Q I ro ri rw h
  obtain ⟨φ, S, d, e, f, S', hs, rd, re, rf, ho, q⟩ := h
  have hu := R.un
  cases d <;> simp only [setD] at ho <;> try (cases ho; done)
  next n =>
  simp only [Rep] at rd
  obtain ⟨a, rfl, ha⟩ := rd
  obtain ⟨ob, ho1, rob⟩ := hs.sget ha
  rw [ho1] at ho
  cases ob with
  | lst xs =>
    cases e <;> simp only at ho <;> try (cases ho; done)
    next k =>
    split at ho
    · next hk =>
      cases ho
      simp only [Rep] at re
      obtain ⟨vs, hv, hr⟩ := rob
      have hm := hs.mutEx (u := HO.lst (vs.set k.toNat w)) ha
      refine set_list pins s σ H _ _ _ ov iv u Q I ro ri rw ⟨a, vs, k, k.toNat, rfl, re, hv, ?_, q _ hm ?_⟩
      · unfold ixN
        rw [if_pos hk.1, if_pos (by rw [hr.len]; exact hk.2)]
      · exact hs.set ho1 ha ⟨_, upd_same, Reps.set (Rep.ext hs hm _ _ rf) _ (Reps.ext hs hm _ _ hr)⟩
    · cases ho
  | dik kvs =>
    simp only at ho
    split at ho
    · next k h1 =>
      split at ho
      · next hz =>
        cases ho
        obtain ⟨ws, hv, hr⟩ := rob
        have hm := hs.mutEx (u := HO.dK (putK ws k w)) ha
        cases (show ov = Value.ref a from ro)
        have hl : ws.length < sizeLine := by
          rw [hr.len]
          have := small_le hz
          have h2 := sz_top (n := kvs.length + 1) (by omega)
          omega
        refine d_setItem (by omega) I (y := i) (v := w) ?_ ri rw fun s' I' => ⟨upd H a (.dK (putK ws k w)), I', q _ hm ?_⟩
        · rw [key_v h1 re]; exact DPut.k hv hl
        · exact hs.set ho1 ha ⟨_, upd_same, KRep.set (KRep.ext hs hm hr) k (Rep.ext hs hm _ _ rf)⟩
      · cases ho
    · cases ho
  | dit kvs =>
    cases e <;> simp only at ho <;> try (cases ho; done)
    split at ho
    · next k h1 =>
      split at ho
      · next hz =>
        cases ho
        obtain ⟨ts, hv, hr⟩ := rob
        cases (show ov = Value.ref a from ro)
        have hl : ts.length < sizeLine := by
          have e1 := hr.len
          rw [List.length_map] at e1
          rw [e1]
          have := small_le hz
          have h2 := sz_top (n := kvs.length + 1) (by omega)
          omega
        simp only [Rep] at re
        obtain ⟨b, vs, rfl, hb, rb⟩ := re
        rw [keys_v h1 rb] at hb
        cases (show iv = Value.ref b from ri)
        have hm := hs.mutEx (u := HO.ext (DitP X.prog X.w a (putDit ts k b w))) ha
        refine ditPut (by omega) I (R.ditH hv) hb hl rw fun s' I' => ⟨_, I', q _ hm ?_⟩
        have e2 := KRep.set (KRep.ext hs hm hr) k (Rep.ext hs hm _ _ rf)
        rw [← putDit_two (b := b)] at e2
        refine hs.set ho1 ha ⟨_, ⟨?_, ditKeys (R.ditH hv) hb⟩, e2⟩
        rw [upd_same, R.dit]
      · cases ho
    · cases ho
theorem Reps.nil_iff {ds : List D} {vs : List V} (r : Reps K φ H ds vs) : vs.isEmpty = ds.isEmpty := by
  have := r.len
  cases vs <;> cases ds <;> simp_all
theorem truth_v {b : Bool} {v : V} (hs : HS K φ H S) (r : Rep K φ H d v) (h : truthD S d = some b) : TruV K v H b := by
  cases d <;> simp only [truthD] at h
  case non => simp only [Rep] at r; subst r; cases h; rfl
  case bl => simp only [Rep] at r; subst r; cases h; rfl
  case int => simp only [Rep] at r; subst r; cases h; rfl
  case str x =>
    simp only [Rep] at r
    subst r
    split at h
    · next hz =>
      cases h
      refine ⟨sz_top (Nat.le_succ_of_le (small_le hz)), ?_⟩
      rcases Nat.eq_zero_or_pos x.length with h0 | h0
      · simp [h0]
      · have h1 : x.length ≠ 0 := by omega
        have h2 : (x.length : Int) ≠ 0 := by omega
        rw [bne_iff_ne.mpr h1, bne_iff_ne.mpr h2]
    · cases h
  case tup xs =>
    simp only [Rep] at r
    obtain ⟨a, vs, rfl, ha, hr⟩ := r
    cases h
    exact .inr (.inl ⟨vs, ha.sq, by rw [hr.nil_iff]⟩)
  case fix xs =>
    simp only [Rep] at r
    obtain ⟨a, vs, rfl, ha, hr⟩ := r
    cases h
    exact .inl ⟨vs, ha.sq, by rw [hr.nil_iff]⟩
  case ref n =>
    simp only [Rep] at r
    obtain ⟨a, rfl, ha⟩ := r
    obtain ⟨o, ho1, ro⟩ := hs.sget ha
    rw [ho1] at h
    cases o with
    | lst xs =>
      cases h
      obtain ⟨vs, hv, hr⟩ := ro
      exact .inl ⟨vs, SqL.of hv, by rw [hr.nil_iff]⟩
    | dik _ => cases h
    | dit _ => cases h
end
end Wb

/-! W7: orders, and calls of built-ins. -/
namespace Wb
open PySem PySem.Spec PyProof.Rows L2
/-! ### sorted lists are one -/
section
variable {α : Type} {le : α → α → Bool}
theorem ins_perm (x : α) : ∀ l : List α, (ins le x l).Perm (x :: l)
  | [] => List.Perm.refl _
  | y :: r => by
    unfold ins
    split
    · exact List.Perm.refl _
    · exact ((ins_perm x r).cons y).trans (List.Perm.swap x y r)
theorem srt_perm : ∀ l : List α, (srt le l).Perm l
  | [] => List.Perm.refl _
  | x :: r => (ins_perm x (srt le r)).trans ((srt_perm r).cons x)
theorem ins_srt (tot : ∀ a b, le a b = true ∨ le b a = true) (tr : ∀ a b c, le a b = true → le b c = true → le a c = true) (x : α) :
    ∀ l : List α, l.Pairwise (fun a b => le a b = true) → (ins le x l).Pairwise (fun a b => le a b = true)
  | [], _ => by simp [ins]
  | y :: r, h => by
    unfold ins
    split
    · next hxy =>
      refine List.pairwise_cons.mpr ⟨fun z hz => ?_, h⟩
      rcases List.mem_cons.mp hz with rfl | hz
      · exact hxy
      · exact tr _ _ _ hxy ((List.pairwise_cons.mp h).1 z hz)
    · next hxy =>
      obtain ⟨h1, h2⟩ := List.pairwise_cons.mp h
      refine List.pairwise_cons.mpr ⟨fun z hz => ?_, ins_srt tot tr x r h2⟩
      rcases List.mem_cons.mp ((ins_perm x r).mem_iff.mp hz) with rfl | hz
      · exact (tot z y).resolve_left hxy
      · exact h1 z hz
theorem srt_srt (tot : ∀ a b, le a b = true ∨ le b a = true) (tr : ∀ a b c, le a b = true → le b c = true → le a c = true) : ∀ l : List α, (srt le l).Pairwise (fun a b => le a b = true)
  | [] => List.Pairwise.nil
  | x :: r => ins_srt tot tr x _ (srt_srt tot tr r)
theorem srt_one (anti : ∀ a b, le a b = true → le b a = true → a = b) : ∀ {l m : List α}, l.Perm m → l.Pairwise (fun a b => le a b = true) → m.Pairwise (fun a b => le a b = true) → l = m
  | [], m, h, _, _ => (List.nil_perm.mp h).symm ▸ rfl
  | x :: l, [], h, _, _ => absurd (List.perm_nil.mp h) (by simp)
  | x :: l, y :: m, h, h1, h2 => by
    obtain ⟨a1, a2⟩ := List.pairwise_cons.mp h1
    obtain ⟨b1, b2⟩ := List.pairwise_cons.mp h2
    have e : x = y := by
      have hx : x ∈ y :: m := h.mem_iff.mp (List.mem_cons_self ..)
      have hy : y ∈ x :: l := h.mem_iff.mpr (List.mem_cons_self ..)
      rcases List.mem_cons.mp hx with e | hx
      · exact e
      · rcases List.mem_cons.mp hy with e | hy
        · exact e.symm
        · exact anti _ _ (a1 y hy) (b1 x hx)
    subst e
    rw [srt_one anti ((List.perm_cons x).mp h) a2 b2]
end
theorem srtI_one {l m : List Int} (h : l.Perm m) (hs : l.Pairwise (· ≤ ·)) : l = srtI m := by
  refine srt_one (le := fun a b : Int => decide (a ≤ b)) (fun a b h1 h2 => ?_) (h.trans (srt_perm m).symm) (hs.imp fun h => decide_eq_true h) (srt_srt (fun a b => ?_) (fun a b c h1 h2 => ?_) m)
  · have := of_decide_eq_true h1; have := of_decide_eq_true h2; omega
  · rcases Int.le_total a b with z | z
    · exact .inl (decide_eq_true z)
    · exact .inr (decide_eq_true z)
  · have := of_decide_eq_true h1; have := of_decide_eq_true h2; exact decide_eq_true (by omega)
theorem lt2_iff {p q : Int × Int} : lt2 p q = true ↔ p.1 < q.1 ∨ (p.1 = q.1 ∧ p.2 < q.2) := by
  unfold lt2
  split
  · next h => simp [h]
  · next h =>
    simp only [decide_eq_true_eq]
    constructor
    · exact fun z => .inl z
    · rintro (z | ⟨z, _⟩)
      · exact z
      · exact absurd z h
theorem le2_iff {p q : Int × Int} : (!lt2 q p) = true ↔ ¬ (q.1 < p.1 ∨ (q.1 = p.1 ∧ q.2 < p.2)) := by
  rw [← lt2_iff]; simp
theorem le2_anti (a b : Int × Int) (h1 : (!lt2 b a) = true) (h2 : (!lt2 a b) = true) : a = b := by
  have := le2_iff.mp h1; have := le2_iff.mp h2
  exact Prod.ext (by omega) (by omega)
theorem le2_tot (a b : Int × Int) : (!lt2 b a) = true ∨ (!lt2 a b) = true := by
  rw [le2_iff, le2_iff]; omega
theorem le2_tr (a b c : Int × Int) (h1 : (!lt2 b a) = true) (h2 : (!lt2 c b) = true) : (!lt2 c a) = true := by
  have := le2_iff.mp h1; have := le2_iff.mp h2
  rw [le2_iff]; omega
theorem srtP_one {l m : List (Int × Int)} (h : l.Perm m) (hs : l.Pairwise fun a b => (!lt2 b a) = true) : l = srtP m :=
  srt_one (le := fun a b => !lt2 b a) le2_anti (h.trans (srt_perm m).symm) hs (srt_srt le2_tot le2_tr m)
theorem mem_dedup {α : Type} [DecidableEq α] {x : α} : ∀ {l : List α}, x ∈ dedup l ↔ x ∈ l
  | [] => by simp [dedup]
  | y :: r => by
    unfold dedup
    split
    · next h =>
      rw [mem_dedup, List.mem_cons]
      constructor
      · exact .inr
      · rintro (rfl | z)
        · exact h
        · exact z
    · next h => rw [List.mem_cons, List.mem_cons, mem_dedup]
theorem dedup_nodup {α : Type} [DecidableEq α] : ∀ l : List α, (dedup l).Nodup
  | [] => List.nodup_nil
  | y :: r => by
    unfold dedup
    split
    · exact dedup_nodup r
    · next h => exact List.nodup_cons.mpr ⟨fun z => h (mem_dedup.mp z), dedup_nodup r⟩
theorem perm_of_nodup {α : Type} [DecidableEq α] : ∀ {l m : List α}, l.Nodup → m.Nodup → (∀ x, x ∈ l ↔ x ∈ m) → l.Perm m
  | [], m, _, _, h => by
    cases m with
    | nil => exact List.Perm.refl _
    | cons y t => exact absurd ((h y).mpr (List.mem_cons_self ..)) (by simp)
  | x :: l, m, h1, h2, h => by
    obtain ⟨a, b⟩ := List.nodup_cons.mp h1
    have hx : x ∈ m := (h x).mp (List.mem_cons_self ..)
    have pm := List.perm_cons_erase hx
    have h3 : (m.erase x).Nodup := h2.erase x
    refine (List.Perm.cons x (perm_of_nodup b h3 fun y => ?_)).trans pm.symm
    rw [h2.mem_erase_iff]
    constructor
    · exact fun hy => ⟨fun e => a (e ▸ hy), (h y).mp (List.mem_cons_of_mem _ hy)⟩
    · rintro ⟨hy, hm⟩
      exact (List.mem_cons.mp ((h y).mpr hm)).resolve_left hy

variable [PWd]
/-! ### lists as they come -/
def LK (K : PySem.W.Frag) (k : Nat) (S : Store) (ds : List D) (H : Hp) (φ' : List Addr) (H' : Hp) (a : Addr) (vs : List V) : Prop :=
  match k with
  | 0 => FixL K H' a vs ∨ H' a = some (.lst vs) ∨ Tp H' a vs
  | 1 => H' a = some (.lst vs) ∧ ∃ n : Nat, φ'[n]? = some a ∧ S[n]? = some (.lst ds)
  | _ => H' a = some (.lst vs) ∧ a ∉ φ' ∧ H a = none
section
variable {X : Cx} {φ : List Addr} {H H0 : Hp} {S S' : Store} {d e z : D} {x y : V} {Q : VK} {K : PySem.W.Frag} {k : Nat} {a : Addr} {vs : List V} {ds : List D}
theorem LK.lst (h : LK K k S ds H0 φ H a vs) (hk : 1 ≤ k) : H a = some (.lst vs) := by
  unfold LK at h
  split at h
  · omega
  · exact h.1
  · exact h.1
theorem LK.any (h : LK K k S ds H0 φ H a vs) : SqL K H a vs ∨ Tp H a vs := by
  unfold LK at h
  split at h
  · rcases h with h | h | h
    · exact .inl h.sq
    · exact .inl (SqL.of h)
    · exact .inr h
  · exact .inl (SqL.of h.1)
  · exact .inl (SqL.of h.1)
/-- what a new list is worth -/
def NxtL (K : PySem.W.Frag) (φ : List Addr) (H : Hp) (S' : Store) (k : Nat) (ds : List D) (Q : VK) : Prop :=
  ∀ (φ' : List Addr) (H' : Hp) (a : Addr) (vs : List V), Ex φ H φ' H' → HS K φ' H' S' → Reps K φ' H' ds vs → LK K k S' ds H φ' H' a vs → Q (.ref a) H'
theorem NxtL.new (h : NxtL K φ H S 2 ds Q) (hs : HS K φ H S) (r : Reps K φ H ds vs) {p : Addr} (hp : H p = none) : Q (.ref p) (upd H p (.lst vs)) := by
  have e : Ex φ H φ (upd H p (.lst vs)) := Ex.new hp
  exact h φ _ p vs e (hs.side hp) (Reps.ext hs e _ _ r) ⟨upd_same, fun z => hs.live z hp, hp⟩
def cName : C → Option String
  | .all => some "all"
  | .any => some "any"
  | .sum => some "sum"
  | .min => some "min"
  | .max => some "max"
  | _ => none
theorem fold_min : ∀ (r : List Int) (i : Int), r.foldl (fun a b => if b < a then b else a) i ∈ i :: r ∧ ∀ y ∈ i :: r, r.foldl (fun a b => if b < a then b else a) i ≤ y
  | [], i => ⟨by simp, fun y hy => by simp at hy; simp [hy]⟩
  | b :: r, i => by
    rw [List.foldl_cons]
    by_cases hc : b < i
    · rw [if_pos hc]
      obtain ⟨h1, h2⟩ := fold_min r b
      refine ⟨List.mem_cons_of_mem _ h1, fun y hy => ?_⟩
      have h3 := h2 b (by simp)
      rcases List.mem_cons.mp hy with z | z
      · omega
      · exact h2 y z
    · rw [if_neg hc]
      obtain ⟨h1, h2⟩ := fold_min r i
      refine ⟨?_, fun y hy => ?_⟩
      · rcases List.mem_cons.mp h1 with z | z
        · rw [z]; simp
        · simp [z]
      have h3 := h2 i (by simp)
      rcases List.mem_cons.mp hy with z | z
      · omega
      · rcases List.mem_cons.mp z with z | z
        · omega
        · exact h2 y (by simp [z])
theorem fold_max : ∀ (r : List Int) (i : Int), r.foldl (fun a b => if a < b then b else a) i ∈ i :: r ∧ ∀ y ∈ i :: r, y ≤ r.foldl (fun a b => if a < b then b else a) i
  | [], i => ⟨by simp, fun y hy => by simp at hy; simp [hy]⟩
  | b :: r, i => by
    rw [List.foldl_cons]
    by_cases hc : i < b
    · rw [if_pos hc]
      obtain ⟨h1, h2⟩ := fold_max r b
      refine ⟨List.mem_cons_of_mem _ h1, fun y hy => ?_⟩
      have h3 := h2 b (by simp)
      rcases List.mem_cons.mp hy with z | z
      · omega
      · exact h2 y z
    · rw [if_neg hc]
      obtain ⟨h1, h2⟩ := fold_max r i
      refine ⟨?_, fun y hy => ?_⟩
      · rcases List.mem_cons.mp h1 with z | z
        · rw [z]; simp
        · simp [z]
      have h3 := h2 i (by simp)
      rcases List.mem_cons.mp hy with z | z
      · omega
      · rcases List.mem_cons.mp z with z | z
        · omega
        · exact h2 y (by simp [z])
def rCon (K : PySem.W.Frag) (c : C) (k : Nat) : List V → Hp → VK → Prop := fun xs H Q => ∃ (φ : List Addr) (S : Store) (ds : List D) (vs : List V) (a : Addr) (z : D) (H0 : Hp), xs = [.ref a] ∧ HS K φ H S ∧ Reps K φ H ds vs ∧ LK K k S ds H0 φ H a vs ∧ conD c ds = some z ∧ Nxt K φ H S z Q
theorem max_sim (R : Rm X) : CallR X (.builtin "max") (rCon X.K .max k) := by
  intro pins s σ H xs us Q I r h'
  obtain ⟨φ, S, ds, vs, a, z, H0, rfl, hs, hr, lk, ho, q⟩ := h'
  simp only [conD] at ho
  split at ho
  · next i l h1 =>
    cases ho
    rw [hr.ints h1] at lk
    have fin : ∀ m, m ∈ i :: l → (∀ y, y ∈ i :: l → y ≤ m) → Q (.int m) H := fun m hm hle => q.same hs (by
      obtain ⟨g1, g2⟩ := fold_max l i
      have h3 := hle _ g1
      have h4 := g2 m hm
      simp only [Rep]
      exact congrArg V.int (Int.le_antisymm h4 h3))
    rcases lk.any with z | z
    · exact cr_max R.calm pins s σ H _ us Q I r ⟨a, i :: l, rfl, z, by simp, fin⟩
    · exact cr_maxTup R.calm pins s σ H _ us Q I r ⟨a, i :: l, rfl, z.sq, by simp, fin⟩
  · cases ho
theorem con_sim (R : Rm X) {c : C} {n : String} (h : cName c = some n) (hk : 1 ≤ k) (hm : c ≠ .max) : CallR X (.builtin n) (rCon X.K c k) := by
  intro pins s σ H xs us Q I r h'
  obtain ⟨φ, S, ds, vs, a, z, H0, rfl, hs, hr, lk, ho, q⟩ := h'
  have hl := lk.lst hk
  cases c <;> simp only [cName] at h <;> cases h
  case all =>
    obtain ⟨b, h1, h2⟩ := map_some ho
    subst h2
    rw [hr.bools h1] at hl
    exact cr_all R.calm pins s σ H _ us Q I r ⟨a, b, rfl, SqL.of hl, q.same hs (by simp only [Rep])⟩
  case any =>
    obtain ⟨b, h1, h2⟩ := map_some ho
    subst h2
    rw [hr.bools h1] at hl
    exact cr_any R.calm pins s σ H _ us Q I r ⟨a, b, rfl, SqL.of hl, q.same hs (by simp only [Rep])⟩
  case sum =>
    obtain ⟨b, h1, h2⟩ := map_some ho
    subst h2
    rw [hr.ints h1] at hl
    exact cr_sum R.calm pins s σ H _ us Q I r ⟨a, b, rfl, SqL.of hl, q.same hs (by simp only [Rep])⟩
  case min =>
    simp only [conD] at ho
    split at ho
    · next i l h1 =>
      cases ho
      rw [hr.ints h1] at hl
      refine cr_min R.calm pins s σ H _ us Q I r ⟨a, i :: l, rfl, SqL.of hl, by simp, fun m hm hle => q.same hs ?_⟩
      obtain ⟨g1, g2⟩ := fold_min l i
      have h3 := hle _ g1
      have h4 := g2 m hm
      simp only [Rep]
      exact congrArg V.int (Int.le_antisymm h3 h4)
    · cases ho
  case max => exact absurd rfl hm
theorem tup_sim (R : Rm X) : CallR X (.type "tuple") (rCon X.K .tup k) := by
  intro pins s σ H xs us Q I r h'
  obtain ⟨φ, S, ds, vs, a, z, H0, rfl, hs, hr, lk, ho, q⟩ := h'
  cases ho
  rcases lk.any with h | h
  · exact call_tupN pins s σ H _ us Q I r ⟨a, vs, rfl, .inl ⟨h, q.tup hs hr⟩⟩
  · exact call_tupN pins s σ H _ us Q I r ⟨a, vs, rfl, .inr ⟨h.sq, q.same hs (by simp only [Rep]; exact ⟨a, vs, rfl, h, hr⟩)⟩⟩
theorem lenL_sim (R : Rm X) : CallR X (.builtin "len") (rCon X.K .len k) := by
  intro pins s σ H xs us Q I r h'
  obtain ⟨φ, S, ds, vs, a, z, H0, rfl, hs, hr, lk, ho, q⟩ := h'
  cases ho
  refine call_len_seq pins s σ H _ us Q I r ⟨a, vs, rfl, ?_, ?_⟩
  · rcases lk.any with h | h
    · exact .inl h
    · exact .inr h.sq
  · rw [hr.len]; exact q.same hs (by simp only [Rep])
def rList (K : PySem.W.Frag) (k : Nat) (f : List D → Option (List D)) : List V → Hp → VK → Prop := fun xs H Q => ∃ (φ : List Addr) (S : Store) (ds es : List D) (vs : List V) (a : Addr) (H0 : Hp), xs = [.ref a] ∧ HS K φ H S ∧ Reps K φ H ds vs ∧ LK K k S ds H0 φ H a vs ∧ f ds = some es ∧ NxtL K φ H S 2 es Q
theorem list_sim (R : Rm X) : CallR X (.type "list") (rList X.K k some) := by
  intro pins s σ H xs us Q I r h'
  obtain ⟨φ, S, ds, es, vs, a, H0, rfl, hs, hr, lk, ho, q⟩ := h'
  cases ho
  refine call_list_of pins s σ H _ us Q I r ⟨a, vs, rfl, ?_, fun l hl => q.new hs hr hl⟩
  rcases lk.any with h | h
  · exact .inl h
  · exact .inr h.sq
/-- the two ints of a pair that lies in the heap -/
def prOf (H : Hp) : V → Int × Int
  | .ref t => match H t with
    | some (.frz _ (.tup [.int i, .int j])) => (i, j)
    | _ => (0, 0)
  | _ => (0, 0)
theorem Reps.pairs : ∀ {ds : List D} {vs : List V} {ps : List (Int × Int)}, Reps K φ H ds vs → asPairs ds = some ps →
    vs.map (prOf H) = ps ∧ ∀ v ∈ vs, ∃ t, v = V.ref t ∧ Tp H t [.int (prOf H v).1, .int (prOf H v).2]
  | [], vs, ps, h, e => by
    simp only [Reps] at h
    simp [asPairs, mapO] at e
    subst h; subst e
    exact ⟨rfl, fun v hv => by simp at hv⟩
  | d :: ds, vs, ps, h, e => by
    simp only [Reps] at h
    obtain ⟨v, r, rfl, h2, h3⟩ := h
    unfold asPairs mapO at e
    cases q1 : asPair d with
    | none => rw [q1] at e; cases e
    | some p =>
      cases q2 : mapO asPair ds with
      | none => rw [q1, q2] at e; cases e
      | some t =>
        rw [q1, q2] at e
        cases e
        obtain ⟨i1, i2⟩ := Reps.pairs h3 q2
        have hd : d = ofPair p := by
          unfold asPair at q1
          split at q1
          · cases q1; rfl
          · cases q1
        subst hd
        simp only [ofPair, Rep, Reps] at h2
        obtain ⟨a, ws, rfl, ha, v1, r1, rfl, e1, v2, r2, rfl, e2, e3⟩ := h2
        subst e1; subst e2; subst e3
        have hp : prOf H (.ref a) = p := by
          obtain ⟨o, _, e⟩ := ha
          unfold prOf
          simp only [e]
        refine ⟨by rw [List.map_cons, hp, i1], fun w hw => ?_⟩
        rcases List.mem_cons.mp hw with rfl | hw
        · exact ⟨a, rfl, by rw [hp]; exact ha⟩
        · exact i2 w hw
theorem reps_pairs : ∀ {vs : List V}, (∀ v ∈ vs, ∃ t, v = V.ref t ∧ Tp H t [.int (prOf H v).1, .int (prOf H v).2]) → Reps K φ H ((vs.map (prOf H)).map ofPair) vs
  | [], _ => by simp only [List.map_nil, Reps]
  | v :: vs, h => by
    simp only [List.map_cons, Reps]
    refine ⟨v, vs, rfl, ?_, reps_pairs fun w hw => h w (List.mem_cons_of_mem _ hw)⟩
    obtain ⟨t, e, ht⟩ := h v (List.mem_cons_self ..)
    simp only [ofPair, Rep, Reps]
    exact ⟨t, _, e, ht, _, _, rfl, rfl, _, _, rfl, rfl, rfl⟩
theorem lexB_lt2 (p q : Int × Int) : SrtO.lexB p q = lt2 p q := rfl
theorem sorted_sim (R : Rm X) (hk : 1 ≤ k) : CallR X (.builtin "sorted") (rList X.K k sortD) := by
  intro pins s σ H xs us Q I r h'
  obtain ⟨φ, S, ds, es, vs, a, H0, rfl, hs, hr, lk, ho, q⟩ := h'
  have hl := lk.lst hk
  unfold sortD at ho
  split at ho
  · next ns h1 =>
    cases ho
    rw [hr.ints h1] at hl
    refine cr_sortedI pins s σ H _ us Q I r ⟨a, ns, rfl, SqL.of hl, fun ns' p pm pw hp => ?_⟩
    rw [srtI_one pm pw]
    exact q.new hs (reps_ints _) hp
  · split at ho
    · next ps h1 =>
      cases ho
      obtain ⟨e1, e2⟩ := hr.pairs h1
      refine cr_sortN pins s σ H _ us Q I r ⟨a, vs, prOf H, rfl, SqL.of hl, fun v hv => let ⟨t, e, g⟩ := e2 v hv; ⟨t, e, g.sq⟩, fun ys p h3 h4 hp => ?_⟩
      have hy : ∀ v ∈ ys, ∃ t, v = V.ref t ∧ Tp H t [.int (prOf H v).1, .int (prOf H v).2] := fun v hv => e2 v (h4.perm.mem_iff.mp hv)
      have e3 : ys.map (prOf H) = srtP ps := by
        refine srtP_one (by rw [← e1]; exact h4.perm.map _) (List.pairwise_map.mpr (h3.imp fun {u v} h => ?_))
        have h' : SrtO.lexB (prOf H v) (prOf H u) = false := h
        rw [← lexB_lt2, h']; rfl
      have := reps_pairs (K := X.K) (φ := φ) hy
      rw [e3] at this
      exact q.new hs this hp
    · cases ho
end
end Wb

/-! W8: more calls, methods, slices. -/
namespace Wb
open PySem PySem.Spec PyProof.Rows L2
variable [PWd]
section
variable {X : Cx} {φ : List Addr} {H H0 : Hp} {S S' : Store} {d e z : D} {x y : V} {Q : VK} {K : PySem.W.Frag} {k : Nat} {a : Addr} {vs : List V} {ds : List D}
theorem repr_py (R : Rm X) : CallR X (.builtin "repr") (fun xs H Q => ∃ x p, xs = [x] ∧ Dp X.K H x p ∧ SeqAt.shaped p = true ∧ p.showable = true ∧ p.shown.length ≤ sizeLine ∧ Q (.str p.shown) H) := by
  intro pins s σ H xs us Q I r h'
  obtain ⟨x, p, rfl, hp, sh, hs, hz, q⟩ := h'
  obtain ⟨u, rfl, ru⟩ := vals1 r
  obtain ⟨as, hr⟩ := Dp.reads I p x u hp ru
  have hu := R.un
  have hd : p.depth ≤ 64 := SeqAt.depth_of_shaped sh
  have hn : p.hasDict = false := PyData.hasDict_of_canLay p (SeqAt.canLay_of_shaped sh)
  cases hr with
  | none => exact P.repr_of_none ⟨.str _, H, I.tok _, ⟨_, rfl⟩, by simpa only [PyData.shown] using q⟩
  | bool b => exact P.repr_of_bool ⟨.str _, H, I.tok _, ⟨_, rfl⟩, by simpa only [PyData.shown] using q⟩
  | int i t => exact P.repr_of_int (by simpa [PyData.showable] using hs) ⟨.str _, H, I.tok _, ⟨_, rfl⟩, by simpa only [PyData.shown] using q⟩
  | str z t => exact P.repr_of_str (hsz := by simpa only [PyData.shown] using hz) ⟨.str _, H, I.tok _, ⟨_, rfl⟩, by simpa only [PyData.shown] using q⟩
  | list h1 h2 h3 h4 =>
    exact repr_of_reads' (.list h1 h2 h3 h4) hs (PyData.noDict_hsm hn) R.gd (by omega) (fun _ _ e => e) (fun h' u tk kp => ⟨.str _, H, I.kept (t' := tk) kp, ⟨u, rfl⟩, q⟩) hz
  | tuple h1 h2 h3 h4 =>
    exact repr_of_reads' (.tuple h1 h2 h3 h4) hs (PyData.noDict_hsm hn) R.gd (by omega) (fun _ _ e => e) (fun h' u tk kp => ⟨.str _, H, I.kept (t' := tk) kp, ⟨u, rfl⟩, q⟩) hz
  | dict h1 h2 h3 h4 h5 => simp [PyData.hasDict] at hn
def bName : B → Option Value
  | .len => some (.builtin "len")
  | .repr => some (.builtin "repr")
  | .int => some (.type "int")
  | .str => some (.type "str")
  | .abs => some (.builtin "abs")
  | .min2 => some (.builtin "min")
  | .max2 => some (.builtin "max")
  | _ => none
def rBlt (K : PySem.W.Frag) (b : B) : List V → Hp → VK → Prop := fun xs H Q => ∃ (φ : List Addr) (S : Store) (ds : List D) (z : D), HS K φ H S ∧ Reps K φ H ds xs ∧ bltD S b ds = some z ∧ ∀ v, Rep K φ H z v → Q v H
theorem Reps.one_v {v : List V} (h : Reps K φ H [d] v) : ∃ x, v = [x] ∧ Rep K φ H d x := by
  simp only [Reps] at h
  obtain ⟨x, r, rfl, h1, rfl⟩ := h
  exact ⟨x, rfl, h1⟩
theorem Reps.two_v {v : List V} (h : Reps K φ H [d, e] v) : ∃ x y, v = [x, y] ∧ Rep K φ H d x ∧ Rep K φ H e y := by
  simp only [Reps] at h
  obtain ⟨x, r, rfl, h1, y, r2, rfl, h2, rfl⟩ := h
  exact ⟨x, y, rfl, h1, h2⟩
theorem blt_sim (R : Rm X) {b : B} {f : Value} (h : bName b = some f) : CallR X f (rBlt X.K b) := by
  intro pins s σ H xs us Q I r h'
  obtain ⟨φ, S, ds, z, hs, hr, ho, q⟩ := h'
  cases b <;> simp only [bName] at h <;> cases h
  case len =>
    match ds, ho with
    | [.tup ys], ho =>
      simp only [bltD] at ho
      cases ho
      obtain ⟨x, rfl, h1⟩ := hr.one_v
      simp only [Rep] at h1
      obtain ⟨a, vs, rfl, ha, h2⟩ := h1
      exact call_len_seq pins s σ H _ us Q I r ⟨a, vs, rfl, .inr ha.sq, by rw [h2.len]; exact q _ (by simp only [Rep])⟩
    | [.fix ys], ho =>
      simp only [bltD] at ho
      cases ho
      obtain ⟨x, rfl, h1⟩ := hr.one_v
      simp only [Rep] at h1
      obtain ⟨a, vs, rfl, ha, h2⟩ := h1
      exact call_len_seq pins s σ H _ us Q I r ⟨a, vs, rfl, .inl ha.sq, by rw [h2.len]; exact q _ (by simp only [Rep])⟩
    | [.str t], ho =>
      simp only [bltD] at ho
      split at ho
      · next hz =>
        cases ho
        obtain ⟨x, rfl, h1⟩ := hr.one_v
        simp only [Rep] at h1
        subst h1
        exact call_len_str pins s σ H _ us Q I r ⟨t, rfl, sz_top (Nat.le_succ_of_le (small_le hz)), q _ (by simp only [Rep])⟩
      · cases ho
    | [.ref n], ho =>
      simp only [bltD] at ho
      obtain ⟨x, rfl, h1⟩ := hr.one_v
      simp only [Rep] at h1
      obtain ⟨a, rfl, ha⟩ := h1
      obtain ⟨o, ho1, ro⟩ := hs.sget ha
      rw [ho1] at ho
      cases o with
      | lst ys =>
        cases ho
        obtain ⟨vs, hv, h2⟩ := ro
        exact call_len_seq pins s σ H _ us Q I r ⟨a, vs, rfl, .inl (SqL.of hv), by rw [h2.len]; exact q _ (by simp only [Rep])⟩
      | dik kvs =>
        cases ho
        obtain ⟨ws, hv, h2⟩ := ro
        obtain ⟨u, rfl, ru⟩ := vals1 r
        cases (show u = Value.ref a from ru)
        exact d_len I (.inl hv) fun t s' I' => ⟨.int _, H, I', ⟨t, rfl⟩, by rw [h2.len]; exact q _ (by simp only [Rep])⟩
      | dit kvs => cases ho
    | [], ho => simp [bltD] at ho
    | [.non], ho => simp [bltD] at ho
    | [.bl _], ho => simp [bltD] at ho
    | [.int _], ho => simp [bltD] at ho
    | a :: b :: t, ho => cases a <;> simp [bltD] at ho
  case repr =>
    match ds, ho with
    | [d], ho =>
      have ho' : reprD S d = some z := by cases d <;> simpa only [bltD] using ho
      unfold reprD at ho'
      split at ho'
      · next p h1 =>
        split at ho'
        · next h2 =>
          cases ho'
          simp only [Bool.and_eq_true] at h2
          obtain ⟨x, rfl, h3⟩ := hr.one_v
          obtain ⟨h4, h5⟩ := pyOk_dp hs h1 h3
          exact repr_py R pins s σ H _ us Q I r ⟨x, p, rfl, h4, h5, h2.1, sz_top (Nat.le_succ_of_le (small_le h2.2)), q _ (by simp only [Rep])⟩
        · cases ho'
      · cases ho'
    | [], ho => simp [bltD] at ho
    | a :: b :: t, ho => cases a <;> simp [bltD] at ho
  case int =>
    match ds, ho with
    | [.int i], ho =>
      simp only [bltD] at ho
      cases ho
      obtain ⟨x, rfl, h1⟩ := hr.one_v
      simp only [Rep] at h1
      subst h1
      exact call_int1 pins s σ H _ us Q I r (.inl ⟨i, rfl, q _ (by simp only [Rep])⟩)
    | [.bl b], ho =>
      simp only [bltD] at ho
      cases ho
      obtain ⟨x, rfl, h1⟩ := hr.one_v
      simp only [Rep] at h1
      subst h1
      exact call_int1 pins s σ H _ us Q I r (.inr ⟨b, rfl, q _ (by simp only [Rep])⟩)
    | [], ho => simp [bltD] at ho
    | [.non], ho => simp [bltD] at ho
    | [.str _], ho => simp [bltD] at ho
    | [.tup _], ho => simp [bltD] at ho
    | [.fix _], ho => simp [bltD] at ho
    | [.ref _], ho => simp [bltD] at ho
    | a :: b :: t, ho => cases a <;> simp [bltD] at ho
  case str =>
    match ds, ho with
    | [.int i], ho =>
      simp only [bltD] at ho
      split at ho
      · next hz =>
        cases ho
        obtain ⟨x, rfl, h1⟩ := hr.one_v
        simp only [Rep] at h1
        subst h1
        exact call_str_int pins s σ H _ us Q I r ⟨i, rfl, of_decide_eq_true hz, q _ (by simp only [Rep])⟩
      · cases ho
    | [], ho => simp [bltD] at ho
    | [.bl _], ho => simp [bltD] at ho
    | [.non], ho => simp [bltD] at ho
    | [.str _], ho => simp [bltD] at ho
    | [.tup _], ho => simp [bltD] at ho
    | [.fix _], ho => simp [bltD] at ho
    | [.ref _], ho => simp [bltD] at ho
    | a :: b :: t, ho => cases a <;> simp [bltD] at ho
  case abs =>
    match ds, ho with
    | [.int i], ho =>
      simp only [bltD] at ho
      cases ho
      obtain ⟨x, rfl, h1⟩ := hr.one_v
      simp only [Rep] at h1
      subst h1
      exact call_abs pins s σ H _ us Q I r ⟨i, rfl, q _ (by simp only [Rep])⟩
    | [], ho => simp [bltD] at ho
    | [.bl _], ho => simp [bltD] at ho
    | [.non], ho => simp [bltD] at ho
    | [.str _], ho => simp [bltD] at ho
    | [.tup _], ho => simp [bltD] at ho
    | [.fix _], ho => simp [bltD] at ho
    | [.ref _], ho => simp [bltD] at ho
    | a :: b :: t, ho => cases a <;> simp [bltD] at ho
  case min2 =>
    match ds, ho with
    | [a, b], ho =>
      cases a with
      | int i => cases b with
        | int j =>
          simp only [bltD] at ho
          cases ho
          obtain ⟨x, y, rfl, h1, h2⟩ := hr.two_v
          simp only [Rep] at h1 h2
          subst h1
          subst h2
          exact call_min2 R.calm pins s σ H _ us Q I r ⟨i, j, rfl, q _ (by simp only [Rep])⟩
        | _ => simp [bltD] at ho
      | _ => cases b <;> simp [bltD] at ho
    | [], ho => simp [bltD] at ho
    | [a], ho => cases a <;> simp [bltD] at ho
    | a :: b :: c :: t, ho => cases a <;> cases b <;> simp [bltD] at ho
  case max2 =>
    match ds, ho with
    | [a, b], ho =>
      cases a with
      | int i => cases b with
        | int j =>
          simp only [bltD] at ho
          cases ho
          obtain ⟨x, y, rfl, h1, h2⟩ := hr.two_v
          simp only [Rep] at h1 h2
          subst h1
          subst h2
          exact call_max2 R.calm pins s σ H _ us Q I r ⟨i, j, rfl, q _ (by simp only [Rep])⟩
        | _ => simp [bltD] at ho
      | _ => cases b <;> simp [bltD] at ho
    | [], ho => simp [bltD] at ho
    | [a], ho => cases a <;> simp [bltD] at ho
    | a :: b :: c :: t, ho => cases a <;> cases b <;> simp [bltD] at ho
/-- isinstance -/
def tyN : B → String
  | .isInt => "int"
  | .isBool => "bool"
  | .isStr => "str"
  | .isTup => "tuple"
  | _ => "list"
theorem isi_tp {a : Addr} {vs : List V} {T : String} {k : Bool} {us : List Value} {pins : List (Addr × Obj)} {σ : L2.St} {s : Shared} (I : L2.Inv X pins σ H s) (r : Vals [V.ref a, V.ty T] us) (t : Tp H a vs) (e : kitB "tuple" T = some k) (q : Q (.bl k) H) :
    wpAny (model X.prog X.w) X.A (PySem.call (.builtin "isinstance") us) (EP X pins σ Q) X.xe s := by
  obtain ⟨u1, u2, rfl, r1, r2⟩ := vals2 r
  have e2 := (ClsV.ty T).eq r2
  subst e2
  cases (show u1 = Value.ref a from r1)
  obtain ⟨o, _, g⟩ := t
  obtain ⟨_, _, _, _, o', h1, h2, _⟩ := I.hok a _ g
  exact PySem.W.kia_one PySem.W.kitx_tuple I.kIn ⟨o', h1, h2⟩ (kit_ty e) (fun z => nomatch z) fun tk => ⟨.bl k, H, I.tok tk, rfl, q⟩
theorem isi_dit {a : Addr} {ts : List Tri} {P : Program} {w : World} {T : String} {k : Bool} {us : List Value} {pins : List (Addr × Obj)} {σ : L2.St} {s : Shared} (I : L2.Inv X pins σ H s) (r : Vals [V.ref a, V.ty T] us) (t : Dit P w H a ts) (e : kitB "dict" T = some k) (q : Q (.bl k) H) :
    wpAny (model X.prog X.w) X.A (PySem.call (.builtin "isinstance") us) (EP X pins σ Q) X.xe s := by
  obtain ⟨u1, u2, rfl, r1, r2⟩ := vals2 r
  have e2 := (ClsV.ty T).eq r2
  subst e2
  cases (show u1 = Value.ref a from r1)
  obtain ⟨⟨_, _, _, _, o', _, _, h1, h2, _⟩, _⟩ := I.hok a _ t.1
  exact PySem.W.kia_one PySem.W.kitx_dict I.kIn ⟨o', h1, h2.1⟩ (kit_ty e) (fun z => nomatch z) fun tk => ⟨.bl k, H, I.tok tk, rfl, q⟩
theorem isi_sim : CallR X (.builtin "isinstance") (fun xs H Q => ∃ (φ : List Addr) (S : Store) (d : D) (x : V) (b : B) (k : Bool), xs = [x, .ty (tyN b)] ∧ HS X.K φ H S ∧ Rep X.K φ H d x ∧ isiD S b d = some k ∧ Q (.bl k) H) := by
  intro pins s σ H xs us Q I r h'
  obtain ⟨φ, S, d, x, b, k, rfl, hs, hr, ho, q⟩ := h'
  have go : ∀ {t : String}, TyX X.K H x (.type t) → kitB t (tyN b) = some k → wpAny (model X.prog X.w) X.A (PySem.call (.builtin "isinstance") us) (EP X pins σ Q) X.xe s := fun ty e =>
    call_isi pins s σ H _ us Q I r ⟨x, _, _, _, k, rfl, .ty _, ty, kit_ty e, q⟩
  cases d with
  | non =>
    simp only [Rep] at hr
    subst hr
    cases b <;> simp only [isiD] at ho <;> cases ho <;> exact go (.base .non) (by decide +kernel)
  | bl c =>
    simp only [Rep] at hr
    subst hr
    cases b <;> simp only [isiD] at ho <;> cases ho <;> exact go (.base (.bl c)) (by decide +kernel)
  | int c =>
    simp only [Rep] at hr
    subst hr
    cases b <;> simp only [isiD] at ho <;> cases ho <;> exact go (.base (.int c)) (by decide +kernel)
  | str c =>
    simp only [Rep] at hr
    subst hr
    cases b <;> simp only [isiD] at ho <;> cases ho <;> exact go (.base (.str c)) (by decide +kernel)
  | tup c =>
    simp only [Rep] at hr
    obtain ⟨a, vs, rfl, ha, h2⟩ := hr
    refine isi_tp I r ha (T := tyN b) ?_ q
    cases b <;> simp only [isiD] at ho <;> cases ho <;> decide +kernel
  | fix c =>
    simp only [Rep] at hr
    obtain ⟨a, vs, rfl, ha, h2⟩ := hr
    rcases ha with ⟨o, ha⟩ | ⟨o, its, n, h1, h3, _⟩
    · cases b <;> simp only [isiD] at ho <;> cases ho <;> exact go (.base (.frz ha)) (by decide +kernel)
    · cases b <;> simp only [isiD] at ho <;> cases ho <;> exact go (.kList h1 h3) (by decide +kernel)
  | ref n =>
    simp only [Rep] at hr
    obtain ⟨a, rfl, ha⟩ := hr
    obtain ⟨o, ho1, ro⟩ := hs.sget ha
    cases o with
    | lst ys =>
      obtain ⟨vs, hv, h2⟩ := ro
      cases b <;> simp only [isiD, ho1] at ho <;> cases ho <;> exact go (.base (.lst hv)) (by decide +kernel)
    | dik ys =>
      obtain ⟨vs, hv, h2⟩ := ro
      cases b <;> simp only [isiD, ho1] at ho <;> cases ho <;> exact go (.base (.dK hv)) (by decide +kernel)
    | dit ys =>
      obtain ⟨vs, hv, h2⟩ := ro
      refine isi_dit I r hv (T := tyN b) ?_ q
      cases b <;> simp only [isiD, ho1] at ho <;> cases ho <;> decide +kernel

/-! ### methods -/
def mName : M → Option String
  | .append => some "list.append"
  | .pop => some "list.pop"
  | .popAt => some "list.pop"
  | .clear => some "list.clear"
  | .reverse => some "list.reverse"
  | _ => none
def rMeth (K : PySem.W.Frag) (m : M) : V → List V → Hp → VK → Prop := fun x xs H Q => ∃ (φ : List Addr) (S : Store) (d : D) (ds : List D) (z : D) (S' : Store), HS K φ H S ∧ Rep K φ H d x ∧ Reps K φ H ds xs ∧ methD S m d ds = some (z, S') ∧ Nxt K φ H S' z Q
theorem Reps.dropLast {ds : List D} {vs : List V} (h : Reps K φ H ds vs) : Reps K φ H ds.dropLast vs.dropLast := by
  rw [List.dropLast_eq_take, List.dropLast_eq_take, h.len]; exact h.take _
theorem Reps.eraseIdx : ∀ {ds : List D} {vs : List V} (i : Nat), Reps K φ H ds vs → Reps K φ H (ds.eraseIdx i) (vs.eraseIdx i)
  | [], vs, i, h => by simp only [Reps] at h; rw [h]; simp only [List.eraseIdx_nil, Reps]
  | d :: ds, vs, 0, h => by
    simp only [Reps] at h
    obtain ⟨v, r, rfl, _, h3⟩ := h
    simpa using h3
  | d :: ds, vs, i + 1, h => by
    simp only [Reps] at h
    obtain ⟨v, r, rfl, h2, h3⟩ := h
    simp only [List.eraseIdx_cons_succ, Reps]
    exact ⟨v, r.eraseIdx i, rfl, h2, Reps.eraseIdx i h3⟩
theorem Reps.reverse : ∀ {ds : List D} {vs : List V}, Reps K φ H ds vs → Reps K φ H ds.reverse vs.reverse
  | [], vs, h => by simp only [Reps] at h; rw [h]; simp only [List.reverse_nil, Reps]
  | d :: ds, vs, h => by
    simp only [Reps] at h
    obtain ⟨v, r, rfl, h2, h3⟩ := h
    rw [List.reverse_cons, List.reverse_cons]
    exact Reps.app (Reps.reverse h3) (Reps.one h2)
theorem meth_sim {m : M} {n : String} (h : mName m = some n) : MtR X n (rMeth X.K m) := by
  intro pins s σ H x xs v us Q I rx rs h'
  obtain ⟨φ, S, d, ds, z, S', hs, hd, hr, ho, q⟩ := h'
  cases m <;> simp only [mName] at h <;> cases h
  case append =>
    match d, ds, ho with
    | .ref n, [e], ho =>
      simp only [methD] at ho
      simp only [Rep] at hd
      obtain ⟨a, rfl, ha⟩ := hd
      obtain ⟨o, ho1, ro⟩ := hs.sget ha
      rw [ho1] at ho
      cases o with
      | lst ys =>
        simp only at ho
        split at ho
        · next hz =>
          cases ho
          obtain ⟨vs, hv, h2⟩ := ro
          obtain ⟨w, rfl, h3⟩ := hr.one_v
          have hl : vs.length < sizeLine := by
            have := small_le hz
            have h5 := sz_top (n := ys.length + 1) (by omega)
            rw [h2.len]; omega
          have hm := hs.mutEx (u := HO.lst (vs ++ [w])) ha
          refine mt_append pins s σ H _ _ v us Q I rx rs ⟨a, vs, w, rfl, rfl, hv, hl, q φ _ _ hm ?_ (by simp only [Rep])⟩
          exact hs.set ho1 ha ⟨_, upd_same, Reps.app (Reps.ext hs hm _ _ h2) (Reps.one (Rep.ext hs hm _ _ h3))⟩
        · cases ho
      | dik _ => cases ho
      | dit _ => cases ho
    | .ref n, [], ho => simp [methD] at ho
    | .ref n, _ :: _ :: _, ho => simp [methD] at ho
    | .non, _, ho => simp [methD] at ho
    | .bl _, _, ho => simp [methD] at ho
    | .int _, _, ho => simp [methD] at ho
    | .str _, _, ho => simp [methD] at ho
    | .tup _, _, ho => simp [methD] at ho
    | .fix _, _, ho => simp [methD] at ho
  case pop =>
    match d, ds, ho with
    | .ref n, [], ho =>
      simp only [methD] at ho
      simp only [Rep] at hd
      obtain ⟨a, rfl, ha⟩ := hd
      obtain ⟨o, ho1, ro⟩ := hs.sget ha
      rw [ho1] at ho
      cases o with
      | lst ys =>
        simp only at ho
        split at ho
        · next d hz =>
          cases ho
          obtain ⟨vs, hv, h2⟩ := ro
          simp only [Reps] at hr
          subst hr
          rw [List.getLast?_eq_getElem?] at hz
          obtain ⟨w, h3, h4⟩ := h2.at_ hz
          have hm := hs.mutEx (u := HO.lst vs.dropLast) ha
          refine mt_pop pins s σ H _ _ v us Q I rx rs ⟨a, vs, w, rfl, rfl, hv, by rw [h2.len]; exact h3, q φ _ _ hm ?_ (Rep.ext hs hm _ _ h4)⟩
          exact hs.set ho1 ha ⟨_, upd_same, Reps.dropLast (Reps.ext hs hm _ _ h2)⟩
        · cases ho
      | dik _ => cases ho
      | dit _ => cases ho
    | .ref n, _ :: _, ho => simp [methD] at ho
    | .non, _, ho => simp [methD] at ho
    | .bl _, _, ho => simp [methD] at ho
    | .int _, _, ho => simp [methD] at ho
    | .str _, _, ho => simp [methD] at ho
    | .tup _, _, ho => simp [methD] at ho
    | .fix _, _, ho => simp [methD] at ho
  case popAt =>
    match d, ds, ho with
    | .ref n, [.int i], ho =>
      simp only [methD] at ho
      simp only [Rep] at hd
      obtain ⟨a, rfl, ha⟩ := hd
      obtain ⟨o, ho1, ro⟩ := hs.sget ha
      rw [ho1] at ho
      cases o with
      | lst ys =>
        simp only at ho
        split at ho
        · next hz =>
          obtain ⟨d, h3, h4⟩ := map_some ho
          cases h4
          obtain ⟨vs, hv, h2⟩ := ro
          obtain ⟨w, rfl, h5⟩ := hr.one_v
          simp only [Rep] at h5
          subst h5
          obtain ⟨w, h6, h7⟩ := h2.at_ h3
          have hm := hs.mutEx (u := HO.lst (vs.eraseIdx i.toNat)) ha
          have hl := h2.len
          refine mt_popAt pins s σ H _ _ v us Q I rx rs ⟨a, vs, i, i.toNat, w, rfl, rfl, hv, by omega, by omega, seqIndex_of hz.1 (by omega), h6, q φ _ _ hm ?_ (Rep.ext hs hm _ _ h7)⟩
          exact hs.set ho1 ha ⟨_, upd_same, Reps.eraseIdx _ (Reps.ext hs hm _ _ h2)⟩
        · cases ho
      | dik _ => cases ho
      | dit _ => cases ho
    | .ref n, [], ho => simp [methD] at ho
    | .ref n, [.non], ho => simp [methD] at ho
    | .ref n, [.bl _], ho => simp [methD] at ho
    | .ref n, [.str _], ho => simp [methD] at ho
    | .ref n, [.tup _], ho => simp [methD] at ho
    | .ref n, [.fix _], ho => simp [methD] at ho
    | .ref n, [.ref _], ho => simp [methD] at ho
    | .ref n, a :: _ :: _, ho => cases a <;> simp [methD] at ho
    | .non, _, ho => simp [methD] at ho
    | .bl _, _, ho => simp [methD] at ho
    | .int _, _, ho => simp [methD] at ho
    | .str _, _, ho => simp [methD] at ho
    | .tup _, _, ho => simp [methD] at ho
    | .fix _, _, ho => simp [methD] at ho
  case clear =>
    match d, ds, ho with
    | .ref n, [], ho =>
      simp only [methD] at ho
      simp only [Rep] at hd
      obtain ⟨a, rfl, ha⟩ := hd
      obtain ⟨o, ho1, ro⟩ := hs.sget ha
      rw [ho1] at ho
      cases o with
      | lst ys =>
        cases ho
        obtain ⟨vs, hv, h2⟩ := ro
        simp only [Reps] at hr
        subst hr
        have hm := hs.mutEx (u := HO.lst []) ha
        refine mt_clear pins s σ H _ _ v us Q I rx rs ⟨a, vs, rfl, rfl, hv, q φ _ _ hm ?_ (by simp only [Rep])⟩
        exact hs.set ho1 ha ⟨_, upd_same, by simp only [Reps]⟩
      | dik _ => cases ho
      | dit _ => cases ho
    | .ref n, _ :: _, ho => simp [methD] at ho
    | .non, _, ho => simp [methD] at ho
    | .bl _, _, ho => simp [methD] at ho
    | .int _, _, ho => simp [methD] at ho
    | .str _, _, ho => simp [methD] at ho
    | .tup _, _, ho => simp [methD] at ho
    | .fix _, _, ho => simp [methD] at ho
  case reverse =>
    match d, ds, ho with
    | .ref n, [], ho =>
      simp only [methD] at ho
      simp only [Rep] at hd
      obtain ⟨a, rfl, ha⟩ := hd
      obtain ⟨o, ho1, ro⟩ := hs.sget ha
      rw [ho1] at ho
      cases o with
      | lst ys =>
        cases ho
        obtain ⟨vs, hv, h2⟩ := ro
        simp only [Reps] at hr
        subst hr
        have hm := hs.mutEx (u := HO.lst vs.reverse) ha
        refine mt_reverse pins s σ H _ _ v us Q I rx rs ⟨a, vs, rfl, rfl, hv, q φ _ _ hm ?_ (by simp only [Rep])⟩
        exact hs.set ho1 ha ⟨_, upd_same, Reps.reverse (Reps.ext hs hm _ _ h2)⟩
      | dik _ => cases ho
      | dit _ => cases ho
    | .ref n, _ :: _, ho => simp [methD] at ho
    | .non, _, ho => simp [methD] at ho
    | .bl _, _, ho => simp [methD] at ho
    | .int _, _, ho => simp [methD] at ho
    | .str _, _, ho => simp [methD] at ho
    | .tup _, _, ho => simp [methD] at ho
    | .fix _, _, ho => simp [methD] at ho
/-- xs.extend(a list) -/
def rExt (K : PySem.W.Frag) (k : Nat) : V → List V → Hp → VK → Prop := fun x xs H Q => ∃ (φ : List Addr) (S : Store) (n : Nat) (ys ds : List D) (vs : List V) (b : Addr) (H0 : Hp), HS K φ H S ∧ Rep K φ H (.ref n) x ∧ xs = [.ref b] ∧ Reps K φ H ds vs ∧ LK K k S ds H0 φ H b vs ∧
  S[n]? = some (.lst ys) ∧ small (ys.length + ds.length) = true ∧ Nxt K φ H (S.set n (.lst (ys ++ ds))) .non Q
theorem ext_sim (hk : 1 ≤ k) : MtR X "list.extend" (rExt X.K k) := by
  intro pins s σ H x xs v us Q I rx rs h'
  obtain ⟨φ, S, n, ys, ds, vs, b, H0, hs, hd, rfl, hr, lk, ho1, hz, q⟩ := h'
  simp only [Rep] at hd
  obtain ⟨a, rfl, ha⟩ := hd
  obtain ⟨ws, hv, h2⟩ : ORep X.K φ H (.lst ys) a := hs.ob n _ a ho1 ha
  have hm := hs.mutEx (u := HO.lst (ws ++ vs)) ha
  have l1 := h2.len
  have l2 := hr.len
  refine mt_extend pins s σ H _ _ v us Q I rx rs ⟨a, b, ws, vs, rfl, rfl, hv, lk.lst hk, by rw [l1, l2]; exact sz_top (Nat.le_succ_of_le (small_le hz)), q φ _ _ hm ?_ (by simp only [Rep])⟩
  exact hs.set ho1 ha ⟨_, upd_same, Reps.app (Reps.ext hs hm _ _ h2) (Reps.ext hs hm _ _ hr)⟩

/-! ### lists put together, slices -/
def rCatL (K : PySem.W.Frag) : R2 := fun x y H Q => ∃ (φ : List Addr) (S : Store) (ds es : List D) (vs ws : List V) (a b : Addr), x = .ref a ∧ y = .ref b ∧ HS K φ H S ∧ Reps K φ H ds vs ∧ Reps K φ H es ws ∧ H a = some (.lst vs) ∧ H b = some (.lst ws) ∧ small (ds.length + es.length) = true ∧ NxtL K φ H S 2 (ds ++ es) Q
theorem cat_sim : OpR X (binaryOp .Add) (rCatL X.K) := by
  intro pins s σ H x y v u Q I rx ry h
  obtain ⟨φ, S, ds, es, vs, ws, a, b, rfl, rfl, hs, h1, h2, ha, hb, hz, q⟩ := h
  refine op_cat pins s σ H _ _ v u Q I rx ry ⟨a, b, vs, ws, rfl, rfl, ha, hb, by rw [h1.len, h2.len]; exact sz_top (Nat.le_succ_of_le (small_le hz)), fun p hp => q.new hs (Reps.app h1 h2) hp⟩
theorem Reps.rep (h : Reps K φ H ds vs) : ∀ n : Nat, Reps K φ H (List.replicate n ds).flatten (List.replicate n vs).flatten
  | 0 => by simp only [List.replicate_zero, List.flatten_nil, Reps]
  | n + 1 => by simp only [List.replicate_succ, List.flatten_cons]; exact Reps.app h (Reps.rep h n)
def rRepL (K : PySem.W.Frag) : R2 := fun x y H Q => ∃ (φ : List Addr) (S : Store) (ds : List D) (vs : List V) (a : Addr) (k : Int), x = .ref a ∧ y = .int k ∧ HS K φ H S ∧ Reps K φ H ds vs ∧ H a = some (.lst vs) ∧ ds.length ≤ 1000 ∧ -1000 ≤ k ∧ k ≤ 1000 ∧ NxtL K φ H S 2 (List.replicate k.toNat ds).flatten Q
theorem rep_sim : OpR X (binaryOp .Mult) (rRepL X.K) := by
  intro pins s σ H x y v u Q I rx ry h
  obtain ⟨φ, S, ds, vs, a, k, rfl, rfl, hs, h1, ha, h2, h3, h4, q⟩ := h
  refine op_rep pins s σ H _ _ v u Q I rx ry ⟨a, k, vs, rfl, rfl, ha, by omega, by omega, ?_, fun p hp => q.new hs (h1.rep _) hp⟩
  rw [h1.len]
  have h5 : ds.length * k.toNat ≤ 1000 * 1000 := Nat.mul_le_mul h2 (by omega)
  exact sz_top (by omega)
theorem Reps.cut {lo hi : Option Int} (h : Reps K φ H ds vs) : Reps K φ H (Wb.cut ds lo hi) (cutV vs lo hi) := by
  unfold Wb.cut cutV
  rw [h.len]
  exact (h.drop _).take _
/-- t[lo:hi], s[lo:hi] -/
def rSlD (K : PySem.W.Frag) : V → Option Int → Option Int → Hp → VK → Prop := fun x lo hi H Q => ∃ (φ : List Addr) (S : Store) (d z : D), HS K φ H S ∧ Rep K φ H d x ∧ slD lo hi d = some z ∧ Nxt K φ H S z Q
theorem slD_sim : SlR X (rSlD X.K) := by
  intro pins s σ H x v vl vu lo hi sl Q I rx hsl pl pu h
  obtain ⟨φ, S, d, z, hs, hd, ho, q⟩ := h
  cases d <;> simp only [slD] at ho <;> try (cases ho; done)
  case tup ds =>
    cases ho
    simp only [Rep] at hd
    obtain ⟨a, vs, rfl, ha, hr⟩ := hd
    refine sl_tupN pins s σ H _ v vl vu lo hi sl Q I rx hsl pl pu ⟨a, vs, rfl, ha.sq, fun hw => ?_, fun _ => q.tup hs hr.cut⟩
    have e : cutV vs lo hi = vs := by
      unfold cutV
      rw [hw.1, hw.2]; simp
    have hc := hr.cut (lo := lo) (hi := hi)
    rw [e] at hc
    exact q.same hs (by simp only [Rep]; exact ⟨a, vs, rfl, ha, hc⟩)
  case str t =>
    split at ho
    · next hz =>
      cases ho
      simp only [Rep] at hd
      exact sl_str pins s σ H _ v vl vu lo hi sl Q I rx hsl pl pu ⟨t, hd, sz_top (Nat.le_succ_of_le (small_le hz)), q.same hs (by simp only [Rep])⟩
    · cases ho
/-- a list's slice: a new list -/
def rSlN (K : PySem.W.Frag) : V → Option Int → Option Int → Hp → VK → Prop := fun x lo hi H Q => ∃ (φ : List Addr) (S : Store) (d : D) (ds : List D), HS K φ H S ∧ Rep K φ H d x ∧ listAt S d = some ds ∧ NxtL K φ H S 2 (Wb.cut ds lo hi) Q
theorem slN_sim : SlR X (rSlN X.K) := by
  intro pins s σ H x v vl vu lo hi sl Q I rx hsl pl pu h
  obtain ⟨φ, S, d, ds, hs, hd, ho, q⟩ := h
  cases d <;> simp only [listAt] at ho <;> try (cases ho; done)
  case fix ys =>
    cases ho
    simp only [Rep] at hd
    obtain ⟨a, vs, rfl, ha, hr⟩ := hd
    exact sl_list pins s σ H _ v vl vu lo hi sl Q I rx hsl pl pu ⟨a, vs, rfl, ha.sq, fun p hp => q.new hs hr.cut hp⟩
  case ref n =>
    simp only [Rep] at hd
    obtain ⟨a, rfl, ha⟩ := hd
    obtain ⟨o, ho1, ro⟩ := hs.sget ha
    rw [ho1] at ho
    cases o with
    | lst ys =>
      cases ho
      obtain ⟨vs, hv, hr⟩ := ro
      exact sl_list pins s σ H _ v vl vu lo hi sl Q I rx hsl pl pu ⟨a, vs, rfl, SqL.of hv, fun p hp => q.new hs hr.cut hp⟩
    | dik _ => cases ho
    | dit _ => cases ho
end
end Wb

/-! W9: readings by plain data, one lemma a construct. -/
namespace Wb
open PySem PySem.Spec PyProof.Rows L2
variable [PWd]
section
variable {X : Cx}
theorem _root_.L2.PE.imp {e : Expr} {t t' : TE} (h : PE X e t) (i : ∀ σ H Q, t' σ H Q → t σ H Q) : PE X e t' := ⟨fun pins s σ H Q I q => h.run pins s σ H Q I (i σ H Q q)⟩
theorem _root_.L2.PT.imp {e : Expr} {t t' : TT} (h : PT X e t) (i : ∀ σ H Q, t' σ H Q → t σ H Q) : PT X e t' := ⟨fun pins s σ H Q I q => h.run pins s σ H Q I (i σ H Q q)⟩
theorem _root_.L2.PW.imp {e : Expr} {t t' : TT} (h : PW X e t) (i : ∀ σ H Q, t' σ H Q → t σ H Q) : PW X e t' := ⟨fun wh pins s σ H Q I q => h.run wh pins s σ H Q I (i σ H Q q)⟩
theorem _root_.L2.PA.imp {es : List Expr} {t t' : TA} (h : PA X es t) (i : ∀ σ H Q, t' σ H Q → t σ H Q) : PA X es t' := ⟨fun p pins s σ H Q I q => h.run p pins s σ H Q I (i σ H Q q)⟩
theorem _root_.L2.PO.imp {e : Option Expr} {t t' : TO} (h : PO X e t) (i : ∀ σ H Q, t' σ H Q → t σ H Q) : PO X e t' := ⟨fun pins s σ H Q I q => h.run pins s σ H Q I (i σ H Q q)⟩
theorem _root_.L2.PG.imp {e : Expr} {t t' : TG} (h : PG X e t) (i : ∀ v σ H Q, t' v σ H Q → t v σ H Q) : PG X e t' := ⟨fun pins s σ H v u Q I r q => h.run pins s σ H v u Q I r (i v σ H Q q)⟩
theorem _root_.L2.PGs.imp {es : List Expr} {t t' : TGs} (h : PGs X es t) (i : ∀ vs σ H Q, t' vs σ H Q → t vs σ H Q) : PGs X es t' := ⟨fun pins s σ H vs us Q I r q => h.run pins s σ H vs us Q I r (i vs σ H Q q)⟩
theorem _root_.L2.PI.imp {tg e : Expr} {t t' : TI} (h : PI X tg e t) (i : ∀ σ H Q, t' σ H Q → t σ H Q) : PI X tg e t' := ⟨fun pins s σ H R I q => h.run pins s σ H R I (i σ H R q)⟩
theorem _root_.L2.PS.imp {st : Stmt} {t t' : TS} (h : PS X st t) (i : ∀ D σ H, t' D σ H → t D σ H) : PS X st t' := ⟨fun pins s σ H D I q => h.run pins s σ H D I (i D σ H q)⟩
theorem _root_.L2.PSs.imp {st : List Stmt} {t t' : TS} (h : PSs X st t) (i : ∀ D σ H, t' D σ H → t D σ H) : PSs X st t' := ⟨fun pins s σ H D I q => h.run pins s σ H D I (i D σ H q)⟩
end
/-- an expression's reading by plain data -/
def tEv (K : PySem.W.Frag) (ev : Env → Store → Res D) : TE := fun σ H Q => ∃ (φ : List Addr) (r : Env) (S : Store) (d : D) (S' : Store), VS K φ H r σ ∧ HS K φ H S ∧ ev r S = .ok d S' ∧ Nxt K φ H S' d Q
def tTv (K : PySem.W.Frag) (ev : Env → Store → Res Bool) : TT := fun σ H Q => ∃ (φ : List Addr) (r : Env) (S : Store) (b : Bool) (S' : Store), VS K φ H r σ ∧ HS K φ H S ∧ ev r S = .ok b S' ∧ ∀ φ' H', Ex φ H φ' H' → HS K φ' H' S' → Q b H'
def tLv (K : PySem.W.Frag) (k : Nat) (ev : Env → Store → Res (List D)) : TE := fun σ H Q => ∃ (φ : List Addr) (r : Env) (S : Store) (ds : List D) (S' : Store), VS K φ H r σ ∧ HS K φ H S ∧ ev r S = .ok ds S' ∧ NxtL K φ H S' k ds Q
def tAv (K : PySem.W.Frag) (ev : Env → Store → Res (List D)) : TA := fun σ H Q => ∃ (φ : List Addr) (r : Env) (S : Store) (ds : List D) (S' : Store), VS K φ H r σ ∧ HS K φ H S ∧ ev r S = .ok ds S' ∧ ∀ φ' vs H', Ex φ H φ' H' → HS K φ' H' S' → Reps K φ' H' ds vs → Q vs H'
def tOv (K : PySem.W.Frag) (ev : Env → Store → Res (Option Int)) : TO := fun σ H Q => ∃ (φ : List Addr) (r : Env) (S : Store) (o : Option Int) (S' : Store), VS K φ H r σ ∧ HS K φ H S ∧ ev r S = .ok o S' ∧ ∀ φ' H', Ex φ H φ' H' → HS K φ' H' S' → Q o H'
/-- slots outside js stay -/
def Stay (js : List Nat) (σ σ' : L2.St) : Prop := σ'.length = σ.length ∧ ∀ j, j ∉ js → σ'[j]? = σ[j]?
def tGv (K : PySem.W.Frag) (js : List Nat) (ev : D → Env → Store → Res Env) : TG := fun v σ H Q => ∃ (φ : List Addr) (r : Env) (S : Store) (d : D) (r' : Env) (S' : Store), VS K φ H r σ ∧ HS K φ H S ∧ Rep K φ H d v ∧ ev d r S = .ok r' S' ∧
  ∀ φ' σ' H', Ex φ H φ' H' → HS K φ' H' S' → VS K φ' H' r' σ' → Stay js σ σ' → Q σ' H'
def tGsv (K : PySem.W.Frag) (js : List Nat) (ev : List D → Env → Store → Res Env) : TGs := fun vs σ H Q => ∃ (φ : List Addr) (r : Env) (S : Store) (ds : List D) (r' : Env) (S' : Store), VS K φ H r σ ∧ HS K φ H S ∧ Reps K φ H ds vs ∧ ev ds r S = .ok r' S' ∧
  ∀ φ' σ' H', Ex φ H φ' H' → HS K φ' H' S' → VS K φ' H' r' σ' → Stay js σ σ' → Q σ' H'
def EndOk (K : PySem.W.Frag) (φ' : List Addr) (H' : Hp) (D : Ends) : Out → Prop
  | .nx r => ∀ σ, VS K φ' H' r σ → D.nx σ H'
  | .bk r => ∀ σ, VS K φ' H' r σ → D.bk σ H'
  | .ct r => ∀ σ, VS K φ' H' r σ → D.ct σ H'
  | .rt d => ∀ v, Rep K φ' H' d v → D.rt v H'
def tSv (K : PySem.W.Frag) (ev : Env → Store → Res Out) : TS := fun D σ H => ∃ (φ : List Addr) (r : Env) (S : Store) (o : Out) (S' : Store), VS K φ H r σ ∧ HS K φ H S ∧ ev r S = .ok o S' ∧ ∀ φ' H', Ex φ H φ' H' → HS K φ' H' S' → EndOk K φ' H' D o
omit [PWd] in
theorem bind_ok {α β : Type} {m : Res α} {f : α → Store → Res β} {b : β} {S' : Store} (h : m.bind f = .ok b S') : ∃ a S1, m = .ok a S1 ∧ f a S1 = .ok b S' := by
  cases m with
  | ok a S1 => exact ⟨a, S1, rfl, h⟩
  | exc x S1 => cases h
  | bad => cases h
omit [PWd] in
theorem opt_ok {α : Type} {o : Option α} {S S' : Store} {a : α} (h : Res.opt S o = .ok a S') : o = some a ∧ S' = S := by
  cases o with
  | none => cases h
  | some b => cases h; exact ⟨rfl, rfl⟩
section
variable {X : Cx} {K : PySem.W.Frag} {φ φ1 φ' : List Addr} {H H1 H' : Hp} {S S1 S' : Store} {d : D} {Q : VK} {r : Env} {σ : L2.St}
theorem Nxt.of (e : Ex φ H φ1 H1) (h : Nxt K φ H S' d Q) : Nxt K φ1 H1 S' d Q := fun φ' v H' e' => h φ' v H' (e.trans e')
theorem NxtL.of {k : Nat} {ds : List D} (e : Ex φ H φ1 H1) (h : NxtL K φ H S' k ds Q) : NxtL K φ1 H1 S' k ds Q := fun φ' H' a vs e' hs rr lk => h φ' H' a vs (e.trans e') hs rr (by
  match k, lk with
  | 0, lk => exact lk
  | 1, lk => exact lk
  | n + 2, lk => exact ⟨lk.1, lk.2.1, e.live a lk.2.2⟩)
theorem Nxt.mk (h : ∀ φ' v H', Ex φ H φ' H' → HS K φ' H' S' → Rep K φ' H' d v → Q v H') : Nxt K φ H S' d Q := h

/-! ### small ones -/
theorem v_lit {v : V} {t : TE} (ht : ∀ σ H Q, Q v H → t σ H Q) (h : ∀ φ H, Rep K φ H d v) : ∀ σ H Q, tEv K (fun _ s => .ok d s) σ H Q → t σ H Q := fun σ H Q ⟨φ, r, S, d', S', hv, hs, e, q⟩ => by
  cases e
  exact ht σ H Q (q.same hs (h φ H))
theorem v_var {i : Nat} : ∀ σ H Q, tEv K (fun r s => Res.opt s (look r i)) σ H Q → tVar i σ H Q := fun σ H Q ⟨φ, r, S, d, S', hv, hs, e, q⟩ => by
  obtain ⟨e1, rfl⟩ := opt_ok e
  obtain ⟨v, h1, h2⟩ := hv.look e1
  exact ⟨v, h1, q.same hs h2⟩
/-- two in a row -/
theorem v_two {R : V → V → Hp → Prop} {ea eb : Env → Store → Res D} {σ : L2.St} {H : Hp} {α : Type} {f : D → D → Store → Res α} {z : α} {S' : Store} (hv : VS K φ H r σ) (hs : HS K φ H S)
    (e : ((ea r S).bind fun x s1 => (eb r s1).bind fun y s2 => f x y s2) = .ok z S')
    (h : ∀ φ2 H2 S2 x y d e', Ex φ H φ2 H2 → HS K φ2 H2 S2 → VS K φ2 H2 r σ → Rep K φ2 H2 d x → Rep K φ2 H2 e' y → f d e' S2 = .ok z S' → R x y H2) :
    tEv K ea σ H fun x H1 => tEv K eb σ H1 fun y H2 => R x y H2 := by
  obtain ⟨d, S1, e1, e⟩ := bind_ok e
  obtain ⟨e', S2, e2, e3⟩ := bind_ok e
  refine ⟨φ, r, S, d, S1, hv, hs, e1, fun φ1 x H1 x1 hs1 r1 => ?_⟩
  refine ⟨φ1, r, S1, e', S2, hv.ext hs x1, hs1, e2, fun φ2 y H2 x2 hs2 r2 => ?_⟩
  exact h φ2 H2 S2 x y d e' (x1.trans x2) hs2 ((hv.ext hs x1).ext hs1 x2) (Rep.ext hs1 x2 _ _ r1) r2 e3
variable {a b : Expr} {ea eb : Env → Store → Res D} {pos : Pos}
theorem v_op {p : Operator} {o : Op} (hp : opOf p = some o) (ha : PE X a (tEv X.K ea)) (hb : PE X b (tEv X.K eb)) :
    PE X (.BinOp a p b pos) (tEv X.K fun r s => (ea r s).bind fun x s1 => (eb r s1).bind fun y s2 => match opD s2 o x y with
      | some (z, s3) => .ok z s3
      | none => .bad) :=
  (pe_op (op_sim hp) ha hb).imp fun σ H Q ⟨φ, r, S, z, S', hv, hs, e, q⟩ => v_two hv hs e fun φ2 H2 S2 x y d e' x2 hs2 _ r1 r2 e3 => by
    split at e3
    · next z' s3 h1 =>
      cases e3
      exact ⟨φ2, S2, d, e', _, _, hs2, r1, r2, h1, q.of x2⟩
    · cases e3
theorem notSet_mark {op : CmpOp} (h : isSet b = false) : behindInMarks op b = false := by
  cases b <;> first | rfl | (simp [isSet] at h)
theorem v_cp (R : Rm X) (c : CmpOp) (hset : isSet b = false) (ha : PE X a (tEv X.K ea)) (hb : PE X b (tEv X.K eb)) :
    PE X (.Compare a [c] [b] pos) (tEv X.K fun r s => (ea r s).bind fun x s1 => (eb r s1).bind fun y s2 => Res.opt s2 (cpD s2 (cpOf c) x y)) :=
  (pe_cmpR (cp_sim R c) ha hb (notSet_mark hset)).imp fun σ H Q ⟨φ, r, S, z, S', hv, hs, e, q⟩ => v_two hv hs e fun φ2 H2 S2 x y d e' x2 hs2 _ r1 r2 e3 => by
    obtain ⟨h1, rfl⟩ := opt_ok e3
    exact ⟨φ2, _, d, e', _, hs2, r1, r2, h1, fun v hr => (q.of x2).same hs2 hr⟩
theorem v_cpT (R : Rm X) (c : CmpOp) (hset : isSet b = false) (ha : PE X a (tEv X.K ea)) (hb : PE X b (tEv X.K eb)) :
    PT X (.Compare a [c] [b] pos) (tTv X.K fun r s => (ea r s).bind fun x s1 => (eb r s1).bind fun y s2 => Res.opt s2 ((cpD s2 (cpOf c) x y).bind asBool)) :=
  (pt_cmpR (cp_sim R c) ha hb (notSet_mark hset)).imp fun σ H Q ⟨φ, r, S, z, S', hv, hs, e, q⟩ => v_two hv hs e fun φ2 H2 S2 x y d e' x2 hs2 _ r1 r2 e3 => by
    obtain ⟨h1, rfl⟩ := opt_ok e3
    obtain ⟨w, h2, h3⟩ := Option.bind_eq_some_iff.mp h1
    refine ⟨φ2, _, d, e', w, hs2, r1, r2, h2, fun v hr => ?_⟩
    cases w <;> simp only [asBool] at h3 <;> cases h3
    simp only [Rep] at hr
    exact ⟨_, hr, q φ2 H2 x2 hs2⟩
theorem pix_of (h : isSlice b = false) : PlainIx b := by
  cases b <;> first | (intro _ _; rfl) | (simp [isSlice] at h)
theorem v_ix (R : Rm X) (hsl : isSlice b = false) (ha : PE X a (tEv X.K ea)) (hb : PE X b (tEv X.K eb)) :
    PE X (.Subscript a b pos) (tEv X.K fun r s => (ea r s).bind fun x s1 => (eb r s1).bind fun y s2 => Res.opt s2 (ixD s2 x y)) :=
  (pe_ix (ix_sim R) ha hb (pix_of hsl)).imp fun σ H Q ⟨φ, r, S, z, S', hv, hs, e, q⟩ => v_two hv hs e fun φ2 H2 S2 x y d e' x2 hs2 _ r1 r2 e3 => by
    obtain ⟨h1, rfl⟩ := opt_ok e3
    exact ⟨φ2, _, d, e', _, hs2, r1, r2, h1, fun v hr => (q.of x2).same hs2 hr⟩
theorem v_not (ha : PE X a (tEv X.K ea)) : PE X (.UnaryOp .Not a pos) (tEv X.K fun r s => (ea r s).bind fun x s1 => Res.opt s1 ((truthD s1 x).map noB)) :=
  (pe_notT ha).imp fun σ H Q ⟨φ, r, S, z, S', hv, hs, e, q⟩ => by
    obtain ⟨d, S1, e1, e⟩ := bind_ok e
    obtain ⟨e2, rfl⟩ := opt_ok e
    obtain ⟨k, h1, rfl⟩ := map_some e2
    exact ⟨φ, r, S, d, _, hv, hs, e1, fun φ1 x H1 x1 hs1 r1 => ⟨k, truth_v hs1 r1 h1, (q.of x1).same hs1 (by simp only [noB, Rep])⟩⟩
theorem v_neg (ha : PE X a (tEv X.K ea)) : PE X (.UnaryOp .USub a pos) (tEv X.K fun r s => (ea r s).bind fun x s1 => match x with
    | .int i => .ok (.int (-i)) s1
    | _ => .bad) :=
  (pe_un un_neg ha).imp fun σ H Q ⟨φ, r, S, z, S', hv, hs, e, q⟩ => by
    obtain ⟨d, S1, e1, e⟩ := bind_ok e
    cases d <;> simp only at e <;> cases e
    exact ⟨φ, r, S, _, _, hv, hs, e1, fun φ1 x H1 x1 hs1 r1 => ⟨_, by simpa only [Rep] using r1, (q.of x1).same hs1 (by simp only [Rep])⟩⟩
/-- truth of an expression of any kind -/
theorem v_truth (ha : PE X a (tEv X.K ea)) (he : ∀ whole, isTrue a X.env whole = (do let v ← whole; standAt a.pos; holding [v] (truthy v))) :
    PT X a (tTv X.K fun r s => (ea r s).bind fun d s1 => Res.opt s1 (truthD s1 d)) :=
  (pt_truth ha he).imp fun σ H Q ⟨φ, r, S, b, S', hv, hs, e, q⟩ => by
    obtain ⟨d, S1, e1, e⟩ := bind_ok e
    obtain ⟨e2, rfl⟩ := opt_ok e
    exact ⟨φ, r, S, d, _, hv, hs, e1, fun φ1 x H1 x1 hs1 r1 => ⟨b, truth_v hs1 r1 e2, q φ1 H1 x1 hs1⟩⟩
variable {ta tb : Env → Store → Res Bool}
theorem v_notT (ha : PT X a (tTv X.K ta)) : PT X (.UnaryOp .Not a pos) (tTv X.K fun r s => (ta r s).bind fun x s1 => .ok (!x) s1) :=
  (pt_not ha).imp fun σ H Q ⟨φ, r, S, b, S', hv, hs, e, q⟩ => by
    obtain ⟨d, S1, e1, e⟩ := bind_ok e
    cases e
    exact ⟨φ, r, S, d, _, hv, hs, e1, fun φ1 H1 x1 hs1 => q φ1 H1 x1 hs1⟩
variable {rest : List Expr}
theorem v_and (ha : PE X a (tEv X.K ea)) (hb : PE X (.BoolOp .And (b :: rest) pos) (tEv X.K eb)) : PE X (.BoolOp .And (a :: b :: rest) pos) (tEv X.K fun r s => (ea r s).bind fun x s1 => match x with
    | .bl true => eb r s1
    | .bl false => .ok (.bl false) s1
    | _ => .bad) :=
  (pe_and ha hb).imp fun σ H Q ⟨φ, r, S, z, S', hv, hs, e, q⟩ => by
    obtain ⟨d, S1, e1, e⟩ := bind_ok e
    refine ⟨φ, r, S, d, _, hv, hs, e1, fun φ1 x H1 x1 hs1 r1 => ?_⟩
    cases d with
    | bl c =>
      simp only [Rep] at r1
      cases c with
      | true => exact ⟨true, r1, by rw [if_pos rfl]; exact ⟨φ1, r, S1, z, S', hv.ext hs x1, hs1, e, q.of x1⟩⟩
      | false =>
        cases e
        exact ⟨false, r1, by rw [if_neg Bool.false_ne_true]; exact (q.of x1).same hs1 (by simp only [Rep])⟩
    | _ => cases e
theorem v_or (ha : PE X a (tEv X.K ea)) (hb : PE X (.BoolOp .Or (b :: rest) pos) (tEv X.K eb)) : PE X (.BoolOp .Or (a :: b :: rest) pos) (tEv X.K fun r s => (ea r s).bind fun x s1 => match x with
    | .bl false => eb r s1
    | .bl true => .ok (.bl true) s1
    | _ => .bad) :=
  (pe_or ha hb).imp fun σ H Q ⟨φ, r, S, z, S', hv, hs, e, q⟩ => by
    obtain ⟨d, S1, e1, e⟩ := bind_ok e
    refine ⟨φ, r, S, d, _, hv, hs, e1, fun φ1 x H1 x1 hs1 r1 => ?_⟩
    cases d with
    | bl c =>
      simp only [Rep] at r1
      cases c with
      | false => exact ⟨false, r1, by rw [if_neg Bool.false_ne_true]; exact ⟨φ1, r, S1, z, S', hv.ext hs x1, hs1, e, q.of x1⟩⟩
      | true =>
        cases e
        exact ⟨true, r1, by rw [if_pos rfl]; exact (q.of x1).same hs1 (by simp only [Rep])⟩
    | _ => cases e
theorem v_andT (ha : PT X a (tTv X.K ta)) (hb : PW X (.BoolOp .And (b :: rest) pos) (tTv X.K tb)) : PW X (.BoolOp .And (a :: b :: rest) pos) (tTv X.K fun r s => (ta r s).bind fun x s1 => if x then tb r s1 else .ok false s1) :=
  (pw_and ha hb).imp fun σ H Q ⟨φ, r, S, z, S', hv, hs, e, q⟩ => by
    obtain ⟨d, S1, e1, e⟩ := bind_ok e
    refine ⟨φ, r, S, d, _, hv, hs, e1, fun φ1 H1 x1 hs1 => ?_⟩
    cases d with
    | true => rw [if_pos rfl]; exact ⟨φ1, r, S1, z, S', hv.ext hs x1, hs1, e, fun φ2 H2 x2 => q φ2 H2 (x1.trans x2)⟩
    | false =>
      cases e
      rw [if_neg Bool.false_ne_true]; exact q φ1 H1 x1 hs1
theorem v_orT (ha : PT X a (tTv X.K ta)) (hb : PW X (.BoolOp .Or (b :: rest) pos) (tTv X.K tb)) : PW X (.BoolOp .Or (a :: b :: rest) pos) (tTv X.K fun r s => (ta r s).bind fun x s1 => if x then .ok true s1 else tb r s1) :=
  (pw_or ha hb).imp fun σ H Q ⟨φ, r, S, z, S', hv, hs, e, q⟩ => by
    obtain ⟨d, S1, e1, e⟩ := bind_ok e
    refine ⟨φ, r, S, d, _, hv, hs, e1, fun φ1 H1 x1 hs1 => ?_⟩
    cases d with
    | false => rw [if_neg Bool.false_ne_true]; exact ⟨φ1, r, S1, z, S', hv.ext hs x1, hs1, e, fun φ2 H2 x2 => q φ2 H2 (x1.trans x2)⟩
    | true =>
      cases e
      rw [if_pos rfl]; exact q φ1 H1 x1 hs1
theorem v_ite {c : Expr} (hc : PT X c (tTv X.K ta)) (ha : PE X a (tEv X.K ea)) (hb : PE X b (tEv X.K eb)) : PE X (.IfExp c a b pos) (tEv X.K fun r s => (ta r s).bind fun k s1 => if k then ea r s1 else eb r s1) :=
  (pe_ifExp hc ha hb).imp fun σ H Q ⟨φ, r, S, z, S', hv, hs, e, q⟩ => by
    obtain ⟨d, S1, e1, e⟩ := bind_ok e
    refine ⟨φ, r, S, d, _, hv, hs, e1, fun φ1 H1 x1 hs1 => ?_⟩
    cases d with
    | true => rw [if_pos rfl]; exact ⟨φ1, r, S1, z, S', hv.ext hs x1, hs1, e, q.of x1⟩
    | false => rw [if_neg Bool.false_ne_true]; exact ⟨φ1, r, S1, z, S', hv.ext hs x1, hs1, e, q.of x1⟩
theorem notSets_mark {o p : CmpOp} {c : Expr} (h : isSet b = false) (h' : isSet c = false) : lastMarks [o, p] [b, c] = false := by
  show behindInMarks p c = false
  exact notSet_mark h'
theorem v_chain (R : Rm X) (o p : CmpOp) {c : Expr} {ec : Env → Store → Res D} (h1 : isSet b = false) (h2 : isSet c = false) (ha : PE X a (tEv X.K ea)) (hb : PE X b (tEv X.K eb)) (hc : PE X c (tEv X.K ec)) :
    PE X (.Compare a [o, p] [b, c] pos) (tEv X.K fun r s => (ea r s).bind fun x s1 => (eb r s1).bind fun y s2 => match cpD s2 (cpOf o) x y with
      | some (.bl true) => (ec r s2).bind fun z s3 => Res.opt s3 (cpD s3 (cpOf p) y z)
      | some (.bl false) => .ok (.bl false) s2
      | _ => .bad) :=
  (pe_chain (cp_sim R o) (cp_sim R p) ha hb hc (notSets_mark h1 h2)).imp fun σ H Q ⟨φ, r, S, z, S', hv, hs, e, q⟩ => v_two (R := fun x y H2 => rCp X.K (cpOf o) x y H2 _) hv hs e fun φ2 H2 S2 x y d e' x2 hs2 hv2 r1 r2 e3 => by
    split at e3
    · next g1 =>
      refine ⟨φ2, _, d, e', _, hs2, r1, r2, g1, fun v hr => ⟨true, by simpa only [Rep] using hr, ?_⟩⟩
      rw [if_pos rfl]
      obtain ⟨f, S3, e4, e5⟩ := bind_ok e3
      obtain ⟨g2, rfl⟩ := opt_ok e5
      refine ⟨φ2, r, S2, f, _, hv2, hs2, e4, fun φ3 w H3 x3 hs3 r3 => ?_⟩
      exact ⟨φ3, _, e', f, z, hs3, Rep.ext hs2 x3 _ _ r2, r3, g2, fun v hr => (q.of (x2.trans x3)).same hs3 hr⟩
    · next g1 =>
      cases e3
      refine ⟨φ2, _, d, e', _, hs2, r1, r2, g1, fun v hr => ⟨false, by simpa only [Rep] using hr, ?_⟩⟩
      rw [if_neg Bool.false_ne_true]
      exact (q.of x2).same hs2 (by simp only [Rep])
    · cases e3
theorem v_chainT (R : Rm X) (o p : CmpOp) {c : Expr} {ec : Env → Store → Res D} (h1 : isSet b = false) (h2 : isSet c = false) (ha : PE X a (tEv X.K ea)) (hb : PE X b (tEv X.K eb)) (hc : PE X c (tEv X.K ec)) :
    PT X (.Compare a [o, p] [b, c] pos) (tTv X.K fun r s => (ea r s).bind fun x s1 => (eb r s1).bind fun y s2 => match cpD s2 (cpOf o) x y with
      | some (.bl true) => (ec r s2).bind fun z s3 => Res.opt s3 ((cpD s3 (cpOf p) y z).bind asBool)
      | some (.bl false) => .ok false s2
      | _ => .bad) :=
  (pt_chain (cp_sim R o) (cp_sim R p) ha hb hc (notSets_mark h1 h2)).imp fun σ H Q ⟨φ, r, S, z, S', hv, hs, e, q⟩ => v_two (R := fun x y H2 => rCp X.K (cpOf o) x y H2 _) hv hs e fun φ2 H2 S2 x y d e' x2 hs2 hv2 r1 r2 e3 => by
    split at e3
    · next g1 =>
      refine ⟨φ2, _, d, e', _, hs2, r1, r2, g1, fun v hr => ⟨true, by simpa only [Rep] using hr, ?_⟩⟩
      rw [if_pos rfl]
      obtain ⟨f, S3, e4, e5⟩ := bind_ok e3
      obtain ⟨g2, rfl⟩ := opt_ok e5
      obtain ⟨w', g3, g4⟩ := Option.bind_eq_some_iff.mp g2
      refine ⟨φ2, r, S2, f, _, hv2, hs2, e4, fun φ3 w H3 x3 hs3 r3 => ?_⟩
      refine ⟨φ3, _, e', f, w', hs3, Rep.ext hs2 x3 _ _ r2, r3, g3, fun v hr => ?_⟩
      cases w' <;> simp only [asBool] at g4 <;> cases g4
      simp only [Rep] at hr
      exact ⟨_, hr, q φ3 H3 (x2.trans x3) hs3⟩
    · next g1 =>
      cases e3
      refine ⟨φ2, _, d, e', _, hs2, r1, r2, g1, fun v hr => ⟨false, by simpa only [Rep] using hr, ?_⟩⟩
      rw [if_neg Bool.false_ne_true]
      exact ⟨false, rfl, q φ2 H2 x2 hs2⟩
    · cases e3
end
end Wb

/-! W10: readings by plain data: arguments, calls, lists. -/
namespace Wb
open PySem PySem.Spec PyProof.Rows L2
variable [PWd]
theorem star_cons {e : Expr} {es : List Expr} {env : PySem.Env} (h : isStar e = false) : starEach (e :: es) env = (false, eval e env) :: starEach es env := by
  cases e <;> first | rfl | (simp [isStar] at h)
theorem star_none {pos : Pos} {env : PySem.Env} : ∀ {es : List Expr}, es.any isStar = false → (backTo pos (starEach es env)).any (·.1) = false
  | [], _ => rfl
  | e :: es, h => by
    simp only [List.any_cons, Bool.or_eq_false_iff] at h
    rw [star_cons h.1]
    have ih := star_none (pos := pos) (env := env) h.2
    unfold backTo at ih ⊢
    simpa using ih
section
variable {X : Cx} {K : PySem.W.Frag} {φ φ1 φ' : List Addr} {H H1 H' : Hp} {S S1 S' : Store} {d : D} {Q : VK} {r : Env} {σ : L2.St} {a b : Expr} {ea eb : Env → Store → Res D} {pos p : Pos} {k : Nat}
theorem v_argnil : PA X [] (tAv X.K fun _ s => .ok [] s) := pa_nil.imp fun σ H Q ⟨φ, r, S, ds, S', hv, hs, e, q⟩ => by
  cases e
  exact q φ [] H Ex.rfl' hs (by simp only [Reps])
theorem v_argcons {es : List Expr} {eas : Env → Store → Res (List D)} (hst : isStar a = false) (ha : PE X a (tEv X.K ea)) (hr : PA X es (tAv X.K eas)) :
    PA X (a :: es) (tAv X.K fun r s => (ea r s).bind fun x s1 => (eas r s1).bind fun xs s2 => .ok (x :: xs) s2) :=
  (pa_cons ha hr (star_cons hst)).imp fun σ H Q ⟨φ, r, S, ds, S', hv, hs, e, q⟩ => by
    obtain ⟨d, S1, e1, e⟩ := bind_ok e
    obtain ⟨ds', S2, e2, e⟩ := bind_ok e
    cases e
    refine ⟨φ, r, S, d, S1, hv, hs, e1, fun φ1 x H1 x1 hs1 r1 => ⟨φ1, r, S1, ds', _, hv.ext hs x1, hs1, e2, fun φ2 vs H2 x2 hs2 r2 => ?_⟩⟩
    refine q φ2 (x :: vs) H2 (x1.trans x2) hs2 ?_
    simp only [Reps]
    exact ⟨x, vs, rfl, Rep.ext hs1 x2 _ _ r1, r2⟩
variable {eas : Env → Store → Res (List D)}
theorem v_tup {es : List Expr} {j : Nat} (h : PA X es (tAv X.K eas)) : PE X (.Tuple es j pos) (tEv X.K fun r s => (eas r s).bind fun ds s1 => if small ds.length then .ok (.tup ds) s1 else .bad) :=
  (pe_tupN h).imp fun σ H Q ⟨φ, r, S, ds, S', hv, hs, e, q⟩ => by
    obtain ⟨ds, S1, e1, e⟩ := bind_ok e
    split at e
    · next hz =>
      cases e
      exact ⟨φ, r, S, ds, _, hv, hs, e1, fun φ1 vs H1 x1 hs1 r1 => ⟨by rw [r1.len]; exact sz_top (Nat.le_succ_of_le (small_le hz)), (q.of x1).tup hs1 r1⟩⟩
    · cases e
theorem v_disp {es : List Expr} (h : PA X es (tAv X.K eas)) : PE X (.List es pos) (tLv X.K 2 fun r s => (eas r s).bind fun ds s1 => if small ds.length then .ok ds s1 else .bad) :=
  (pe_lst h).imp fun σ H Q ⟨φ, r, S, ds, S', hv, hs, e, q⟩ => by
    obtain ⟨ds, S1, e1, e⟩ := bind_ok e
    split at e
    · next hz =>
      cases e
      exact ⟨φ, r, S, ds, _, hv, hs, e1, fun φ1 vs H1 x1 hs1 r1 => ⟨by rw [r1.len]; exact sz_top (Nat.le_succ_of_le (small_le hz)), fun p hp => (q.of x1).new hs1 r1 hp⟩⟩
    · cases e
/-- a new list gets a name of the store -/
theorem v_newL {el : Env → Store → Res (List D)} (h : PE X a (tLv X.K 2 el)) : PE X a (tEv X.K fun r s => (el r s).bind fun ds s1 => alloc (.lst ds) s1) :=
  h.imp fun σ H Q ⟨φ, r, S, d, S', hv, hs, e, q⟩ => by
    obtain ⟨ds, S1, e1, e⟩ := bind_ok e
    unfold alloc at e
    cases e
    refine ⟨φ, r, S, ds, S1, hv, hs, e1, fun φ1 H1 a vs x1 hs1 r1 lk => ?_⟩
    obtain ⟨l1, l2, l3⟩ := lk
    refine q (φ1 ++ [a]) (.ref a) H1 (x1.reg l3) (hs1.reg l2 ⟨vs, l1, r1⟩) ?_
    simp only [Rep]
    exact ⟨a, rfl, by rw [← hs1.len]; simp⟩
theorem v_of (h : PE X a (tEv X.K ea)) : PE X a (tLv X.K 0 fun r s => (ea r s).bind fun x s1 => Res.opt s1 (seqAt s1 x)) :=
  h.imp fun σ H Q ⟨φ, r, S, ds, S', hv, hs, e, q⟩ => by
    obtain ⟨d, S1, e1, e⟩ := bind_ok e
    obtain ⟨e2, rfl⟩ := opt_ok e
    refine ⟨φ, r, S, d, _, hv, hs, e1, fun φ1 x H1 x1 hs1 r1 => ?_⟩
    cases d <;> simp only [seqAt] at e2 <;> try (cases e2; done)
    case tup xs =>
      cases e2
      simp only [Rep] at r1
      obtain ⟨a, vs, rfl, ha, hr⟩ := r1
      exact q φ1 H1 a vs x1 hs1 hr (.inr (.inr ha))
    case fix xs =>
      cases e2
      simp only [Rep] at r1
      obtain ⟨a, vs, rfl, ha, hr⟩ := r1
      exact q φ1 H1 a vs x1 hs1 hr (.inl ha)
    case ref n =>
      simp only [Rep] at r1
      obtain ⟨a, rfl, ha⟩ := r1
      obtain ⟨o, ho1, ro⟩ := hs1.sget ha
      rw [ho1] at e2
      cases o with
      | lst ys =>
        cases e2
        obtain ⟨vs, hv', hr⟩ := ro
        exact q φ1 H1 a vs x1 hs1 hr (.inr (.inl hv'))
      | dik _ => cases e2
      | dit _ => cases e2
theorem v_ofl (h : PE X a (tEv X.K ea)) : PE X a (tLv X.K 1 fun r s => (ea r s).bind fun x s1 => Res.opt s1 (lstAt s1 x)) :=
  h.imp fun σ H Q ⟨φ, r, S, ds, S', hv, hs, e, q⟩ => by
    obtain ⟨d, S1, e1, e⟩ := bind_ok e
    obtain ⟨e2, rfl⟩ := opt_ok e
    refine ⟨φ, r, S, d, _, hv, hs, e1, fun φ1 x H1 x1 hs1 r1 => ?_⟩
    cases d <;> simp only [lstAt] at e2 <;> try (cases e2; done)
    next n =>
    simp only [Rep] at r1
    obtain ⟨a, rfl, ha⟩ := r1
    obtain ⟨o, ho1, ro⟩ := hs1.sget ha
    rw [ho1] at e2
    cases o with
    | lst ys =>
      cases e2
      obtain ⟨vs, hv', hr⟩ := ro
      exact q φ1 H1 a vs x1 hs1 hr ⟨hv', n, ha, ho1⟩
    | dik _ => cases e2
    | dit _ => cases e2
variable {la lb : Env → Store → Res (List D)} {ka kb : Nat}
theorem v_isi {f : Str} {t : Str} {bk : B} {pt : Pos} (hg : Gl X "isinstance") (hm : X.mg "isinstance" = none) (hgt : Gl X t) (hmt : X.mg t = none) (hb : kindB t = some bk) (hst : isStar a = false) (ha : PE X a (tEv X.K ea)) :
    PE X (.Call (.Name "isinstance" p) [a, .Name t pt] [] pos) (tEv X.K fun r s => (ea r s).bind fun x s1 => Res.opt s1 ((isiD s1 bk x).map .bl)) := by
  have hv : bootBuiltins t = some (.type (tyN bk)) ∧ t ≠ "__name__" ∧ (t == ("__debug__" : Str)) = false := by
    unfold kindB at hb
    split at hb
    · next e => subst e; cases hb; exact ⟨by decide +kernel, by decide, by decide⟩
    · split at hb
      · next e => subst e; cases hb; exact ⟨by decide +kernel, by decide, by decide⟩
      · split at hb
        · next e => subst e; cases hb; exact ⟨by decide +kernel, by decide, by decide⟩
        · split at hb
          · next e => subst e; cases hb; exact ⟨by decide +kernel, by decide, by decide⟩
          · split at hb
            · next e => subst e; cases hb; exact ⟨by decide +kernel, by decide, by decide⟩
            · cases hb
  have ht : PE X (.Name t pt) (tC (.ty (tyN bk))) := pe_bltn hgt hmt hv.1 rfl hv.2.1 hv.2.2
  exact (pe_callB isi_sim hg hm (by decide +kernel) (pa_cons ha (pa_cons ht pa_nil) (star_cons hst)) (by decide) (by decide) (star_cons hst) (star_none (es := [.Name t pt]) rfl)).imp fun σ H Q ⟨φ, r, S, z, S', hv, hs, e, q⟩ => by
    obtain ⟨d, S1, e1, e⟩ := bind_ok e
    obtain ⟨e2, rfl⟩ := opt_ok e
    obtain ⟨c, h1, rfl⟩ := map_some e2
    exact ⟨φ, r, S, d, _, hv, hs, e1, fun φ1 x H1 x1 hs1 r1 => ⟨φ1, _, d, x, bk, c, rfl, hs1, r1, h1, (q.of x1).same hs1 (by simp only [Rep])⟩⟩
/-- a built-in of one list -/
theorem v_con (R : Rm X) {c : C} {f : Str} (hf : c1 f = some c ∨ (f = ("len" : Str) ∧ c = .len)) (hc : c = .tup ∨ c = .len ∨ ((1 ≤ k ∨ c = .max) ∧ (c = .all ∨ c = .any ∨ c = .sum ∨ c = .min ∨ c = .max))) (hg : Gl X f) (hm : X.mg f = none) (hst : isStar a = false) (ha : PE X a (tLv X.K k la)) :
    PE X (.Call (.Name f p) [a] [] pos) (tEv X.K fun r s => (la r s).bind fun ds s1 => Res.opt s1 (conD c ds)) := by
  have key : ∀ {σ H Q}, tEv X.K (fun r s => (la r s).bind fun ds s1 => Res.opt s1 (conD c ds)) σ H Q → tCB (rCon X.K c k) (tCons (tLv X.K k la) tNil) σ H Q := fun {σ H Q} ⟨φ, r, S, z, S', hv, hs, e, q⟩ => by
    obtain ⟨ds, S1, e1, e⟩ := bind_ok e
    obtain ⟨e2, rfl⟩ := opt_ok e
    exact ⟨φ, r, S, ds, _, hv, hs, e1, fun φ1 H1 a vs x1 hs1 r1 lk => ⟨φ1, _, ds, vs, a, z, _, rfl, hs1, r1, lk, e2, q.of x1⟩⟩
  have fc : ∀ {n : String}, f = (n : Str) → cName c = some n → bootBuiltins (n : Str) = some (.builtin n) → (1 ≤ k ∨ c = .max) → (n : Str) ≠ "__name__" → ((n : Str) == ("__debug__" : Str)) = false → PE X (.Call (.Name f p) [a] [] pos) (tEv X.K fun r s => (la r s).bind fun ds s1 => Res.opt s1 (conD c ds)) := fun {n} e1 e2 e3 e4 e5 e6 => by
    subst e1
    have sim : CallR X (.builtin n) (rCon X.K c k) := by
      rcases Decidable.em (c = .max) with z | z
      · subst z; cases e2; exact max_sim R
      · exact con_sim R e2 (e4.resolve_right z) z
    exact (pe_callB sim hg hm e3 (pa_cons ha pa_nil (star_cons hst)) e5 e6 (star_cons hst) rfl).imp fun σ H Q q => key q
  rcases hf with hf | ⟨rfl, rfl⟩
  · unfold c1 at hf
    split at hf
    · next e =>
      subst e; cases hf
      exact (pe_callTy (tup_sim R) hg hm boot_tuple (pa_cons ha pa_nil (star_cons hst)) (by decide) (by decide) (star_cons hst) rfl).imp fun σ H Q q => key q
    · split at hf
      · next e => subst e; cases hf; exact fc rfl rfl (by decide +kernel) (by rcases hc with h | h | h <;> first | (cases h; done) | exact h.1) (by decide) (by decide)
      · split at hf
        · next e => subst e; cases hf; exact fc rfl rfl (by decide +kernel) (by rcases hc with h | h | h <;> first | (cases h; done) | exact h.1) (by decide) (by decide)
        · split at hf
          · next e => subst e; cases hf; exact fc rfl rfl (by decide +kernel) (by rcases hc with h | h | h <;> first | (cases h; done) | exact h.1) (by decide) (by decide)
          · split at hf
            · next e => subst e; cases hf; exact fc rfl rfl (by decide +kernel) (by rcases hc with h | h | h <;> first | (cases h; done) | exact h.1) (by decide) (by decide)
            · split at hf
              · next e => subst e; cases hf; exact fc rfl rfl (by decide +kernel) (by rcases hc with h | h | h <;> first | (cases h; done) | exact h.1) (by decide) (by decide)
              · cases hf
  · exact (pe_callB (lenL_sim R) hg hm boot_len (pa_cons ha pa_nil (star_cons hst)) (by decide) (by decide) (star_cons hst) rfl).imp fun σ H Q q => key q
/-- a built-in of one value -/
theorem v_blt (R : Rm X) {bn : B} {f : Str} {u : Value} (hb : bName bn = some u) (hg : Gl X f) (hm : X.mg f = none) (hv : bootBuiltins f = some u) (hn : f ≠ "__name__") (hdb : (f == ("__debug__" : Str)) = false) (hst : isStar a = false) (ha : PE X a (tEv X.K ea)) :
    PE X (.Call (.Name f p) [a] [] pos) (tEv X.K fun r s => (((ea r s).bind fun x s1 => (Res.ok [] s1).bind fun xs s2 => .ok (x :: xs) s2)).bind fun ds s1 => Res.opt s1 (bltD s1 bn ds)) := by
  have key : ∀ {σ H Q}, tEv X.K (fun r s => (((ea r s).bind fun x s1 => (Res.ok [] s1).bind fun xs s2 => .ok (x :: xs) s2)).bind fun ds s1 => Res.opt s1 (bltD s1 bn ds)) σ H Q → tCB (rBlt X.K bn) (tCons (tEv X.K ea) tNil) σ H Q := fun {σ H Q} ⟨φ, r, S, z, S', hv, hs, e, q⟩ => by
    obtain ⟨ds, S1, e1, e⟩ := bind_ok e
    obtain ⟨d, S0, e0, e1⟩ := bind_ok e1
    simp only [Res.bind_ok] at e1
    cases e1
    obtain ⟨e2, rfl⟩ := opt_ok e
    exact ⟨φ, r, S, d, _, hv, hs, e0, fun φ1 x H1 x1 hs1 r1 => ⟨φ1, _, [d], z, hs1, Reps.one r1, e2, fun v hr => (q.of x1).same hs1 hr⟩⟩
  have hsim := blt_sim R hb
  cases bn <;> simp only [bName] at hb <;> cases hb
  all_goals
    first
      | exact (pe_callB hsim hg hm hv (pa_cons ha pa_nil (star_cons hst)) hn hdb (star_cons hst) rfl).imp fun σ H Q q => key q
      | exact (pe_callTy hsim hg hm hv (pa_cons ha pa_nil (star_cons hst)) hn hdb (star_cons hst) rfl).imp fun σ H Q q => key q
/-- a built-in of two values -/
theorem v_blt2 (R : Rm X) {bn : B} {f : Str} {n : String} (hb : bName bn = some (.builtin n)) (hg : Gl X f) (hm : X.mg f = none) (hv : bootBuiltins f = some (.builtin n)) (hn : f ≠ "__name__") (hdb : (f == ("__debug__" : Str)) = false) (hst : isStar a = false) (hst2 : isStar b = false) (ha : PE X a (tEv X.K ea)) (hb2 : PE X b (tEv X.K eb)) :
    PE X (.Call (.Name f p) [a, b] [] pos) (tEv X.K fun r s => ((ea r s).bind fun x s1 => ((eb r s1).bind fun y s2 => (Res.ok [] s2).bind fun xs s3 => .ok (y :: xs) s3).bind fun xs s2 => .ok (x :: xs) s2).bind fun ds s1 => Res.opt s1 (bltD s1 bn ds)) := by
  refine (pe_callB (blt_sim R hb) hg hm hv (pa_cons ha (pa_cons hb2 pa_nil (star_cons hst2)) (star_cons hst)) hn hdb (star_cons hst) (star_none (by simp [hst2]))).imp fun σ H Q ⟨φ, r, S, z, S', hv, hs, e, q⟩ => ?_
  obtain ⟨ds, S1, e1, e⟩ := bind_ok e
  obtain ⟨x, S2, e2, e1⟩ := bind_ok e1
  obtain ⟨ys, S3, e3, e1⟩ := bind_ok e1
  obtain ⟨y, S4, e4, e3⟩ := bind_ok e3
  simp only [Res.bind_ok] at e3
  cases e3
  cases e1
  obtain ⟨e5, rfl⟩ := opt_ok e
  refine ⟨φ, r, S, x, S2, hv, hs, e2, fun φ1 v H1 x1 hs1 r1 => ⟨φ1, r, S2, y, _, hv.ext hs x1, hs1, e4, fun φ2 w H2 x2 hs2 r2 => ?_⟩⟩
  exact ⟨φ2, _, [x, y], z, hs2, by simp only [Reps]; exact ⟨_, _, rfl, Rep.ext hs1 x2 _ _ r1, _, _, rfl, r2, rfl⟩, e5, fun v hr => (q.of (x1.trans x2)).same hs2 hr⟩
/-- list(xs), sorted(xs) -/
theorem v_list (R : Rm X) (hg : Gl X "list") (hm : X.mg "list" = none) (hst : isStar a = false) (ha : PE X a (tLv X.K k la)) : PE X (.Call (.Name "list" p) [a] [] pos) (tLv X.K 2 la) :=
  (pe_callTy (list_sim R) hg hm boot_list (pa_cons ha pa_nil (star_cons hst)) (by decide) (by decide) (star_cons hst) rfl).imp fun σ H Q ⟨φ, r, S, ds, S', hv, hs, e, q⟩ =>
    ⟨φ, r, S, ds, S', hv, hs, e, fun φ1 H1 a vs x1 hs1 r1 lk => ⟨φ1, _, ds, ds, vs, a, _, rfl, hs1, r1, lk, rfl, q.of x1⟩⟩
theorem v_sorted (R : Rm X) (hk : 1 ≤ k) (hg : Gl X "sorted") (hm : X.mg "sorted" = none) (hst : isStar a = false) (ha : PE X a (tLv X.K k la)) : PE X (.Call (.Name "sorted" p) [a] [] pos) (tLv X.K 2 fun r s => (la r s).bind fun ds s1 => Res.opt s1 (sortD ds)) :=
  (pe_callB (sorted_sim R hk) hg hm boot_sorted (pa_cons ha pa_nil (star_cons hst)) (by decide) (by decide) (star_cons hst) rfl).imp fun σ H Q ⟨φ, r, S, es, S', hv, hs, e, q⟩ => by
    obtain ⟨ds, S1, e1, e⟩ := bind_ok e
    obtain ⟨e2, rfl⟩ := opt_ok e
    exact ⟨φ, r, S, ds, _, hv, hs, e1, fun φ1 H1 a vs x1 hs1 r1 lk => ⟨φ1, _, ds, es, vs, a, _, rfl, hs1, r1, lk, e2, q.of x1⟩⟩
/-- the first list behind the making of the second -/
theorem LK.held {l : Ls} {H0 : Hp} {a : Addr} {vs : List V} {ds : List D} (h : heldL l S S1 = true) (h1 : 1 ≤ l.kd) (lk : LK K l.kd S ds H0 φ H a vs) (e : Ex φ H φ' H') (hs : HS K φ H S) (hs' : HS K φ' H' S1) (hr : Reps K φ H ds vs) : ∃ vs', H' a = some (.lst vs') ∧ Reps K φ' H' ds vs' := by
  unfold heldL at h
  simp only [Bool.or_eq_true, decide_eq_true_eq] at h
  rcases h with h | h
  · rw [h] at lk
    exact ⟨vs, e.keep a _ lk.1 lk.2.1, Reps.ext hs e _ _ hr⟩
  · subst h
    by_cases h2 : l.kd = 1
    · rw [h2] at lk
      obtain ⟨_, n, e1, e2⟩ := lk
      obtain ⟨q, rfl, _⟩ := e.pre
      have e3 : (φ ++ q)[n]? = some a := by rw [List.getElem?_append_left (List.getElem?_eq_some_iff.mp e1).1]; exact e1
      exact hs'.ob n _ a e2 e3
    · have h3 : l.kd = 2 := by
        cases l <;> simp [Ls.kd] at h1 h2 ⊢
      rw [h3] at lk
      exact ⟨vs, e.keep a _ lk.1 lk.2.1, Reps.ext hs e _ _ hr⟩
end
end Wb

/-! W11: readings by plain data: lists put together, slices, ranges, displays, methods. -/
namespace Wb
open PySem PySem.Spec PyProof.Rows L2
variable [PWd]
section
variable {X : Cx} {K : PySem.W.Frag} {φ φ1 φ' : List Addr} {H H1 H' : Hp} {S S1 S' : Store} {d : D} {Q : VK} {r : Env} {σ : L2.St} {a b : Expr} {ea eb : Env → Store → Res D} {la lb : Env → Store → Res (List D)} {pos p : Pos} {k : Nat} {l m : Ls}
theorem v_cat (hl : 1 ≤ l.kd) (hm : 1 ≤ m.kd) (ha : PE X a (tLv X.K l.kd la)) (hb : PE X b (tLv X.K m.kd lb)) :
    PE X (.BinOp a .Add b pos) (tLv X.K 2 fun r s => (la r s).bind fun x s1 => (lb r s1).bind fun y s2 => if heldL l s1 s2 && small (x.length + y.length) then .ok (x ++ y) s2 else .bad) :=
  (pe_op cat_sim ha hb).imp fun σ H Q ⟨φ, r, S, z, S', hv, hs, e, q⟩ => by
    obtain ⟨ds, S1, e1, e⟩ := bind_ok e
    obtain ⟨es, S2, e2, e⟩ := bind_ok e
    split at e
    · next hz =>
      cases e
      simp only [Bool.and_eq_true] at hz
      refine ⟨φ, r, S, ds, S1, hv, hs, e1, fun φ1 H1 a vs x1 hs1 r1 lk => ⟨φ1, r, S1, es, _, hv.ext hs x1, hs1, e2, fun φ2 H2 b ws x2 hs2 r2 lk2 => ?_⟩⟩
      obtain ⟨vs', h1, h2⟩ := LK.held hz.1 hl lk x2 hs1 hs2 r1
      exact ⟨φ2, _, ds, es, vs', ws, a, b, rfl, rfl, hs2, h2, r2, h1, lk2.lst hm, hz.2, q.of (x1.trans x2)⟩
    · cases e
theorem v_rep (hl : 1 ≤ l.kd) (ha : PE X a (tLv X.K l.kd la)) (hb : PE X b (tEv X.K eb)) :
    PE X (.BinOp a .Mult b pos) (tLv X.K 2 fun r s => (la r s).bind fun x s1 => (eb r s1).bind fun y s2 => match y with
    | .int k => if heldL l s1 s2 && decide (x.length ≤ 1000) && decide (-1000 ≤ k) && decide (k ≤ 1000) then .ok (List.replicate k.toNat x).flatten s2 else .bad
    | _ => .bad) :=
  (pe_op rep_sim ha hb).imp fun σ H Q ⟨φ, r, S, z, S', hv, hs, e, q⟩ => by
    obtain ⟨ds, S1, e1, e⟩ := bind_ok e
    obtain ⟨y, S2, e2, e⟩ := bind_ok e
    cases y <;> simp only at e <;> try (cases e; done)
    split at e
    · next hz =>
      cases e
      simp only [Bool.and_eq_true, decide_eq_true_eq] at hz
      obtain ⟨⟨⟨z1, z2⟩, z3⟩, z4⟩ := hz
      refine ⟨φ, r, S, ds, S1, hv, hs, e1, fun φ1 H1 a vs x1 hs1 r1 lk => ⟨φ1, r, S1, _, _, hv.ext hs x1, hs1, e2, fun φ2 w H2 x2 hs2 r2 => ?_⟩⟩
      obtain ⟨vs', h1, h2⟩ := LK.held z1 hl lk x2 hs1 hs2 r1
      exact ⟨φ2, _, ds, vs', a, _, rfl, by simpa only [Rep] using r2, hs2, h2, h1, z2, z3, z4, q.of (x1.trans x2)⟩
    · cases e
theorem eqL_dp (hs : HS K φ H S) {ds es : List D} {vs ws : List V} {a b : Addr} {k : Bool} (h : eqL S ds es = some k) (ha : H a = some (.lst vs)) (hb : H b = some (.lst ws)) (r1 : Reps K φ H ds vs) (r2 : Reps K φ H es ws) :
    ∃ p q, Dp K H (.ref a) p ∧ Dp K H (.ref b) q ∧ SeqAt.shaped p = true ∧ SeqAt.shaped q = true ∧ PyData.eqv p q = k := by
  unfold eqL at h
  split at h
  · next x y h1 h2 =>
    cases h
    obtain ⟨d1, s1⟩ := pyOks_dp hs h1 r1
    obtain ⟨d2, s2⟩ := pyOks_dp hs h2 r2
    exact ⟨_, _, .lst (SqL.of ha) d1, .lst (SqL.of hb) d2, s1, s2, rfl⟩
  · cases h
theorem v_cpL (R : Rm X) {o : CmpOp} (ho : o = .Eq ∨ o = .NotEq) (hset : isSet b = false) (hl : 1 ≤ l.kd) (hm : 1 ≤ m.kd) (ha : PE X a (tLv X.K l.kd la)) (hb : PE X b (tLv X.K m.kd lb)) :
    PE X (.Compare a [o] [b] pos) (tEv X.K fun r s => (la r s).bind fun x s1 => (lb r s1).bind fun y s2 => if heldL l s1 s2 then Res.opt s2 ((eqL s2 x y).map fun k => .bl (if decide (o = .NotEq) then !k else k)) else .bad) ∧
    PT X (.Compare a [o] [b] pos) (tTv X.K fun r s => (la r s).bind fun x s1 => (lb r s1).bind fun y s2 => if heldL l s1 s2 then Res.opt s2 ((eqL s2 x y).map fun k => if decide (o = .NotEq) then !k else k) else .bad) := by
  have hu := R.un
  have key : ∀ {α : Type} {f : Bool → α} {σ : L2.St} {H : Hp} {φ : List Addr} {r : Env} {S S' : Store} {z : α} {G : V → V → Hp → Prop}, VS X.K φ H r σ → HS X.K φ H S → ((la r S).bind fun x s1 => (lb r s1).bind fun y s2 => if heldL l s1 s2 then Res.opt s2 ((eqL s2 x y).map f) else .bad) = .ok z S' →
      (∀ φ2 H2 p q x y k, Ex φ H φ2 H2 → HS X.K φ2 H2 S' → Dp X.K H2 x p → Dp X.K H2 y q → SeqAt.shaped p = true → SeqAt.shaped q = true → PyData.eqv p q = k → z = f k → G x y H2) →
      tLv X.K l.kd la σ H fun x H1 => tLv X.K m.kd lb σ H1 fun y H2 => G x y H2 := by
    intro α f σ H φ r S S' z G hv hs e h
    obtain ⟨ds, S1, e1, e⟩ := bind_ok e
    obtain ⟨es, S2, e2, e⟩ := bind_ok e
    split at e
    · next hz =>
      obtain ⟨e3, rfl⟩ := opt_ok e
      obtain ⟨k, e4, e5⟩ := map_some e3
      refine ⟨φ, r, S, ds, S1, hv, hs, e1, fun φ1 H1 a vs x1 hs1 r1 lk => ⟨φ1, r, S1, es, _, hv.ext hs x1, hs1, e2, fun φ2 H2 b ws x2 hs2 r2 lk2 => ?_⟩⟩
      obtain ⟨vs', h1, h2⟩ := LK.held hz hl lk x2 hs1 hs2 r1
      obtain ⟨p, q, d1, d2, s1, s2, e6⟩ := eqL_dp hs2 e4 h1 (lk2.lst hm) h2 r2
      exact h φ2 H2 p q _ _ k (x1.trans x2) hs2 d1 d2 s1 s2 e6 e5
    · cases e
  rcases ho with rfl | rfl
  · refine ⟨(pe_cmpR (op_eqD (by omega)) ha hb (notSet_mark hset)).imp fun σ H Q ⟨φ, r, S, z, S', hv, hs, e, q⟩ => key hv hs e fun φ2 H2 p w x y k x2 hs2 d1 d2 s1 s2 e6 e5 => ⟨p, w, d1, d2, s1, s2, ?_⟩,
      (pt_cmpR (op_eqD (by omega)) ha hb (notSet_mark hset)).imp fun σ H Q ⟨φ, r, S, z, S', hv, hs, e, q⟩ => key hv hs e fun φ2 H2 p w x y k x2 hs2 d1 d2 s1 s2 e6 e5 => ⟨p, w, d1, d2, s1, s2, _, rfl, ?_⟩⟩
    · subst e5 e6
      exact (q.of x2).same hs2 (by simp only [Rep]; rfl)
    · subst e5 e6
      exact q φ2 H2 x2 hs2
  · refine ⟨(pe_cmpR (op_neD (by omega)) ha hb (notSet_mark hset)).imp fun σ H Q ⟨φ, r, S, z, S', hv, hs, e, q⟩ => key hv hs e fun φ2 H2 p w x y k x2 hs2 d1 d2 s1 s2 e6 e5 => ⟨p, w, d1, d2, s1, s2, ?_⟩,
      (pt_cmpR (op_neD (by omega)) ha hb (notSet_mark hset)).imp fun σ H Q ⟨φ, r, S, z, S', hv, hs, e, q⟩ => key hv hs e fun φ2 H2 p w x y k x2 hs2 d1 d2 s1 s2 e6 e5 => ⟨p, w, d1, d2, s1, s2, _, rfl, ?_⟩⟩
    · subst e5 e6
      exact (q.of x2).same hs2 (by simp only [Rep]; rfl)
    · subst e5 e6
      exact q φ2 H2 x2 hs2
/-! ### slices -/
theorem v_onone : PO X none (tOv X.K fun _ s => .ok none s) := po_none.imp fun σ H Q ⟨φ, r, S, o, S', hv, hs, e, q⟩ => by
  cases e
  exact q φ H Ex.rfl' hs
theorem v_osome (ha : PE X a (tEv X.K ea)) : PO X (some a) (tOv X.K fun r s => (ea r s).bind fun x s1 => match x with
    | .int i => .ok (some i) s1
    | _ => .bad) := (po_some ha).imp fun σ H Q ⟨φ, r, S, o, S', hv, hs, e, q⟩ => by
  obtain ⟨d, S1, e1, e⟩ := bind_ok e
  cases d <;> simp only at e <;> cases e
  exact ⟨φ, r, S, _, _, hv, hs, e1, fun φ1 x H1 x1 hs1 r1 => ⟨_, by simpa only [Rep] using r1, q φ1 H1 x1 hs1⟩⟩
variable {lo hi : Option Expr} {oa ob : Env → Store → Res (Option Int)} {p2 : Pos}
theorem v_sl (ha : PE X a (tEv X.K ea)) (hlo : PO X lo (tOv X.K oa)) (hhi : PO X hi (tOv X.K ob)) :
    PE X (.Subscript a (.Slice lo hi none p2) pos) (tEv X.K fun r s => (ea r s).bind fun x s1 => (oa r s1).bind fun l s2 => (ob r s2).bind fun h s3 => match listAt s3 x with
    | some xs => alloc (.lst (Wb.cut xs l h)) s3
    | none => Res.opt s3 (slD l h x)) :=
  (pe_slice (slD_sim.or slN_sim) ha hlo hhi).imp fun σ H Q ⟨φ, r, S, z, S', hv, hs, e, q⟩ => by
    obtain ⟨d, S1, e1, e⟩ := bind_ok e
    obtain ⟨l, S2, e2, e⟩ := bind_ok e
    obtain ⟨h, S3, e3, e⟩ := bind_ok e
    refine ⟨φ, r, S, d, S1, hv, hs, e1, fun φ1 x H1 x1 hs1 r1 => ⟨φ1, r, S1, l, S2, hv.ext hs x1, hs1, e2, fun φ2 H2 x2 hs2 => ⟨φ2, r, S2, h, S3, (hv.ext hs x1).ext hs1 x2, hs2, e3, fun φ3 H3 x3 hs3 => ?_⟩⟩⟩
    have x13 := x2.trans x3
    have r3 := Rep.ext hs1 x13 _ _ r1
    split at e
    · next xs h1 =>
      unfold alloc at e
      cases e
      refine .inr ⟨φ3, S3, d, xs, hs3, r3, h1, fun φ4 H4 a vs x4 hs4 r4 lk => ?_⟩
      obtain ⟨l1, l2, l3⟩ := lk
      refine (q.of (x1.trans x13)) (φ4 ++ [a]) (.ref a) H4 (x4.reg l3) (hs4.reg l2 ⟨vs, l1, r4⟩) ?_
      simp only [Rep]
      exact ⟨a, rfl, by rw [← hs4.len]; simp⟩
    · obtain ⟨h2, rfl⟩ := opt_ok e
      exact .inl ⟨φ3, _, d, z, hs3, r3, h2, q.of (x1.trans x13)⟩
theorem v_slL (ha : PE X a (tEv X.K ea)) (hlo : PO X lo (tOv X.K oa)) (hhi : PO X hi (tOv X.K ob)) :
    PE X (.Subscript a (.Slice lo hi none p2) pos) (tLv X.K 0 fun r s => (ea r s).bind fun x s1 => (oa r s1).bind fun l s2 => (ob r s2).bind fun h s3 => Res.opt s3 ((seqAt s3 x).map fun xs => Wb.cut xs l h)) :=
  (pe_slice (slD_sim.or slN_sim) ha hlo hhi).imp fun σ H Q ⟨φ, r, S, z, S', hv, hs, e, q⟩ => by
    obtain ⟨d, S1, e1, e⟩ := bind_ok e
    obtain ⟨l, S2, e2, e⟩ := bind_ok e
    obtain ⟨h, S3, e3, e⟩ := bind_ok e
    refine ⟨φ, r, S, d, S1, hv, hs, e1, fun φ1 x H1 x1 hs1 r1 => ⟨φ1, r, S1, l, S2, hv.ext hs x1, hs1, e2, fun φ2 H2 x2 hs2 => ⟨φ2, r, S2, h, S3, (hv.ext hs x1).ext hs1 x2, hs2, e3, fun φ3 H3 x3 hs3 => ?_⟩⟩⟩
    have x13 := x2.trans x3
    have r3 := Rep.ext hs1 x13 _ _ r1
    obtain ⟨h2, rfl⟩ := opt_ok e
    obtain ⟨xs, h3, rfl⟩ := map_some h2
    have q3 := q.of (x1.trans x13)
    have lst : listAt S' d = some xs → rSlD X.K x l h H3 Q ∨ rSlN X.K x l h H3 Q := fun h4 => .inr ⟨φ3, _, d, xs, hs3, r3, h4, fun φ4 H4 a vs x4 hs4 r4 lk => q3 φ4 H4 a vs x4 hs4 r4 (.inr (.inl lk.1))⟩
    cases d <;> simp only [seqAt] at h3 <;> try (cases h3; done)
    case tup ys =>
      cases h3
      refine .inl ⟨φ3, _, _, _, hs3, r3, rfl, fun φ4 w H4 x4 hs4 r4 => ?_⟩
      simp only [Rep] at r4
      obtain ⟨a, vs, rfl, h5, h6⟩ := r4
      exact q3 φ4 H4 a vs x4 hs4 h6 (.inr (.inr h5))
    case fix ys => exact lst h3
    case ref n => exact lst h3
/-! ### ranges -/
theorem rng_ok {i j : Int} (h : rngOk i j = true) : RgOk i j := by
  unfold rngOk at h
  simp only [Bool.and_eq_true, decide_eq_true_eq] at h
  obtain ⟨⟨⟨h1, h2⟩, h3⟩, h4⟩ := h
  exact ⟨by omega, by omega, by omega, by omega, by omega⟩
theorem reps_map {α : Type} {f : α → D} {g : α → V} (h : ∀ x, Rep K φ H (f x) (g x)) : ∀ l : List α, Reps K φ H (l.map f) (l.map g)
  | [] => by simp only [List.map_nil, Reps]
  | x :: l => by simp only [List.map_cons, Reps]; exact ⟨_, _, rfl, h x, reps_map h l⟩
theorem reps_rng (i j : Int) : Reps K φ H (rngL i j) (rgV i j) := reps_map (fun n => by simp only [Rep]) _
def tRv (K : PySem.W.Frag) (ea eb : Env → Store → Res D) : L2.St → Hp → (Int → Int → Hp → Prop) → Prop := fun σ H Q => tEv K ea σ H fun x H1 => tEv K eb σ H1 fun y H2 => ∃ i j, x = .int i ∧ y = .int j ∧ Q i j H2
theorem v_lit0 : PE X (.Constant (.int 0) 0 pos) (tEv X.K fun _ s => .ok (.int 0) s) := pe_int.imp (v_lit (fun _ _ _ q => q) fun φ H => by simp only [Rep])
theorem v_prg1 (hg : Gl X "range") (hm : X.mg "range" = none) (hst : isStar a = false) (ha : PE X a (tEv X.K ea)) : PRg X (.Call (.Name "range" p) [a] [] pos) (tRv X.K (fun _ s => .ok (.int 0) s) ea) := by
  intro pins s σ H Q I h
  refine prg_1 hg hm ha (star_cons hst) pins s σ H Q I ?_
  obtain ⟨φ, r, S, d, S', hv, hs, e, q⟩ := h
  cases e
  obtain ⟨φ1, r1, S1, d1, S2, hv1, hs1, e1, q1⟩ := q.same hs (v := .int 0) (by simp only [Rep])
  refine ⟨φ1, r1, S1, d1, S2, hv1, hs1, e1, fun φ2 v H2 x2 hs2 r2 => ?_⟩
  obtain ⟨i, j, h1, h2, h3⟩ := q1 φ2 v H2 x2 hs2 r2
  cases h1
  exact ⟨j, h2, h3⟩
theorem v_prg2 (hg : Gl X "range") (hm : X.mg "range" = none) (hst : isStar a = false) (hst2 : isStar b = false) (ha : PE X a (tEv X.K ea)) (hb : PE X b (tEv X.K eb)) : PRg X (.Call (.Name "range" p) [a, b] [] pos) (tRv X.K ea eb) :=
  prg_2 hg hm ha hb (star_cons hst) (star_cons hst2) (star_none (es := [b]) (by simp [hst2]))
theorem bind_rng {S' : Store} {z : D} {e : (((ea r S).bind fun x s1 => (eb r s1).bind fun y s2 => match x, y with
    | .int i, .int j => if rngOk i j then Res.ok (.tup (rngL i j)) s2 else .bad
    | _, _ => .bad)) = .ok z S'} : ∃ (i j : Int) (S1 : Store), ea r S = .ok (.int i) S1 ∧ eb r S1 = .ok (.int j) S' ∧ rngOk i j = true ∧ z = .tup (rngL i j) := by
  obtain ⟨x, S1, e1, e⟩ := bind_ok e
  obtain ⟨y, S2, e2, e⟩ := bind_ok e
  cases x <;> cases y <;> simp only at e <;> try (cases e; done)
  split at e
  · next h => cases e; exact ⟨_, _, S1, e1, e2, h, rfl⟩
  · cases e
theorem v_tupRng (R : Rm X) (hg : Gl X "tuple") (hm : X.mg "tuple" = none) (hst : isStar a = false) (ha : PRg X a (tRv X.K ea eb)) : PE X (.Call (.Name "tuple" p) [a] [] pos) (tEv X.K fun r s => (ea r s).bind fun x s1 => (eb r s1).bind fun y s2 => match x, y with
    | .int i, .int j => if rngOk i j then .ok (.tup (rngL i j)) s2 else .bad
    | _, _ => .bad) :=
  (pe_tupRgN R.calm hg hm ha (star_cons hst)).imp fun σ H Q ⟨φ, r, S, z, S', hv, hs, e, q⟩ => by
    obtain ⟨i, j, S1, e1, e2, h, rfl⟩ := bind_rng (e := e)
    refine ⟨φ, r, S, _, S1, hv, hs, e1, fun φ1 x H1 x1 hs1 r1 => ⟨φ1, r, S1, _, S', hv.ext hs x1, hs1, e2, fun φ2 y H2 x2 hs2 r2 => ?_⟩⟩
    refine ⟨i, j, by simpa only [Rep] using r1, by simpa only [Rep] using r2, rng_ok h, ?_⟩
    exact (q.of (x1.trans x2)).tup hs2 (reps_rng i j)
theorem v_rngL (R : Rm X) (hg : Gl X "list") (hm : X.mg "list" = none) (hst : isStar a = false) (ha : PRg X a (tRv X.K ea eb)) : PE X (.Call (.Name "list" p) [a] [] pos) (tLv X.K 2 fun r s => (ea r s).bind fun x s1 => (eb r s1).bind fun y s2 => match x, y with
    | .int i, .int j => if rngOk i j then .ok (rngL i j) s2 else .bad
    | _, _ => .bad) :=
  (pe_listRg R.calm hg hm ha (star_cons hst)).imp fun σ H Q ⟨φ, r, S, z, S', hv, hs, e, q⟩ => by
    obtain ⟨x, S1, e1, e⟩ := bind_ok e
    obtain ⟨y, S2, e2, e⟩ := bind_ok e
    cases x <;> cases y <;> simp only at e <;> try (cases e; done)
    rename_i i _ j
    split at e
    · next h =>
      cases e
      refine ⟨φ, r, S, _, S1, hv, hs, e1, fun φ1 x H1 x1 hs1 r1 => ⟨φ1, r, S1, _, _, hv.ext hs x1, hs1, e2, fun φ2 y H2 x2 hs2 r2 => ?_⟩⟩
      refine ⟨i, j, by simpa only [Rep] using r1, by simpa only [Rep] using r2, rng_ok h, fun p hp => ?_⟩
      exact (q.of (x1.trans x2)).new hs2 (reps_rng i j) hp
    · cases e
/-! ### dicts -/
theorem HS.pushNew (hs : HS K φ H S) {p : Addr} {u : HO} {o : O} (hp : H p = none) (h : ∀ φ', ORep K φ' (upd H p u) o p) : HS K (φ ++ [p]) (upd H p u) (S ++ [o]) := hs.push hp (h _)
theorem pairs_v : ∀ {ds : List D} {ps : List (List Key × D)} {vs : List V}, mapO pairK ds = some ps → Reps K φ H ds vs →
    ∃ (as : List Addr) (ws : List Tri), vs = as.map V.ref ∧ Paired (fun p (t : Tri) => Tp H p [.ref t.2.1, t.2.2] ∧ Tp H t.2.1 (t.1.map kV)) as ws ∧ KRep K φ H ps (ws.map triTwo)
  | [], ps, vs, h, hr => by
    simp only [mapO, Option.some.injEq] at h
    subst h
    simp only [Reps] at hr
    subst hr
    exact ⟨[], [], rfl, .nil, .nil⟩
  | d :: ds, ps, vs, h, hr => by
    simp only [Reps] at hr
    obtain ⟨v, vs', rfl, h1, h2⟩ := hr
    unfold mapO at h
    cases hd : pairK d with
    | none => rw [hd] at h; cases h
    | some q =>
      cases hds : mapO pairK ds with
      | none => rw [hd, hds] at h; cases h
      | some qs =>
        rw [hd, hds] at h
        have h : q :: qs = ps := Option.some.inj h
        subst h
        obtain ⟨as, ws, rfl, h3, h4⟩ := pairs_v hds h2
        unfold pairK at hd
        split at hd
        · next ks v2 =>
          obtain ⟨kk, hk, rfl⟩ := Option.map_eq_some_iff.mp hd
          simp only [Rep, Reps] at h1
          obtain ⟨a, us, rfl, ha, x, r1, rfl, ⟨b, ys, rfl, hb, hy⟩, y, r2, rfl, hv, rfl⟩ := h1
          have := keys_v hk hy
          subst this
          exact ⟨a :: as, (kk, b, y) :: ws, rfl, .cons ⟨ha, hb⟩ h3, .cons ⟨rfl, hv⟩ h4⟩
        · cases hd
theorem fold_T {ps : List (List Key × D)} {ws : List (List Key × V)} (h : KRep K φ H ps ws) : ∀ {acc : List (List Key × D)} {acw : List (List Key × V)}, KRep K φ H acc acw →
    KRep K φ H (ps.foldl (fun a p => setK a p.1 p.2) acc) (mergeT acw ws) := by
  unfold KRep at h
  induction h with
  | nil => exact fun q => q
  | @cons u w us ws' huw _ ih =>
    intro acc acw ha
    obtain ⟨h1, h2⟩ := huw
    show KRep K φ H (us.foldl _ (setK acc u.1 u.2)) (mergeT (putK acw w.1 w.2) ws')
    refine ih ?_
    rw [← h1]
    exact ha.set _ h2
theorem v_newP {la : Env → Store → Res (List D)} (R : Rm X) (hg : Gl X "dict") (hm : X.mg "dict" = none) (hst : isStar a = false) (ha : PE X a (tLv X.K 2 la)) : PE X (.Call (.Name "dict" p) [a] [] pos) (tEv X.K fun r s => (la r s).bind fun ds s1 => match mapO pairK ds with
    | some ps => alloc (.dit (ps.foldl (fun a p => setK a p.1 p.2) [])) s1
    | none => .bad) :=
  (pe_callTy (callDit R.calm (by have := R.un; omega)) hg hm (by decide +kernel) (pa_cons ha pa_nil (star_cons hst)) (by decide) (by decide) (star_cons hst) rfl).imp fun σ H Q ⟨φ, r, S, z, S', hv, hs, e, q⟩ => by
    obtain ⟨ds, S1, e1, e⟩ := bind_ok e
    split at e
    · next ps hps =>
      unfold alloc at e
      cases e
      refine ⟨φ, r, S, ds, S1, hv, hs, e1, fun φ1 H1 a vs x1 hs1 r1 lk => ?_⟩
      obtain ⟨l1, l2, l3⟩ := lk
      obtain ⟨as, ws, rfl, h3, h4⟩ := pairs_v hps r1
      refine ⟨a, as, ws, rfl, l1, h3, fun p hp => ?_⟩
      have x2 : Ex φ1 H1 (φ1 ++ [p]) (upd H1 p (.ext (DitP X.prog X.w p (mergeDit [] ws)))) := Ex.newR hp
      have keys : ∀ {as : List Addr} {ws : List Tri}, Paired (fun p (t : Tri) => Tp H1 p [.ref t.2.1, t.2.2] ∧ Tp H1 t.2.1 (t.1.map kV)) as ws → ∀ t ∈ ws, Tp H1 t.2.1 (t.1.map kV) := fun {as ws} g => by
        induction g with
        | nil => exact fun t m => nomatch m
        | cons z _ ih => exact fun t m => (List.mem_cons.mp m).elim (fun e => e ▸ z.2) (ih t)
      have kk : ∀ t ∈ mergeDit [] ws, Tp (upd H1 p (.ext (DitP X.prog X.w p (mergeDit [] ws)))) t.2.1 (t.1.map kV) := fun t m => by
        obtain ⟨t', m', e1, e2⟩ := mergeDit_mem m
        rw [List.nil_append] at m'
        rw [← e1, ← e2]
        exact (keys h3 t' m').other fun ⟨ob, u, e⟩ => by rw [hp] at e; cases e
      have e2 := fold_T (KRep.ext hs1 x2 h4) (acc := []) (acw := []) .nil
      have e3 : mergeT [] (ws.map triTwo) = (mergeDit [] ws).map triTwo := (mergeDit_two ws []).symm
      rw [e3] at e2
      refine q (φ1 ++ [p]) _ _ (x1.trans x2) (hs1.push hp ⟨mergeDit [] ws, ⟨by rw [upd_same, R.dit], kk⟩, e2⟩) ?_
      simp only [Rep]
      exact ⟨p, rfl, by rw [← hs1.len]; simp⟩
    · cases e
theorem v_newD : PE X (.Dict [] [] pos) (tEv X.K fun _ s => alloc (.dik []) s) := pe_dnewK.imp fun σ H Q ⟨φ, r, S, z, S', hv, hs, e, q⟩ p hp => by
  unfold alloc at e
  cases e
  refine q (φ ++ [p]) _ _ (Ex.newR hp) (hs.push hp ⟨[], upd_same, .nil⟩) ?_
  simp only [Rep]
  exact ⟨p, rfl, by rw [← hs.len]; simp⟩
/-- the values of a display -/
def tPv (K : PySem.W.Frag) (ev : Env → Store → Res (List (Str × D))) : L2.St → Hp → (List (V × V) → Hp → Prop) → Prop := fun σ H Q => ∃ (φ : List Addr) (r : Env) (S : Store) (ps : List (Str × D)) (S' : Store), VS K φ H r σ ∧ HS K φ H S ∧ ev r S = .ok ps S' ∧
  ∀ φ' (ws : List (Key × V)) H', Ex φ H φ' H' → HS K φ' H' S' → KRep K φ' H' (ps.map fun p => ((.inr p.1 : Key), p.2)) ws → Q (ws.map fun kv => (kV kv.1, kv.2)) H'
theorem v_disp_fold {ps : List (Str × D)} {ws : List (Key × V)} (h : KRep K φ H (ps.map fun p => ((.inr p.1 : Key), p.2)) ws) : ∀ {acc : List (Key × D)} {acw : List (Key × V)}, KRep K φ H acc acw →
    KRep K φ H (ps.foldl (fun a p => setK a (.inr p.1) p.2) acc) (mergeK acw ws) := by
  unfold KRep at h
  generalize hq : (ps.map fun p => ((.inr p.1 : Key), p.2)) = qs at h
  induction h generalizing ps with
  | nil =>
    intro acc acw ha
    cases ps with
    | nil => exact ha
    | cons _ _ => cases hq
  | @cons u w us ws' huw _ ih =>
    intro acc acw ha
    cases ps with
    | nil => cases hq
    | cons p ps =>
      simp only [List.map_cons, List.cons.injEq] at hq
      obtain ⟨rfl, hq⟩ := hq
      obtain ⟨h1, h2⟩ := huw
      show KRep K φ H (ps.foldl _ (setK acc (.inr p.1) p.2)) (mergeK (putK acw w.1 w.2) ws')
      refine ih hq ?_
      rw [← h1]
      exact ha.set _ h2
end
end Wb

/-! W12: displays of dicts, methods, sorted sets, comprehensions, targets, what a for walks. -/
namespace Wb
open PySem PySem.Spec PyProof.Rows L2
variable [PWd]
section
variable {X : Cx} {K : PySem.W.Frag} {φ φ1 φ' : List Addr} {H H1 H' : Hp} {S S1 S' : Store} {d : D} {Q : VK} {r : Env} {σ : L2.St} {a b : Expr} {ea eb : Env → Store → Res D} {la lb : Env → Store → Res (List D)} {pos p : Pos} {k : Nat} {l m : Ls}
/-! ### dicts -/
mutual
theorem Rep.move {q : List Addr} (h1 : ∀ a xs, Tp H a xs → Tp H' a xs) (h2 : ∀ a vs, FixL K H a vs → FixL K H' a vs) : ∀ (d : D) (v : V), Rep K φ H d v → Rep K (φ ++ q) H' d v
  | .non, v, h => by simpa only [Rep] using h
  | .bl _, v, h => by simpa only [Rep] using h
  | .int _, v, h => by simpa only [Rep] using h
  | .str _, v, h => by simpa only [Rep] using h
  | .tup ds, v, h => by
    simp only [Rep] at h ⊢
    obtain ⟨a, vs, e1, e2, e3⟩ := h
    exact ⟨a, vs, e1, h1 a vs e2, Reps.move h1 h2 ds vs e3⟩
  | .fix ds, v, h => by
    simp only [Rep] at h ⊢
    obtain ⟨a, vs, e1, e2, e3⟩ := h
    exact ⟨a, vs, e1, h2 a vs e2, Reps.move h1 h2 ds vs e3⟩
  | .ref n, v, h => by
    simp only [Rep] at h ⊢
    obtain ⟨a, e1, e2⟩ := h
    exact ⟨a, e1, by rw [List.getElem?_append_left (List.getElem?_eq_some_iff.mp e2).1]; exact e2⟩
theorem Reps.move {q : List Addr} (h1 : ∀ a xs, Tp H a xs → Tp H' a xs) (h2 : ∀ a vs, FixL K H a vs → FixL K H' a vs) : ∀ (ds : List D) (vs : List V), Reps K φ H ds vs → Reps K (φ ++ q) H' ds vs
  | [], vs, h => by simpa only [Reps] using h
  | d :: ds, vs, h => by
    simp only [Reps] at h ⊢
    obtain ⟨v, r, e1, e2, e3⟩ := h
    exact ⟨v, r, e1, Rep.move h1 h2 d v e2, Reps.move h1 h2 ds r e3⟩
end
theorem upd_tup {p : Addr} {u w : HO} (hp : H p = some w) (hc : ¬ Cold w) : (∀ a xs, Tp H a xs → Tp (upd H p u) a xs) ∧ ∀ a vs, FixL K H a vs → FixL K (upd H p u) a vs := by
  have ne : ∀ {a : Addr} {o : HO}, H a = some o → Cold o → a ≠ p := fun h c z => by
    rw [z, hp] at h; cases h; exact hc c
  refine ⟨fun a xs ⟨o, hd, e⟩ => ⟨o, hd, by rw [upd_ne (ne e trivial)]; exact e⟩, fun a vs h => ?_⟩
  rcases h with ⟨o, h⟩ | h
  · exact .inl ⟨o, by rw [upd_ne (ne h trivial)]; exact h⟩
  · exact .inr h
theorem repP {p : Addr} {u : HO} {ws : List (Key × V)} {q : List Addr} (hp : H p = some (.dK ws)) (d : D) (v : V) (h : Rep K φ H d v) : Rep K (φ ++ q) (upd H p u) d v :=
  Rep.move (upd_tup (K := K) hp (fun z => z)).1 (upd_tup hp (fun z => z)).2 d v h
theorem repsP {p : Addr} {u : HO} {ws : List (Key × V)} {q : List Addr} (hp : H p = some (.dK ws)) (ds : List D) (vs : List V) (h : Reps K φ H ds vs) : Reps K (φ ++ q) (upd H p u) ds vs :=
  Reps.move (upd_tup (K := K) hp (fun z => z)).1 (upd_tup hp (fun z => z)).2 ds vs h
def trsOf (K : PySem.W.Frag) (cl : Nat → List D → Store → Res D) (kvs : List (Str × E)) : List (TE × TE) := kvs.map fun p => (tC (.str p.1), tEv K (evE cl p.2))
theorem pv_of {cl : Nat → List D → Store → Res D} : ∀ (kvs : List (Str × E)) σ H Q, tPv K (evKs cl kvs) σ H Q → tPairs (trsOf K cl kvs) σ H Q
  | [], σ, H, Q, ⟨φ, r, S, ps, S', hv, hs, e, q⟩ => by
    simp only [evKs] at e
    cases e
    exact q φ [] H Ex.rfl' hs .nil
  | (x, c) :: kvs, σ, H, Q, ⟨φ, r, S, ps, S', hv, hs, e, q⟩ => by
    simp only [evKs] at e
    obtain ⟨d, S1, e1, e⟩ := bind_ok e
    obtain ⟨ps', S2, e2, e⟩ := bind_ok e
    cases e
    show tEv K (evE cl c) σ H fun y H2 => tPairs (trsOf K cl kvs) σ H2 fun ps H3 => Q ((V.str x, y) :: ps) H3
    refine ⟨φ, r, S, d, S1, hv, hs, e1, fun φ1 y H1 x1 hs1 r1 => pv_of kvs σ H1 _ ⟨φ1, r, S1, ps', _, hv.ext hs x1, hs1, e2, fun φ2 ws H2 x2 hs2 k2 => ?_⟩⟩
    exact q φ2 ((.inr x, y) :: ws) H2 (x1.trans x2) hs2 (.cons ⟨rfl, Rep.ext hs1 x2 _ _ r1⟩ k2)
theorem KRep.k_len {κ : Type} {kvs : List (κ × D)} {ws : List (κ × V)} (h : KRep K φ H kvs ws) : ws.length = kvs.length := (Paired.length h).symm
theorem v_dic {cl : Nat → List D → Store → Res D} {kvs : List (Str × E)} {keys : List (Option Expr)} {vals : List Expr} (h : PPs X pos keys vals (trsOf X.K cl kvs)) (hall : keys.all (·.isSome) = true) (hl : keys.length = vals.length) (h0 : keys ≠ []) (h15 : keys.length ≤ 15) :
    PE X (.Dict keys vals pos) (tEv X.K fun r s => (evKs cl kvs r s).bind fun ps s1 => if ps.length ≤ 15 then alloc (.dik (ps.foldl (fun a p => setK a (.inr p.1) p.2) [])) s1 else .bad) :=
  (pe_disp h hall hl h0 h15).imp fun σ H Q ⟨φ, r, S, z, S', hv, hs, e, q⟩ p hp => by
    obtain ⟨ps, S1, e1, e⟩ := bind_ok e
    split at e
    · next hz =>
      unfold alloc at e
      cases e
      have x0 : Ex φ H φ (upd H p (.dK [])) := Ex.new hp
      have hs0 : HS X.K φ (upd H p (.dK [])) S := hs.side hp
      have np : p ∉ φ := fun z => hs.live z hp
      refine pv_of kvs σ _ _ ⟨φ, r, S, ps, S1, hv.ext hs x0, hs0, e1, fun φ1 ws H1 x1 hs1 k1 => ?_⟩
      have hp1 : H1 p = some (.dK []) := x1.keep p _ upd_same np
      have np1 : p ∉ φ1 := by
        obtain ⟨w, rfl, hw⟩ := x1.pre
        intro hm
        rcases List.mem_append.mp hm with z | z
        · exact np z
        · have := hw p z
          rw [upd_same] at this; cases this
      have hw : ws.length ≤ 15 := by rw [k1.k_len, List.length_map]; exact hz
      refine ⟨hp1, ws, rfl, hw, ?_⟩
      have hf := v_disp_fold k1 (acc := []) (acw := []) .nil
      -- the dict is filled, then named
      let kf := ps.foldl (fun a p => setK a (.inr p.1) p.2) ([] : List (Key × D))
      have k2 : ∀ {u : HO}, HS X.K φ1 (upd H1 p u) S1 ∧ Ex φ1 H1 φ1 (upd H1 p u) ∨ True := fun {u} => .inr trivial
      have hsub : ∀ b o, H1 b = some o → b ∈ φ1 → b ≠ p := fun b o _ hb z => np1 (z ▸ hb)
      have x2 : Ex φ H (φ1 ++ [p]) (upd H1 p (.dK (mergeK [] ws))) := by
        obtain ⟨w, rfl, hw⟩ := x1.pre
        refine ⟨⟨w ++ [p], by simp, fun c hc => ?_⟩, fun c o h1 h2 => ?_, fun c h1 => ?_⟩
        · rcases List.mem_append.mp hc with z | z
          · have := hw c z
            by_cases hcp : c = p
            · rw [hcp]; exact hp
            · rw [upd_ne hcp] at this; exact this
          · rw [List.mem_singleton.mp z]; exact hp
        · have hcp : c ≠ p := fun z => by rw [z, hp] at h1; cases h1
          rw [upd_ne hcp]
          exact x1.keep c o (by rw [upd_ne hcp]; exact h1) h2
        · by_cases hcp : c = p
          · rw [hcp]; exact hp
          · rw [upd_ne hcp] at h1
            have := x1.live c h1
            rw [upd_ne hcp] at this; exact this
      refine q (φ1 ++ [p]) _ _ x2 ?_ ?_
      · -- the store
        have up : ∀ {φ2 : List Addr} {d : D} {v : V}, Rep X.K φ2 H1 d v → Rep X.K (φ2 ++ [p]) (upd H1 p (.dK (mergeK [] ws))) d v := fun {φ2 d v} => repP hp1 d v
        refine ⟨by simp [hs1.len], List.nodup_append.mpr ⟨hs1.nd, by simp, fun a ha b hb z => np1 (by rw [List.mem_singleton.mp hb] at z; exact z ▸ ha)⟩, fun n ob a h1 h2 => ?_⟩
        by_cases hn : n < S1.length
        · rw [List.getElem?_append_left hn] at h1
          rw [List.getElem?_append_left (by rw [hs1.len]; exact hn)] at h2
          have hap : a ≠ p := fun z => np1 (z ▸ List.mem_of_getElem? h2)
          have := hs1.ob n ob a h1 h2
          cases ob with
          | lst ds => obtain ⟨vs, h3, h4⟩ := this; exact ⟨vs, by rw [upd_ne hap]; exact h3, repsP hp1 _ _ h4⟩
          | dik ds => obtain ⟨vs, h3, h4⟩ := this; exact ⟨vs, by rw [upd_ne hap]; exact h3, Paired.mapP h4 fun _ _ z => ⟨z.1, up z.2⟩⟩
          | dit ds => obtain ⟨vs, h3, h4⟩ := this; exact ⟨vs, ⟨by rw [upd_ne hap]; exact h3.1, fun t m => (upd_tup (K := X.K) hp1 (fun z => z)).1 _ _ (h3.2 t m)⟩, Paired.mapP h4 fun _ _ z => ⟨z.1, up z.2⟩⟩
        · rw [List.getElem?_append_right (by omega)] at h1
          rw [List.getElem?_append_right (by rw [hs1.len]; omega)] at h2
          have z : n - S1.length = 0 := by
            have := (List.getElem?_eq_some_iff.mp h1).1
            simp at this; omega
          rw [hs1.len] at h2
          rw [z] at h1 h2
          simp at h1 h2
          subst h1; subst h2
          exact ⟨_, upd_same, Paired.mapP hf fun _ _ z => ⟨z.1, up z.2⟩⟩
      · simp only [Rep]
        exact ⟨p, rfl, by rw [← hs1.len]; simp⟩
    · cases e
/-! ### methods -/
theorem base_of {o : Expr} {m : Str} {env : PySem.Env} (h : isCall o = false) : attributeBase o m env (eval o env) = eval o env := by
  cases o <;> first | rfl | skip
  rename_i f as ks p
  cases f <;> first | rfl | (simp [isCall] at h)
theorem few_one {env : PySem.Env} {cp : Pos} (h : isStar a = false) : ((backTo cp (starEach [a] env)).all (fun x => !x.1) && (backToKw cp (keywordEach [] env)).all (fun x => x.1.isSome)
      && decide (([a] : List Expr).length + ([] : List Keyword).length + (if ([] : List Keyword).isEmpty then 0 else 1) < 30)) = true := by
  rw [star_cons h]; rfl
theorem listK {x : D} {v : V} (hs : HS K φ H S) (hr : Rep K φ H x v) (h : (lstAt S x).isSome = true) : tyV K "list" v H := by
  cases x <;> simp only [lstAt] at h <;> try (cases h; done)
  next n =>
  simp only [Rep] at hr
  obtain ⟨a, rfl, ha⟩ := hr
  obtain ⟨o, ho, ro⟩ := hs.sget ha
  rw [ho] at h
  cases o with
  | lst xs =>
    obtain ⟨vs, hv, _⟩ := ro
    exact .inl ⟨rfl, vs, SqL.of hv⟩
  | dik _ => cases h
  | dit _ => cases h
variable {o : Expr} {eo : Env → Store → Res D} {ap cp : Pos}
theorem v_meth1 {mm : M} {n : String} {ms : Str} (hn : mName mm = some n) (hms : (ms = ("append" : Str) ∧ mm = .append) ∨ (ms = ("pop" : Str) ∧ mm = .popAt)) (hca : isCall o = false) (hst : isStar a = false) (hl : (ap.endLine == cp.line) = true)
    (ho : PE X o (tEv X.K eo)) (ha : PE X a (tEv X.K ea)) :
    PE X (.Call (.Attribute o ms ap) [a] [] cp) (tEv X.K fun r s => (eo r s).bind fun x s1 => if (lstAt s1 x).isSome then (((ea r s1).bind fun y s2 => (Res.ok [] s2).bind fun xs s3 => .ok (y :: xs) s3)).bind fun ds s2 => match methD s2 mm x ds with
    | some (z, s3) => .ok z s3
    | none => .bad
      else .bad) := by
  have key : ∀ {σ H Q}, tEv X.K (fun r s => (eo r s).bind fun x s1 => if (lstAt s1 x).isSome then (((ea r s1).bind fun y s2 => (Res.ok [] s2).bind fun xs s3 => .ok (y :: xs) s3)).bind fun ds s2 => match methD s2 mm x ds with
    | some (z, s3) => .ok z s3
    | none => .bad
      else .bad) σ H Q → tBM X.K "list" (rMeth X.K mm) (tEv X.K eo) (tCons (tEv X.K ea) tNil) σ H Q := fun {σ H Q} ⟨φ, r, S, z, S', hv, hs, e, q⟩ => by
    obtain ⟨x, S1, e1, e⟩ := bind_ok e
    split at e
    · next hls =>
      obtain ⟨ds, S2, e2, e⟩ := bind_ok e
      obtain ⟨y, S3, e3, e2⟩ := bind_ok e2
      simp only [Res.bind_ok] at e2
      cases e2
      split at e
      · next z' s3 h1 =>
        cases e
        refine ⟨φ, r, S, x, S1, hv, hs, e1, fun φ1 u H1 x1 hs1 r1 => ⟨listK hs1 r1 hls, φ1, r, S1, y, _, hv.ext hs x1, hs1, e3, fun φ2 w H2 x2 hs2 r2 => ?_⟩⟩
        exact ⟨φ2, _, x, [y], _, _, hs2, Rep.ext hs1 x2 _ _ r1, Reps.one r2, h1, q.of (x1.trans x2)⟩
      · cases e
    · cases e
  rcases hms with ⟨rfl, rfl⟩ | ⟨rfl, rfl⟩
  · cases hn
    exact (pe_bm F.plainAttrs_list F.slot_list_append F.type_list_append (meth_sim rfl) ho (pa_cons ha pa_nil (star_cons hst)) (base_of hca) (few_one hst) hl (star_cons hst) rfl).imp fun σ H Q q => key q
  · cases hn
    exact (pe_bm F.plainAttrs_list F.slot_list_pop F.type_list_pop (meth_sim rfl) ho (pa_cons ha pa_nil (star_cons hst)) (base_of hca) (few_one hst) hl (star_cons hst) rfl).imp fun σ H Q q => key q
theorem v_meth0 {mm : M} {ms : Str} (hms : (ms = ("pop" : Str) ∧ mm = .pop) ∨ (ms = ("clear" : Str) ∧ mm = .clear) ∨ (ms = ("reverse" : Str) ∧ mm = .reverse)) (hca : isCall o = false) (hl : (ap.endLine == cp.line) = true) (ho : PE X o (tEv X.K eo)) :
    PE X (.Call (.Attribute o ms ap) [] [] cp) (tEv X.K fun r s => (eo r s).bind fun x s1 => if (lstAt s1 x).isSome then (Res.ok [] s1).bind fun ds s2 => match methD s2 mm x ds with
    | some (z, s3) => .ok z s3
    | none => .bad
      else .bad) := by
  have key : ∀ {σ H Q}, tEv X.K (fun r s => (eo r s).bind fun x s1 => if (lstAt s1 x).isSome then (Res.ok [] s1).bind fun ds s2 => match methD s2 mm x ds with
    | some (z, s3) => .ok z s3
    | none => .bad
      else .bad) σ H Q → tBM0 X.K "list" (rMeth X.K mm) (tEv X.K eo) σ H Q := fun {σ H Q} ⟨φ, r, S, z, S', hv, hs, e, q⟩ => by
    obtain ⟨x, S1, e1, e⟩ := bind_ok e
    split at e
    · next hls =>
      simp only [Res.bind_ok] at e
      split at e
      · next z' s3 h1 =>
        cases e
        exact ⟨φ, r, S, x, S1, hv, hs, e1, fun φ1 u H1 x1 hs1 r1 => ⟨listK hs1 r1 hls, φ1, _, x, [], _, _, hs1, r1, by simp only [Reps], h1, q.of x1⟩⟩
      · cases e
    · cases e
  rcases hms with ⟨rfl, rfl⟩ | ⟨rfl, rfl⟩ | ⟨rfl, rfl⟩
  · exact (pe_bm0 F.plainAttrs_list F.slot_list_pop F.type_list_pop (meth_sim (m := .pop) rfl) ho (base_of hca) hl).imp fun σ H Q q => key q
  · exact (pe_bm0 F.plainAttrs_list F.slot_list_clear F.type_list_clear (meth_sim (m := .clear) rfl) ho (base_of hca) hl).imp fun σ H Q q => key q
  · exact (pe_bm0 F.plainAttrs_list F.slot_list_reverse F.type_list_reverse (meth_sim (m := .reverse) rfl) ho (base_of hca) hl).imp fun σ H Q q => key q
theorem v_ext (hk : 1 ≤ l.kd) (hca : isCall o = false) (hst : isStar a = false) (hl : (ap.endLine == cp.line) = true) (ho : PE X o (tEv X.K eo)) (ha : PE X a (tLv X.K l.kd la)) :
    PE X (.Call (.Attribute o "extend" ap) [a] [] cp) (tEv X.K fun r s => (eo r s).bind fun x s1 => if (lstAt s1 x).isSome then (la r s1).bind fun ds s2 => match x with
    | .ref n => match s2[n]? with
      | some (.lst xs) => if small (xs.length + ds.length) then .ok .non (s2.set n (.lst (xs ++ ds))) else .bad
      | _ => .bad
    | _ => .bad
      else .bad) :=
  (pe_bm F.plainAttrs_list F.slot_list_extend F.type_list_extend (ext_sim (k := l.kd) hk) ho (pa_cons ha pa_nil (star_cons hst)) (base_of hca) (few_one hst) hl (star_cons hst) rfl).imp fun σ H Q ⟨φ, r, S, z, S', hv, hs, e, q⟩ => by
    obtain ⟨x, S1, e1, e⟩ := bind_ok e
    split at e
    · next hls =>
      obtain ⟨ds, S2, e2, e⟩ := bind_ok e
      cases x <;> simp only at e <;> try (cases e; done)
      rename_i n _
      split at e
      · next xs h1 =>
        split at e
        · next hz =>
          cases e
          refine ⟨φ, r, S, _, S1, hv, hs, e1, fun φ1 u H1 x1 hs1 r1 => ⟨listK hs1 r1 hls, φ1, r, S1, ds, S2, hv.ext hs x1, hs1, e2, fun φ2 H2 b vs x2 hs2 r2 lk => ?_⟩⟩
          exact ⟨φ2, S2, n, xs, ds, vs, b, _, hs2, Rep.ext hs1 x2 _ _ r1, rfl, r2, lk, h1, hz, q.of (x1.trans x2)⟩
        · cases e
      · cases e
    · cases e
/-! ### sorted(set(..)) of pairs -/
theorem v_sortedSet (R : Rm X) {p2 pos2 : Pos} (hk : 1 ≤ k) (hg : Gl X "sorted") (hm : X.mg "sorted" = none) (hg2 : Gl X "set") (hm2 : X.mg "set" = none) (hst : isStar a = false) (ha : PE X a (tLv X.K k la)) :
    PE X (.Call (.Name "sorted" p) [.Call (.Name "set" p2) [a] [] pos2] [] pos) (tLv X.K 2 fun r s => (la r s).bind fun ds s1 => Res.opt s1 (sortSetD ds)) := by
  have hu := R.un
  have hset := pe_callTy (cr_or (cr_setOfT R.calm (by omega)) (cr_setLI R.calm)) hg2 hm2 boot_set (pa_cons ha pa_nil (star_cons hst)) (by decide) (by decide) (star_cons hst) rfl (p := p2) (pos := pos2)
  refine (pe_callB (cr_or (cr_sortedT R.calm) (cr_sortedSet R.calm)) hg hm boot_sorted (pa_cons hset pa_nil (star_cons rfl)) (by decide) (by decide) (star_cons rfl) rfl).imp fun σ H Q ⟨φ, r, S, es, S', hv, hs, e, q⟩ => ?_
  obtain ⟨ds, S1, e1, e⟩ := bind_ok e
  obtain ⟨e2, rfl⟩ := opt_ok e
  unfold sortSetD at e2
  split at e2
  · next ps h1 =>
    split at e2
    · next hz =>
      cases e2
      simp only [Bool.and_eq_true, decide_eq_true_eq, List.all_eq_true] at hz
      obtain ⟨z1, z2⟩ := hz
      refine ⟨φ, r, S, ds, _, hv, hs, e1, fun φ1 H1 a vs x1 hs1 r1 lk => ?_⟩
      obtain ⟨p1, p2⟩ := r1.pairs h1
      have hl := lk.lst hk
      have adr : ∀ v ∈ vs, ∃ t, v = V.ref t ∧ Tp H1 t ([(prOf H1 v).1, (prOf H1 v).2].map V.int) := p2
      -- the addresses with their ints
      let ks : List (Addr × List Int) := vs.map fun v => (match v with | .ref t => t | _ => 0, [(prOf H1 v).1, (prOf H1 v).2])
      have hks : ks.map (fun p => V.ref p.1) = vs := by
        show (vs.map _).map _ = vs
        rw [List.map_map]
        conv => rhs; rw [← List.map_id vs]
        refine List.map_congr_left fun v hv => ?_
        obtain ⟨t, rfl, _⟩ := p2 v hv
        rfl
      have hks2 : ∀ p ∈ ks, SqT X.K H1 p.1 (p.2.map V.int) := fun p hp => by
        obtain ⟨v, hv, rfl⟩ := List.mem_map.mp hp
        obtain ⟨t, rfl, ht⟩ := adr v hv
        exact ht.sq
      have hlen : vs.length = ps.length := by rw [← p1, List.length_map]
      refine .inl ⟨a, ks, rfl, SqL.of (by rw [hks]; exact hl), hks2, by show (vs.map _).length < 64; rw [List.length_map, hlen]; exact z1, fun sa L hsa hL1 hL2 => ?_⟩
      have hcold : ∀ {u : HO}, ∀ b xs, Tp H1 b xs → Tp (upd H1 sa u) b xs := fun {u} b xs h => h.other fun ⟨ob, z, e⟩ => by rw [hsa] at e; cases e
      have bnd : ∀ p ∈ ks, p.2.length = 2 ∧ TS.Bd 1000000 p.2 := fun p hp => by
        obtain ⟨v, hv, rfl⟩ := List.mem_map.mp hp
        refine ⟨rfl, fun m hm => ?_⟩
        have hb := z2 (prOf H1 v) (by rw [← p1]; exact List.mem_map_of_mem hv)
        simp only [List.mem_cons, List.not_mem_nil, or_false] at hm
        rcases hm with rfl | rfl
        · exact ⟨hb.1.1.1, hb.1.1.2⟩
        · exact ⟨hb.1.2, hb.2⟩
      refine .inl ⟨sa, L, 2, 1000000, rfl, upd_same, fun p hp => ?_, by omega, fun p hp => bnd p (hL1 p hp), fun L' np pm nd _ pw hnp => ?_⟩
      · obtain ⟨v, hv, rfl⟩ := List.mem_map.mp (hL1 p hp)
        obtain ⟨t, rfl, ht⟩ := adr v hv
        exact (hcold _ _ ht).sq
      -- the sorted list
      have x2 : Ex φ1 H1 φ1 (upd H1 sa (SetTO X.prog X.w sa L)) := Ex.new hsa
      have hs2 := hs1.side (u := SetTO X.prog X.w sa L) hsa
      have inK : ∀ p ∈ L', p ∈ ks := fun p hp => hL1 p (pm.mem_iff.mp hp)
      have pr : ∀ p ∈ ks, ∃ v ∈ vs, ∃ i j, p = (p.1, [i, j]) ∧ v = V.ref p.1 ∧ prOf H1 v = (i, j) ∧ Tp H1 p.1 [.int i, .int j] := fun p hp => by
        obtain ⟨v, hv, rfl⟩ := List.mem_map.mp hp
        obtain ⟨t, rfl, ht⟩ := p2 v hv
        exact ⟨_, hv, _, _, rfl, rfl, rfl, ht⟩
      let g : Addr × List Int → Int × Int := fun p => (p.2.getD 0 0, p.2.getD 1 0)
      have hg : L'.map g = srtP (dedup ps) := by
        refine srtP_one (perm_of_nodup ?_ (dedup_nodup ps) fun x => ?_) ?_
        · -- no two alike
          have : (L'.map g).Nodup := by
            have h2 : L'.map (·.2) = (L'.map g).map fun q => [q.1, q.2] := by
              rw [List.map_map]
              refine List.map_congr_left fun p hp => ?_
              obtain ⟨_, _, i, j, e1, _⟩ := pr p (inK p hp)
              rw [e1]; rfl
            rw [h2] at nd
            exact nodup_of_map nd
          exact this
        · rw [mem_dedup]
          constructor
          · intro hx
            obtain ⟨p, hp, rfl⟩ := List.mem_map.mp hx
            obtain ⟨v, hv, i, j, e1, e2, e3, _⟩ := pr p (inK p hp)
            have : g p = prOf H1 v := by rw [e3, e1]; rfl
            rw [this, ← p1]
            exact List.mem_map_of_mem hv
          · intro hx
            rw [← p1] at hx
            obtain ⟨v, hv, rfl⟩ := List.mem_map.mp hx
            obtain ⟨t, rfl, ht⟩ := p2 v hv
            have hm : (t, [(prOf H1 (.ref t)).1, (prOf H1 (.ref t)).2]) ∈ ks := List.mem_map.mpr ⟨_, hv, rfl⟩
            obtain ⟨p, hp, e4⟩ := List.mem_map.mp (hL2 _ hm)
            refine List.mem_map.mpr ⟨p, pm.mem_iff.mpr hp, ?_⟩
            show (p.2.getD 0 0, p.2.getD 1 0) = _
            rw [e4]; rfl
        · refine List.pairwise_map.mpr (pw.imp_of_mem fun {p q} hp hq h => ?_)
          obtain ⟨_, _, i, j, e1, _⟩ := pr p (inK p hp)
          obtain ⟨_, _, i', j', e2, _⟩ := pr q (inK q hq)
          have b1 := (bnd p (inK p hp)).2
          have b2 := (bnd q (inK q hq)).2
          rw [e1] at b1 h ⊢
          rw [e2] at b2 h ⊢
          have c1 := b1 i (by simp); have c2 := b1 j (by simp); have c3 := b2 i' (by simp); have c4 := b2 j' (by simp)
          have c5 : i * 1000000 + j ≤ i' * 1000000 + j' := by
            simpa [TS.code] using h
          rw [le2_iff]
          show ¬ (i' < i ∨ i' = i ∧ j' < j)
          omega
      have hrep : Reps X.K φ1 (upd H1 sa (SetTO X.prog X.w sa L)) ((srtP (dedup ps)).map ofPair) (L'.map fun q => V.ref q.1) := by
        rw [← hg, List.map_map]
        refine reps_mapM fun p hp => ?_
        obtain ⟨_, _, i, j, e1, _, _, ht⟩ := pr p (inK p hp)
        show Rep _ _ _ (ofPair (g p)) (V.ref p.1)
        have : g p = (i, j) := by rw [e1]; rfl
        rw [this]
        simp only [ofPair, Rep, Reps]
        exact ⟨p.1, _, rfl, hcold _ _ ht, _, _, rfl, rfl, _, _, rfl, rfl, rfl⟩
      exact (NxtL.of (x1.trans x2) q).new hs2 hrep hnp
    · cases e2
  · split at e2
    · next ns h1 =>
      split at e2
      · next hz =>
        cases e2
        refine ⟨φ, r, S, ds, _, hv, hs, e1, fun φ1 H1 a vs x1 hs1 r1 lk => ?_⟩
        have hl := lk.lst hk
        rw [r1.ints h1] at hl
        refine .inr ⟨a, ns, rfl, SqL.of hl, hz, fun sa c hsa hc => .inr ⟨sa, _, c, rfl, upd_same, by omega, fun ns' np up hm _ hnp => ?_⟩⟩
        have x2 : Ex φ1 H1 φ1 (upd H1 sa (SetO X.w sa (fun j => decide (j ∈ ns)) c)) := Ex.new hsa
        have e : srtI (dedup ns) = ns' := (srtI_one (perm_of_nodup (up.imp fun h e => by omega) (dedup_nodup ns) fun x => by rw [mem_dedup, hm, decide_eq_true_eq]) (up.imp fun h => by omega)).symm
        rw [e] at q
        exact (NxtL.of (x1.trans x2) q).new (hs1.side hsa) (reps_mapM fun x hx => by simp only [Rep]) hnp
      · cases e2
    · cases e2
where
  reps_mapM {α : Type} {f : α → D} {g : α → V} {φ : List Addr} {H : Hp} : ∀ {l : List α}, (∀ x ∈ l, Rep X.K φ H (f x) (g x)) → Reps X.K φ H (l.map f) (l.map g)
    | [], _ => by simp only [List.map_nil, Reps]
    | x :: l, h => by
      simp only [List.map_cons, Reps]
      exact ⟨_, _, rfl, h x (List.mem_cons_self ..), reps_mapM fun y hy => h y (List.mem_cons_of_mem _ hy)⟩
  nodup_of_map {l : List (Int × Int)} (h : (l.map fun q => [q.1, q.2]).Nodup) : l.Nodup := List.Pairwise.of_map _ (fun _ _ hne e => hne (by rw [e])) h
end
end Wb

/-! V2: lists and tuples turned about by a slice. -/
namespace HT
open PySem PySem.Spec PyProof.Rows L2
section
variable {prog : Program} {w : World} {A : Around} {E : Value → Shared → Prop} {s : Shared}
theorem range_get {α : Type} (l : List α) : (List.range l.length).filterMap (fun k => l[k]?) = l := by
  induction l with
  | nil => rfl
  | cons x l ih =>
    rw [List.length_cons, List.range_succ_eq_map, List.filterMap_cons]
    simp only [List.getElem?_cons_zero]
    rw [List.filterMap_map]
    congr 1
theorem fm_congr {α β : Type} {f g : α → Option β} : ∀ {l : List α}, (∀ x ∈ l, f x = g x) → l.filterMap f = l.filterMap g
  | [], _ => rfl
  | x :: l, h => by
    rw [List.filterMap_cons, List.filterMap_cons, h x (List.mem_cons_self ..), fm_congr fun y hy => h y (List.mem_cons_of_mem _ hy)]
theorem pick_rev (xs : Array Value) : ((List.range xs.size).filterMap fun (k : Nat) => xs[(((xs.size : Int) - 1) + (k : Int) * (-1)).toNat]?).toArray = xs.toList.reverse.toArray := by
  congr 1
  rw [← range_get xs.toList.reverse, List.length_reverse, Array.length_toList]
  refine fm_congr fun k hk => ?_
  have hk := List.mem_range.mp hk
  rw [List.getElem?_reverse (by simpa using hk), Array.length_toList, Array.getElem?_toList]
  congr 1
  omega
theorem places_rev (n : Nat) : Builtin.Slice.slicePlaces ((n : Int) - 1) (-1) (-1) = n := by
  unfold Builtin.Slice.slicePlaces
  rw [if_neg (by decide)]
  by_cases c : n = 0
  · subst c; rfl
  · rw [if_pos (by omega), Int.neg_neg, Int.ediv_one]
    omega
theorem sliceApplied_rev {sl : Addr} {vl vu vs : Value} {n : Nat} {Q : Int × Int × Nat → Shared → Prop} (hs : s.heap.IsSliceOf sl vl vu vs) (pl : IsPart vl none) (pu : IsPart vu none) (ps : IsPart vs (some (-1)))
    (h : Q ((n : Int) - 1, -1, n) s) : wpAny (model prog w) A (Builtin.Slice.sliceApplied (.ref sl) (pure (n : Int))) Q E s := by
  obtain ⟨os, hos, hcs, hds⟩ := id hs
  unfold Builtin.Slice.sliceApplied Builtin.Slice.sliceFields
  refine wpAny_bind (wpAny_bind (wpAny_field hos hds (x := vl) rfl (wpAny_bind (wpAny_field hos hds (x := vu) rfl (wpAny_bind (wpAny_field hos hds (x := vs) rfl (wpAny_pure ?_)))))))
  refine wpAny_bind (slicePart_ ps ?_)
  show wpAny _ _ (if ((-1 : Int) == 0) = true then _ else _) _ _ s
  rw [if_neg (by decide)]
  refine wpAny_bind (slicePart_ pl (wpAny_bind (slicePart_ pu (wpAny_bind (wpAny_pure ?_)))))
  show wpAny _ _ (pure ((n : Int) - 1, (-1 : Int), Builtin.Slice.slicePlaces ((n : Int) - 1) (-1) (-1))) _ _ s
  rw [places_rev]
  exact wpAny_pure h
theorem getItem_tuple_rev {t sl : Addr} {items : Array Value} {vl vu vs : Value} {Q : Value → Shared → Prop} (ht : IsTup s.heap t items) (hs : s.heap.IsSliceOf sl vl vu vs) (pl : IsPart vl none) (pu : IsPart vu none) (ps : IsPart vs (some (-1)))
    (h : Q (.ref s.heap.objs.size) { s with heap := s.heap.push { cls := .type "tuple", data := .seq items.toList.reverse.toArray } })
    (hsz : items.size ≤ sizeLine) : wpAny (model prog w) A (getItem (.ref t) (.ref sl)) Q E s := by
  have htake : sizeOk (.seq items.toList.reverse.toArray) := by
    show items.toList.reverse.toArray.size ≤ sizeLine
    rw [List.size_toArray, List.length_reverse, Array.length_toList]
    omega
  obtain ⟨os, hos, hcs, hds⟩ := id hs
  have hTs : s.TypeIs (.ref sl) "slice" := ⟨os, hos, hcs⟩
  unfold getItem
  try with_reducible refine wpAny_holding ?_
  first | refine wpAny_bind (wpAny_pure ?_) | skip
  refine wpAny_bind (wpAny_sequenceKey ht.typeIs (by decide) ?_)
  refine wpAny_bind (wpAny_callSpecial?_slot (name := Str.ofString "__getitem__") ht.typeIs PyProof.Rows.slot_tuple_getitem
    (wpAny_call_entry PyProof.Rows.slot_tuple_getitem ht.typeIs entry_tuple_getitem ?_ (args_tuple_getitem _ _)))
  show wpAny _ _ (Builtin.Tuple.tupleItemsOf (.ref t) >>= _) _ _ s
  refine wpAny_bind (tupleItemsOf_ ht ?_)
  refine wpAny_bind (wpAny_typeOf hTs ?_)
  rw [if_pos (by decide)]
  refine wpAny_bind (sliceApplied_rev hs pl pu ps ?_)
  have hno : ¬ ((((items.size : Int) - 1) == 0 && (-1 : Int) == 1 && items.size == items.size) = true) := by
    intro q
    rw [Bool.and_eq_true, Bool.and_eq_true] at q
    exact absurd q.1.2 (by decide)
  show wpAny _ _ (if ((((items.size : Int) - 1) == 0 && (-1 : Int) == 1 && items.size == items.size) = true) then _ else _) _ _ s
  rw [if_neg hno, pick_rev]
  first
    | exact wpAny_bind (m := Builtin.Tuple.tupleExact _) (wpAny_newObj_type (wpAny_pure ⟨_, rfl, wpAny_pure h⟩) htake)
    | exact wpAny_bind (m := Builtin.Tuple.tupleExact _) (wpAny_newObj_type (wpAny_bind (wpAny_pure (wpAny_pure ⟨_, rfl, wpAny_pure h⟩))) htake)
    | exact wpAny_bind (wpAny_bind (m := Builtin.Tuple.tupleExact _) (wpAny_newObj_type (wpAny_pure (wpAny_pure ⟨_, rfl, wpAny_pure h⟩)) htake))
    | exact wpAny_bind (wpAny_bind (m := Builtin.Tuple.tupleExact _) (wpAny_newObj_type (wpAny_pure ⟨_, rfl, wpAny_pure h⟩) htake))
end
end HT
namespace L2
open PySem PySem.Spec PyProof.Rows
section
variable {X : Cx}
/-- a list or a tuple, turned about -/
def tRevA (K : PySem.W.Frag) (te : TE) : TE := fun σ H Q => te σ H fun x H1 => ∃ a xs, x = .ref a ∧ ((SqL K H1 a xs ∧ ∀ p, H1 p = none → Q (.ref p) (upd H1 p (.lst xs.reverse))) ∨ (SqT K H1 a xs ∧ NewT H1 xs.reverse Q))
theorem pe_revA {e : Expr} {te : TE} {k : Nat} {p1 p2 p3 pos : Pos} (he : PE X e te) : PE X (.Subscript e (.Slice none none (some (.UnaryOp .USub (.Constant (.int 1) k p1) p2)) p3) pos) (tRevA X.K te) := by
  refine ⟨fun pins s σ H Q I h => ?_⟩
  refine Subscript_ (thn (he.run pins s σ H _ I h) fun v s1 ⟨x, H1, I1, r1, q1⟩ => ?_)
  obtain ⟨a, xs, ex, q⟩ := q1
  subst ex
  cases r1
  have hst : PO X (some (.UnaryOp .USub (.Constant (.int 1) k p1) p2)) (tPart (tUn (rU fun i => .int (-i)) (tC (.int 1)))) := po_some (pe_un un_neg pe_int)
  refine wpAny_Slice (thn (po_none.run pins s1 σ H1 (fun o H2 => o = none ∧ H2 = H1) I1 ⟨rfl, rfl⟩) fun vl s2 ⟨l, H2, I2, pl, el, e2⟩ => ?_)
  subst el e2
  refine thn (po_none.run pins s2 σ H2 (fun o H3 => o = none ∧ H3 = H2) I2 ⟨rfl, rfl⟩) fun vu s3 ⟨u, H3, I3, pu, eu, e3⟩ => ?_
  subst eu e3
  refine thn (hst.run pins s3 σ H3 (fun o H4 => o = some (-1) ∧ H4 = H3) I3 ⟨1, rfl, -1, rfl, rfl, rfl⟩) fun vs s4 ⟨o, H4, I4, ps, eo, e4⟩ => ?_
  subst eo e4
  have I5 : Inv X pins σ H4 { s4 with heap := s4.heap.push { cls := .type "slice", data := .fields #[vl, vu, vs] } } := I4.kept (t' := s4.toks) fun b ob q => Heap.get?_push_of_some _ q
  show wpAny (model X.prog X.w) X.A (subscriptTail e (.Slice none none (some (.UnaryOp .USub (.Constant (.int 1) k p1) p2)) p3) (.ref a) (.ref s4.heap.objs.size)) (EP X pins σ Q) X.xe { s4 with heap := s4.heap.push { cls := .type "slice", data := .fields #[vl, vu, vs] } }
  rcases q with ⟨hx, q⟩ | ⟨hx, q⟩
  · obtain ⟨its, r, ht, hz⟩ := I5.list hx
    have hlen := r.length
    refine tail_any (ops := [.ref a, .ref s4.heap.objs.size]) ht.isList.typeIs (PySem.slot_list_getitem.lookup) ?_ (by with_unfolding_all rfl)
    refine wpAny_getItem_list_slice ht.isList (Heap.IsSliceOf.new _ vl vu vs) pl pu ps (by decide) ?_ (by rw [List.size_toArray]; omega)
    rw [PySem.W.krv_pick]
    refine ⟨.ref _, _, I5.laid (t' := s4.toks) (o := .lst xs.reverse) (fun b ob q => Heap.get?_push_of_some _ q) (Nat.le_refl _) ?_, rfl, q _ (I5.hok.fresh (Nat.le_refl _))⟩
    exact ⟨by rw [List.length_reverse]; exact hz, _, 0, r.reverse, Heap.get?_push_size _ rfl⟩
  · obtain ⟨its, r, ht, hz⟩ := I5.tuple hx
    have hlen := r.length
    refine tail_any (ops := [.ref a, .ref s4.heap.objs.size]) ht.typeIs (PyProof.Rows.slot_tuple_getitem.lookup) ?_ (by with_unfolding_all rfl)
    refine HT.getItem_tuple_rev ht (Heap.IsSliceOf.new _ vl vu vs) pl pu ps ?_ (by rw [List.size_toArray]; omega)
    exact tp_push I5 r.reverse (by rw [List.length_reverse]; exact hz) q
end
end L2
namespace Wb
open PySem PySem.Spec PyProof.Rows L2
variable [PWd]
section
variable {X : Cx} {a : Expr} {ea : Env → Store → Res D} {pos p1 p2 p3 p4 : Pos} {kk : Nat}
theorem v_rev (ha : PE X a (tEv X.K ea)) : PE X (.Subscript a (.Slice none none (some (.UnaryOp .USub (.Constant (.int 1) kk p1) p2)) p3) pos) (tEv X.K fun r s => (ea r s).bind fun x s1 => match listAt s1 x with
    | some xs => alloc (.lst xs.reverse) s1
    | none => match x with
      | .tup xs => .ok (.tup xs.reverse) s1
      | _ => .bad) :=
  (pe_revA ha).imp fun σ H Q ⟨φ, r, S, z, S', hv, hs, e, q⟩ => by
    obtain ⟨d, S1, e1, e⟩ := bind_ok e
    refine ⟨φ, r, S, d, S1, hv, hs, e1, fun φ1 x H1 x1 hs1 r1 => ?_⟩
    have q1 := q.of x1
    -- a list
    have lst : ∀ {b : Addr} {xs : List D} {vs : List V}, listAt S1 d = some xs → x = .ref b → SqL X.K H1 b vs → Reps X.K φ1 H1 xs vs → ∃ a xs, x = V.ref a ∧ ((SqL X.K H1 a xs ∧ ∀ p, H1 p = none → Q (.ref p) (upd H1 p (.lst xs.reverse))) ∨ (SqT X.K H1 a xs ∧ NewT H1 xs.reverse Q)) := by
      intro b xs vs hl hx hv2 hr
      rw [hl] at e
      unfold alloc at e
      cases e
      refine ⟨b, vs, hx, .inl ⟨hv2, fun p hp => ?_⟩⟩
      have ex : Ex φ1 H1 φ1 (upd H1 p (.lst vs.reverse)) := Ex.new hp
      refine q1 (φ1 ++ [p]) (.ref p) _ (ex.reg hp) ((hs1.side hp).reg (fun z => hs1.live z hp) ⟨vs.reverse, upd_same, Reps.reverse (Reps.ext hs1 ex _ _ hr)⟩) ?_
      simp only [Rep]
      exact ⟨p, rfl, by rw [← hs1.len]; simp⟩
    cases d with
    | fix xs =>
      simp only [Rep] at r1
      obtain ⟨b, vs, h1, h2, h3⟩ := r1
      exact lst (xs := xs) rfl h1 h2.sq h3
    | ref n =>
      simp only [Rep] at r1
      obtain ⟨b, h1, h2⟩ := r1
      obtain ⟨o, ho1, ro⟩ := hs1.sget h2
      cases o with
      | lst ys =>
        obtain ⟨vs, h3, h4⟩ := ro
        exact lst (xs := ys) (by simp only [listAt, ho1]) h1 (SqL.of h3) h4
      | dik _ => simp only [listAt, ho1] at e; cases e
      | dit _ => simp only [listAt, ho1] at e; cases e
    | tup xs =>
      simp only [Rep] at r1
      obtain ⟨b, vs, h1, h2, h3⟩ := r1
      simp only [listAt] at e
      cases e
      exact ⟨b, vs, h1, .inr ⟨h2.sq, q1.tup hs1 (Reps.reverse h3)⟩⟩
    | _ => simp only [listAt] at e; cases e
theorem eqL_dpS {K : PySem.W.Frag} {φ : List Addr} {H : Hp} {S : Store} (hs : HS K φ H S) {ds es : List D} {vs ws : List V} {a b : Addr} {k : Bool} (h : eqL S ds es = some k) (ha : SqL K H a vs) (hb : H b = some (.lst ws)) (r1 : Reps K φ H ds vs) (r2 : Reps K φ H es ws) :
    ∃ p q, Dp K H (.ref a) p ∧ Dp K H (.ref b) q ∧ SeqAt.shaped p = true ∧ SeqAt.shaped q = true ∧ PyData.eqv p q = k := by
  unfold eqL at h
  split at h
  · next x y h1 h2 =>
    cases h
    obtain ⟨d1, s1⟩ := pyOks_dp hs h1 r1
    obtain ⟨d2, s2⟩ := pyOks_dp hs h2 r2
    exact ⟨_, _, .lst ha d1, .lst (SqL.of hb) d2, s1, s2, rfl⟩
  · cases h
theorem v_nilq (R : Rm X) {o : CmpOp} (ho : o = .Eq ∨ o = .NotEq) (ha : PE X a (tEv X.K ea)) :
    PE X (.Compare a [o] [.List [] p1] pos) (tEv X.K fun r s => (ea r s).bind fun x s1 => match listAt s1 x with
    | some xs => Res.opt s1 ((eqL s1 xs []).map fun k => .bl (if decide (o = .NotEq) then !k else k))
    | none => .bad) := by
  have hu := R.un
  have hset : isSet (.List [] p1) = false := rfl
  have hnil := v_disp (X := X) (pos := p1) v_argnil
  have key : ∀ {α : Type} {f : Bool → α} {σ : L2.St} {H : Hp} {φ : List Addr} {r : Env} {S S' : Store} {z : α} {G : V → V → Hp → Prop}, VS X.K φ H r σ → HS X.K φ H S → ((ea r S).bind fun x s1 => match listAt s1 x with
      | some xs => Res.opt s1 ((eqL s1 xs []).map f)
      | none => .bad) = .ok z S' →
      (∀ φ2 H2 p q x y k, Ex φ H φ2 H2 → HS X.K φ2 H2 S' → Dp X.K H2 x p → Dp X.K H2 y q → SeqAt.shaped p = true → SeqAt.shaped q = true → PyData.eqv p q = k → z = f k → G x y H2) →
      tEv X.K ea σ H fun x H1 => tLv X.K 2 (fun r s => (Res.ok [] s).bind fun ds s1 => if small ds.length then .ok ds s1 else .bad) σ H1 fun y H2 => G x y H2 := by
    intro α f σ H φ r S S' z G hv hs e h
    obtain ⟨d, S1, e1, e⟩ := bind_ok e
    refine ⟨φ, r, S, d, S1, hv, hs, e1, fun φ1 x H1 x1 hs1 r1 => ⟨φ1, r, S1, [], S1, hv.ext hs x1, hs1, rfl, fun φ2 H2 b ws x2 hs2 r2 lk2 => ?_⟩⟩
    have r3 := Rep.ext hs1 x2 _ _ r1
    obtain ⟨a, vs, xs, hx, hl, hv2, hr⟩ : ∃ a vs xs, x = .ref a ∧ listAt S1 d = some xs ∧ SqL X.K H2 a vs ∧ Reps X.K φ2 H2 xs vs := by
      cases d with
      | fix xs =>
        simp only [Rep] at r3
        obtain ⟨b, vs, h1, h2, h3⟩ := r3
        exact ⟨b, vs, xs, h1, rfl, h2.sq, h3⟩
      | ref n =>
        simp only [Rep] at r3
        obtain ⟨b, h1, h2⟩ := r3
        obtain ⟨o, ho1, ro⟩ := hs2.sget h2
        cases o with
        | lst ys =>
          obtain ⟨vs, h3, h4⟩ := ro
          exact ⟨b, vs, ys, h1, by simp only [listAt, ho1], SqL.of h3, h4⟩
        | dik _ => simp only [listAt, ho1] at e; cases e
        | dit _ => simp only [listAt, ho1] at e; cases e
      | _ => simp only [listAt] at e; cases e
    rw [hl] at e
    obtain ⟨e2, rfl⟩ := opt_ok e
    obtain ⟨k, e4, e5⟩ := map_some e2
    subst hx
    obtain ⟨p, q, d1, d2, s1, s2, e6⟩ := eqL_dpS hs2 e4 hv2 lk2.1 hr r2
    exact h φ2 H2 p q _ _ k (x1.trans x2) hs2 d1 d2 s1 s2 e6 e5
  rcases ho with rfl | rfl
  · refine (pe_cmpR (op_eqD (by omega)) ha hnil (notSet_mark hset)).imp fun σ H Q ⟨φ, r, S, z, S', hv, hs, e, q⟩ => key hv hs e fun φ2 H2 p w x y k x2 hs2 d1 d2 s1 s2 e6 e5 => ⟨p, w, d1, d2, s1, s2, ?_⟩
    subst e5 e6
    exact (q.of x2).same hs2 (by simp only [Rep]; rfl)
  · refine (pe_cmpR (op_neD (by omega)) ha hnil (notSet_mark hset)).imp fun σ H Q ⟨φ, r, S, z, S', hv, hs, e, q⟩ => key hv hs e fun φ2 H2 p w x y k x2 hs2 d1 d2 s1 s2 e6 e5 => ⟨p, w, d1, d2, s1, s2, ?_⟩
    subst e5 e6
    exact (q.of x2).same hs2 (by simp only [Rep]; rfl)
end
end Wb

/-! V1: list.index, d.get, d.setdefault, sep.join. -/
namespace Wb
open PySem PySem.Spec PyProof.Rows L2
variable [PWd]
section
variable {X : Cx} {K : PySem.W.Frag} {φ φ1 φ' : List Addr} {H H1 H' : Hp} {S S1 S' : Store} {d : D} {r : Env} {σ : L2.St} {o a b : Expr} {eo ea eb : Env → Store → Res D} {la : Env → Store → Res (List D)} {pos p ap cp : Pos} {k : Nat}
theorem findIdx_first {α : Type} {p : α → Bool} : ∀ {l : List α} {i : Nat}, l.findIdx? p = some i → ∃ z, l[i]? = some z ∧ p z = true ∧ ∀ m z', m < i → l[m]? = some z' → p z' = false := fun {l i} h => by
  obtain ⟨hl, h1, h2⟩ := List.findIdx?_eq_some_iff_getElem.mp h
  refine ⟨l[i], List.getElem?_eq_getElem hl, h1, fun m z' hm hz => ?_⟩
  obtain ⟨hl', rfl⟩ := List.getElem?_eq_some_iff.mp hz
  simpa using h2 m hm
theorem v_index (R : Rm X) (hca : isCall o = false) (hst : isStar a = false) (hl : (ap.endLine == cp.line) = true) (ho : PE X o (tEv X.K eo)) (ha : PE X a (tEv X.K ea)) :
    PE X (.Call (.Attribute o "index" ap) [a] [] cp) (tEv X.K fun r s => (eo r s).bind fun x s1 => if (seqI s1 x).isSome then (ea r s1).bind fun y s2 => Res.opt s2 (indexD s2 x y) else .bad) := by
  have hu := R.un
  refine (pe_indexA (by omega) ho (pa_cons ha pa_nil (star_cons hst)) (base_of hca) (few_one hst) hl (star_cons hst)).imp fun σ H Q ⟨φ, r, S, z, S', hv, hs, e, q⟩ => ?_
  obtain ⟨x, S1, e1, e⟩ := bind_ok e
  split at e
  · next hls =>
    obtain ⟨y, S2, e2, e⟩ := bind_ok e
    obtain ⟨e3, rfl⟩ := opt_ok e
    refine ⟨φ, r, S, x, S1, hv, hs, e1, fun φ1 u H1 x1 hs1 r1 => ?_⟩
    unfold indexD at e3
    split at e3
    · next xs pa h1 h2 =>
      split at e3
      · next ps h3 =>
        obtain ⟨i, h4, h5⟩ := map_some e3
        subst h5
        obtain ⟨w0, g1, g2, g3⟩ := findIdx_first h4
        cases x with
        | tup ys =>
          cases h1
          simp only [Rep] at r1
          obtain ⟨ad, vs, rfl, ht, rr⟩ := r1
          refine .inr ⟨⟨ad, vs, rfl, ht⟩, φ1, r, S1, y, _, hv.ext hs x1, hs1, e2, fun φ2 w H2 x2 hs2 r2 => ?_⟩
          obtain ⟨d1, s1⟩ := pyOks_dp hs2 h3 (Reps.ext hs1 x2 _ _ rr)
          obtain ⟨d2, s2⟩ := pyOk_dp hs2 h2 r2
          exact ⟨ad, vs, w, pa, ps, i, w0, ⟨rfl, rfl⟩, ⟨(tp_ext hs1 x2 ht).sq, d1⟩, d2, ⟨s1, s2⟩, g1, g2, g3, (q.of (x1.trans x2)).same hs2 (by simp only [Rep])⟩
        | ref n =>
          refine .inl ⟨listK hs1 r1 hls, φ1, r, S1, y, _, hv.ext hs x1, hs1, e2, fun φ2 w H2 x2 hs2 r2 => ?_⟩
          have r1' := Rep.ext hs1 x2 _ _ r1
          simp only [Rep] at r1'
          obtain ⟨ad, rfl, had⟩ := r1'
          obtain ⟨ob, ho1, ro⟩ := hs2.sget had
          have h1 : lstAt _ (D.ref n) = some xs := h1
          simp only [lstAt, ho1] at h1
          cases ob with
          | lst ys =>
            cases h1
            obtain ⟨vs, hvs, rr⟩ := ro
            obtain ⟨d1, s1⟩ := pyOks_dp hs2 h3 rr
            obtain ⟨d2, s2⟩ := pyOk_dp hs2 h2 r2
            exact ⟨ad, w, pa, ps, i, w0, rfl, rfl, .lst (SqL.of hvs) d1, d2, s1, s2, g1, g2, g3, (q.of (x1.trans x2)).same hs2 (by simp only [Rep])⟩
          | dik _ => cases h1
          | dit _ => cases h1
        | _ => cases h1
      · cases e3
    · cases e3
  · cases e
theorem few_two {env : PySem.Env} (h : isStar a = false) (h' : isStar b = false) : ((backTo cp (starEach [a, b] env)).all (fun x => !x.1) && (backToKw cp (keywordEach [] env)).all (fun x => x.1.isSome)
      && decide (([a, b] : List Expr).length + ([] : List Keyword).length + (if ([] : List Keyword).isEmpty then 0 else 1) < 30)) = true := by
  rw [star_cons h, star_cons h']; rfl
theorem m2_of {m : Str} (hca : isCall o = false) (hst : isStar a = false) (hst2 : isStar b = false) (hl : (ap.endLine == cp.line) = true) : M2 X o m ap a b cp :=
  ⟨base_of hca, few_two hst hst2, hl, by rw [star_cons hst, star_cons hst2]; rfl⟩
theorem dik_of {x : D} {v : V} (hs : HS K φ H S) (hr : Rep K φ H x v) {kvs : List (L2.Key × D)} (h : dikAt S x = some kvs) : ∃ (n : Nat) (a : Addr) (ws : List (L2.Key × V)), x = .ref n ∧ v = .ref a ∧ φ[n]? = some a ∧ S[n]? = some (.dik kvs) ∧ H a = some (.dK ws) ∧ KRep K φ H kvs ws := by
  cases x <;> simp only [dikAt] at h <;> try (cases h; done)
  rename_i n
  simp only [Rep] at hr
  obtain ⟨a, rfl, ha⟩ := hr
  obtain ⟨ob, ho, ro⟩ := hs.sget ha
  rw [ho] at h
  cases ob with
  | lst _ => cases h
  | dit _ => cases h
  | dik _ =>
    cases h
    obtain ⟨ws, h1, h2⟩ := ro
    exact ⟨n, a, ws, rfl, rfl, ha, ho, h1, h2⟩
theorem dik_is {x : D} {v : V} (hs : HS K φ H S) (hr : Rep K φ H x v) (h : (dikAt S x).isSome = true) : ∃ a, v = .ref a ∧ IsD H a := by
  obtain ⟨kvs, h1⟩ := Option.isSome_iff_exists.mp h
  obtain ⟨n, a, ws, rfl, rfl, h2, h3, h4, h5⟩ := dik_of hs hr h1
  exact ⟨a, rfl, .inl ⟨ws, .inl h4⟩⟩
theorem v_get2 (R : Rm X) (hca : isCall o = false) (hst : isStar a = false) (hst2 : isStar b = false) (hl : (ap.endLine == cp.line) = true) (ho : PE X o (tEv X.K eo)) (ha : PE X a (tEv X.K ea)) (hb : PE X b (tEv X.K eb)) :
    PE X (.Call (.Attribute o "get" ap) [a, b] [] cp) (tEv X.K fun r s => (eo r s).bind fun x s1 => if (dikAt s1 x).isSome then (ea r s1).bind fun y s2 => (eb r s2).bind fun z s3 => Res.opt s3 (get2D s3 x y z) else .bad) := by
  have hu := R.un
  refine (pe_dget2 (by omega) ho ha hb (m2_of hca hst hst2 hl)).imp fun σ H Q ⟨φ, r, S, zz, S', hv, hs, e, q⟩ => ?_
  obtain ⟨x, S1, e1, e⟩ := bind_ok e
  split at e
  · next hls =>
    obtain ⟨y, S2, e2, e⟩ := bind_ok e
    obtain ⟨z, S3, e3, e⟩ := bind_ok e
    obtain ⟨e4, rfl⟩ := opt_ok e
    refine ⟨φ, r, S, x, S1, hv, hs, e1, fun φ1 u H1 x1 hs1 r1 => ?_⟩
    obtain ⟨ad, rfl, isd⟩ := dik_is hs1 r1 hls
    refine ⟨ad, rfl, isd, φ1, r, S1, y, _, hv.ext hs x1, hs1, e2, fun φ2 w H2 x2 hs2 r2 => ⟨φ2, r, S2, z, _, (hv.ext hs x1).ext hs1 x2, hs2, e3, fun φ3 t H3 x3 hs3 r3 => ?_⟩⟩
    have r1' := Rep.ext hs1 (x2.trans x3) _ _ r1
    have r2' := Rep.ext hs2 x3 _ _ r2
    unfold get2D at e4
    split at e4
    · next kvs h1 =>
      obtain ⟨kk, h2, h3⟩ := map_some e4
      obtain ⟨n, ad', ws, rfl, h5, h6, h7, h8, h9⟩ := dik_of hs3 r1' h1
      cases h5
      have hk := key_v h2 r2'
      subst hk
      have g := h9.get kk
      refine ⟨valV ws kk, DGet.k h8, (q.of ((x1.trans x2).trans x3)).same hs3 ?_⟩
      subst h3
      cases h10 : getK kvs kk with
      | none =>
        have : valV ws kk = none := by
          have := h9.some_ kk
          rw [h10] at this
          simpa using this.symm
        rw [this]
        exact r3
      | some dd =>
        obtain ⟨v0, h11, h12⟩ := h9.val h10
        rw [h11]
        exact h12
    · cases e4
  · cases e
theorem v_setd (R : Rm X) (hca : isCall o = false) (hst : isStar a = false) (hst2 : isStar b = false) (hl : (ap.endLine == cp.line) = true) (ho : PE X o (tEv X.K eo)) (ha : PE X a (tEv X.K ea)) (hb : PE X b (tEv X.K eb)) :
    PE X (.Call (.Attribute o "setdefault" ap) [a, b] [] cp) (tEv X.K fun r s => (eo r s).bind fun x s1 => if (dikAt s1 x).isSome then (ea r s1).bind fun y s2 => (eb r s2).bind fun z s3 => match setdD s3 x y z with
      | some (v, s4) => .ok v s4
      | none => .bad
    else .bad) := by
  refine (pe_dsetd ho ha hb (m2_of hca hst hst2 hl)).imp fun σ H Q ⟨φ, r, S, zz, S', hv, hs, e, q⟩ => ?_
  obtain ⟨x, S1, e1, e⟩ := bind_ok e
  split at e
  · next hls =>
    obtain ⟨y, S2, e2, e⟩ := bind_ok e
    obtain ⟨z, S3, e3, e⟩ := bind_ok e
    refine ⟨φ, r, S, x, S1, hv, hs, e1, fun φ1 u H1 x1 hs1 r1 => ?_⟩
    obtain ⟨ad, rfl, isd⟩ := dik_is hs1 r1 hls
    refine ⟨ad, rfl, isd, φ1, r, S1, y, _, hv.ext hs x1, hs1, e2, fun φ2 w H2 x2 hs2 r2 => ⟨φ2, r, S2, z, _, (hv.ext hs x1).ext hs1 x2, hs2, e3, fun φ3 t H3 x3 hs3 r3 => ?_⟩⟩
    have r1' := Rep.ext hs1 (x2.trans x3) _ _ r1
    have r2' := Rep.ext hs2 x3 _ _ r2
    have q3 := q.of ((x1.trans x2).trans x3)
    split at e
    · next v s4 h1 =>
      cases e
      cases x <;> simp only [setdD] at h1 <;> try (cases h1; done)
      rename_i n _
      split at h1
      · next kvs h2 =>
        obtain ⟨n', ad', ws, h4, h5, h6, h7, h8, h9⟩ := dik_of hs3 r1' (show dikAt S3 (.ref n) = some kvs by simp only [dikAt, h2])
        cases h4
        cases h5
        split at h1
        · next kk h10 =>
          have hk := key_v h10 r2'
          subst hk
          split at h1
          · next hz =>
            have hl : ws.length < sizeLine := by
              have := small_le hz
              have h5 := sz_top (n := kvs.length + 1) (by omega)
              rw [h9.len]; omega
            cases h11 : getK kvs kk with
            | some dd =>
              rw [h11] at h1
              cases h1
              obtain ⟨v0, h12, h13⟩ := h9.val h11
              refine ⟨ws, kk, h8, rfl, hl, fun v' hv' => ?_, fun hn => ?_⟩
              · rw [h12] at hv'; cases hv'
                exact q3.same hs3 h13
              · rw [h12] at hn; cases hn
            | none =>
              rw [h11] at h1
              cases h1
              have h12 : valV ws kk = none := by
                have := h9.some_ kk
                rw [h11] at this
                simpa using this.symm
              refine ⟨ws, kk, h8, rfl, hl, fun v' hv' => (by rw [h12] at hv'; cases hv'), fun _ => ?_⟩
              have hm := hs3.mutEx (u := HO.dK (putK ws kk t)) h6
              refine q3 φ3 _ _ hm ?_ (Rep.ext hs3 hm _ _ r3)
              exact hs3.set h7 h6 ⟨_, upd_same, (h9.ext hs3 hm).set kk (Rep.ext hs3 hm _ _ r3)⟩
          · cases h1
        · cases h1
      · cases h1
    · cases e
  · cases e
theorem Reps.strs : ∀ {ds : List D} {vs : List V} {ns : List Str}, Reps K φ H ds vs → asStrs ds = some ns → vs = ns.map V.str
  | [], vs, ns, h, e => by simp only [Reps] at h; simp [asStrs, mapO] at e; rw [h, e]; rfl
  | d :: ds, vs, ns, h, e => by
    simp only [Reps] at h
    obtain ⟨v, r, rfl, h2, h3⟩ := h
    unfold asStrs mapO at e
    cases d <;> simp only [asStr] at e <;> try (cases e; done)
    cases q : mapO asStr ds with
    | none => rw [q] at e; cases e
    | some t =>
      rw [q] at e
      simp at e
      subst e
      simp only [Rep] at h2
      rw [h2, Reps.strs h3 q]; rfl
theorem LK.both {H0 : Hp} {a : Addr} {vs : List V} {ds : List D} (h : LK K k S ds H0 φ H a vs) : SqL K H a vs ∨ SqT K H a vs := by
  rcases h.any with h | h
  · exact .inl h
  · exact .inr h.sq
theorem v_join (hca : isCall o = false) (hst : isStar a = false) (hl : (ap.endLine == cp.line) = true) (ho : PE X o (tEv X.K eo)) (ha : PE X a (tLv X.K k la)) (hstr : ∀ r s x s1, eo r s = .ok x s1 → ∃ z, x = .str z) :
    PE X (.Call (.Attribute o "join" ap) [a] [] cp) (tEv X.K fun r s => (eo r s).bind fun x s1 => (la r s1).bind fun ds s2 => Res.opt s2 (joinD x ds)) := by
  refine (pe_join ho ha (star_cons hst) (base_of hca) hl).imp fun σ H Q ⟨φ, r, S, z, S', hv, hs, e, q⟩ => ?_
  obtain ⟨x, S1, e1, e⟩ := bind_ok e
  obtain ⟨ds, S2, e2, e⟩ := bind_ok e
  obtain ⟨e3, rfl⟩ := opt_ok e
  obtain ⟨t, rfl⟩ := hstr _ _ _ _ e1
  refine ⟨φ, r, S, _, S1, hv, hs, e1, fun φ1 u H1 x1 hs1 r1 => ?_⟩
  simp only [Rep] at r1
  subst r1
  refine ⟨⟨t, rfl⟩, φ1, r, S1, ds, _, hv.ext hs x1, hs1, e2, fun φ2 H2 ad vs x2 hs2 r2 lk => ?_⟩
  unfold joinD at e3
  split at e3
  · next a' ys h1 h2 =>
    cases h1
    split at e3
    · next hz =>
      cases e3
      have hvs := r2.strs h2
      subst hvs
      exact ⟨t, ad, ys, rfl, rfl, lk.both, by omega, (q.of (x1.trans x2)).same hs2 (by simp only [Rep])⟩
    · cases e3
  · cases e3
end
end Wb

/-! W13: targets, what a loop walks, comprehensions. -/
namespace Wb
open PySem PySem.Spec PyProof.Rows L2 RZ
variable [PWd]
section
variable {X : Cx} {K : PySem.W.Frag} {φ φ1 φ' : List Addr} {H H1 H' : Hp} {S S1 S' : Store} {d : D} {r : Env} {σ : L2.St} {a b : Expr} {ea eb : Env → Store → Res D} {pos p : Pos} {js ks : List Nat}
/-! ### targets -/
theorem Stay.rfl' : Stay js σ σ := ⟨rfl, fun _ _ => rfl⟩
theorem Stay.trans {σ1 σ2 : L2.St} (h : Stay js σ σ1) (g : Stay ks σ1 σ2) : Stay (js ++ ks) σ σ2 :=
  ⟨g.1.trans h.1, fun j hj => (g.2 j fun m => hj (List.mem_append_right _ m)).trans (h.2 j fun m => hj (List.mem_append_left _ m))⟩
theorem Stay.sub {σ1 : L2.St} (h : Stay js σ σ1) (hs : ∀ j ∈ js, j ∈ ks) : Stay ks σ σ1 := ⟨h.1, fun j hj => h.2 j fun m => hj (hs j m)⟩
theorem v_gname {i : Nat} {x : Str} (hN : X.N.Nodup) (hi : X.N[i]? = some x) (hx : Loc X.env.scope x) (hf : X.fn x = true ∨ X.env.scope.names.lookup x = some .local) : PG X (.Name x pos) (tGv X.K [i] fun d r s => .ok (r.set i (some d)) s) :=
  (pg_name hN hi hx hf).imp fun v σ H Q ⟨φ, r, S, d, r', S', hv, hs, hr, e, q⟩ => by
    cases e
    exact q φ _ H Ex.rfl' hs (hv.set i hr) ⟨by simp, fun j hj => by
      rw [List.getElem?_set_ne]
      exact fun e => hj (by rw [e]; simp)⟩
theorem v_gnil : PGs X [] (tGsv X.K [] fun ds r s => .ok r s) :=
  ⟨fun pins s σ H vs us Q I rv q => by
    obtain ⟨φ, r, S, ds, r', S', hv, hs, hr, e, q⟩ := q
    cases e
    exact PyProof.Rows.assignInOrder_nil ⟨σ, H, I, q φ σ H Ex.rfl' hs hv Stay.rfl'⟩⟩
theorem each_cons {e : Expr} {es : List Expr} {env : PySem.Env} (h : isStar e = false) : assignEach (e :: es) env = (false, assign e env) :: assignEach es env := by
  cases e <;> first | rfl | (simp [isStar] at h)
theorem each_len {env : PySem.Env} : ∀ {es : List Expr}, (assignEach es env).length = es.length
  | [] => rfl
  | e :: es => by
    have ih := each_len (env := env) (es := es)
    cases e <;> (unfold assignEach; simp [ih])
theorem each_star {env : PySem.Env} : ∀ {es : List Expr}, es.any isStar = false → (assignEach es env).findIdx? (·.1) = none
  | [], _ => rfl
  | e :: es, h => by
    simp only [List.any_cons, Bool.or_eq_false_iff] at h
    rw [each_cons h.1, List.findIdx?_cons, each_star h.2]
    rfl
theorem v_gcons {e : Expr} {es : List Expr} {ev : D → Env → Store → Res Env} {evs : List D → Env → Store → Res Env} (hst : isStar e = false) (h1 : PG X e (tGv X.K js ev)) (h2 : PGs X es (tGsv X.K ks evs)) :
    PGs X (e :: es) (tGsv X.K (js ++ ks) fun ds r s => match ds with
      | d :: ds => (ev d r s).bind fun r1 s1 => evs ds r1 s1
      | [] => .bad) :=
  (pgs_cons h1 h2 (by rw [each_cons hst]; rfl)).imp fun vs σ H Q ⟨φ, r, S, ds, r', S', hv, hs, hr, e, q⟩ => by
    cases ds with
    | nil => cases e
    | cons d ds =>
      obtain ⟨r1, S1, e1, e⟩ := bind_ok e
      simp only [Reps] at hr
      obtain ⟨v, ws, rfl, h1, h2⟩ := hr
      refine ⟨v, ws, rfl, φ, r, S, d, r1, S1, hv, hs, h1, e1, fun φ1 σ1 H1 x1 hs1 hv1 st1 => ?_⟩
      exact ⟨φ1, r1, S1, ds, r', S', hv1, hs1, Reps.ext hs x1 _ _ h2, e, fun φ2 σ2 H2 x2 hs2 hv2 st2 => q φ2 σ2 H2 (x1.trans x2) hs2 hv2 (st1.trans st2)⟩
theorem v_gtup {es : List Expr} {k n : Nat} {evs : List D → Env → Store → Res Env} (hc : X.calm = true) (hst : es.any isStar = false) (hn : es.length = n) (h : PGs X es (tGsv X.K js evs)) :
    PG X (.Tuple es k pos) (tGv X.K js fun d r s => match d with
      | .tup xs => if xs.length = n then evs xs r s else .bad
      | _ => .bad) :=
  (pg_tup hc h (n := n) (by rw [each_len, hn]) (each_star hst)).imp fun v σ H Q ⟨φ, r, S, d, r', S', hv, hs, hr, e, q⟩ => by
    cases d <;> simp only at e <;> try (cases e; done)
    next xs =>
    split at e
    · next hl =>
      simp only [Rep] at hr
      obtain ⟨a, vs, rfl, ha, hr⟩ := hr
      exact ⟨a, vs, rfl, ha.sq, by rw [hr.len, hl], φ, r, S, xs, r', S', hv, hs, hr, e, q⟩
    · cases e
theorem v_gsub (R : Rm X) {o i : Expr} {eo ei : Env → Store → Res D} (hsl : isSlice i = false) (ho : PE X o (tEv X.K eo)) (hi : PE X i (tEv X.K ei)) :
    PG X (.Subscript o i pos) (tGv X.K [] fun d r s => (eo r s).bind fun x s1 => (ei r s1).bind fun y s2 => match setD s2 x y d with
      | some s3 => .ok r s3
      | none => .bad) :=
  (pg_sub ho hi (set_sim R) (by intro v; cases i <;> first | rfl | (simp [isSlice] at hsl))).imp fun v σ H Q ⟨φ, r, S, d, r', S', hv, hs, hr, e, q⟩ => by
    refine v_two (R := fun x y H2 => rSetD X.K x y v H2 fun H3 => Q σ H3) hv hs e fun φ2 H2 S2 x y d1 d2 x2 hs2 hv2 r1 r2 e3 => ?_
    split at e3
    · next h1 =>
      cases e3
      exact ⟨φ2, S2, d1, d2, d, _, hs2, r1, r2, Rep.ext hs x2 _ _ hr, h1, fun H3 x3 hs3 => q φ2 σ H3 (x2.trans x3) hs3 (hv2.ext hs2 x3) Stay.rfl'⟩
    · cases e3
/-! ### what a loop walks -/
def ItK (K : PySem.W.Frag) (φ : List Addr) (H : Hp) (p : List D × Option (Nat × List D)) (J : L2.It) : Prop :=
  ∀ φ2 H2 S2, Ex φ H φ2 H2 → HS K φ2 H2 S2 → still S2 p.2 = true →
    (∀ i d, p.1[i]? = some d → J.go i H2 ∧ ∀ x H3, J.yld i H2 x H3 → Ex φ2 H2 φ2 H3 ∧ HS K φ2 H3 S2 ∧ Rep K φ2 H3 d x) ∧ J.stop p.1.length H2
def tIv (K : PySem.W.Frag) (ev : Env → Store → Res (List D × Option (Nat × List D))) : TI := fun σ H R => ∃ φ r S p S', VS K φ H r σ ∧ HS K φ H S ∧ ev r S = .ok p S' ∧
  ∀ φ' H' J, Ex φ H φ' H' → HS K φ' H' S' → ItK K φ' H' p J → R J H'
theorem itk_tup {a : Addr} {xs : List D} {vs : List V} (hs : HS K φ H S) (ha : SqT K H a vs) (hr : Reps K φ H xs vs) : ItK K φ H (xs, none) (Itt K a) := fun φ2 H2 S2 x2 hs2 _ => by
  have hq := sqT_ext hs x2 ha
  have hr2 := Reps.ext hs x2 _ _ hr
  refine ⟨fun i d hd => ?_, ⟨vs, hq, Nat.le_of_eq hr2.len⟩⟩
  obtain ⟨v, hv, rv⟩ := hr2.at_ hd
  refine ⟨⟨vs, v, hq, hv⟩, fun x H3 hy => ?_⟩
  obtain ⟨rfl, hy⟩ := hy
  have := hy vs hq
  rw [hv] at this
  cases this
  exact ⟨Ex.rfl', hs2, rv⟩
theorem itk_lst {a : Addr} {xs : List D} {g : Option (Nat × List D)} (h : ∀ φ2 H2 S2, Ex φ H φ2 H2 → HS K φ2 H2 S2 → still S2 g = true → ∃ vs, SqL K H2 a vs ∧ Reps K φ2 H2 xs vs) : ItK K φ H (xs, g) (Itl K a) := fun φ2 H2 S2 x2 hs2 st => by
  obtain ⟨vs, hq, hr2⟩ := h φ2 H2 S2 x2 hs2 st
  refine ⟨fun i d hd => ?_, ⟨vs, hq, Nat.le_of_eq hr2.len⟩⟩
  obtain ⟨v, hv, rv⟩ := hr2.at_ hd
  refine ⟨⟨vs, v, hq, hv⟩, fun x H3 hy => ?_⟩
  obtain ⟨rfl, hy⟩ := hy
  have := hy vs hq
  rw [hv] at this
  cases this
  exact ⟨Ex.rfl', hs2, rv⟩
theorem v_it (he : PE X a (tEv X.K ea)) {tg : Expr} : PI X tg a (tIv X.K fun r s => (ea r s).bind fun x s1 => match x with
    | .tup xs => .ok (xs, none) s1
    | .fix xs => .ok (xs, none) s1
    | .str z => .ok (z.cps.toList.map fun c => .str ⟨#[c]⟩, none) s1
    | .ref n => match s1[n]? with
      | some (.lst xs) => .ok (xs, some (n, xs)) s1
      | _ => .bad
    | _ => .bad) := ⟨fun pins s σ H R I q => by
  obtain ⟨φ, r, S, p, S', hv, hs, e, q⟩ := q
  obtain ⟨x, S1, e1, e⟩ := bind_ok e
  cases x <;> simp only at e <;> try (cases e; done)
  case tup xs =>
    cases e
    refine (pi_tup he).run pins s σ H R I ⟨φ, r, S, _, S', hv, hs, e1, fun φ1 v H1 x1 hs1 r1 => ?_⟩
    simp only [Rep] at r1
    obtain ⟨b, vs, rfl, hb, hr⟩ := r1
    exact ⟨b, rfl, ⟨vs, hb.sq⟩, q φ1 H1 _ x1 hs1 (itk_tup hs1 (hb.sq) hr)⟩
  case fix xs =>
    cases e
    refine (pi_list he).run pins s σ H R I ⟨φ, r, S, _, S', hv, hs, e1, fun φ1 v H1 x1 hs1 r1 => ?_⟩
    simp only [Rep] at r1
    obtain ⟨b, vs, rfl, hb, hr⟩ := r1
    exact ⟨b, rfl, ⟨vs, hb.sq⟩, q φ1 H1 _ x1 hs1 (itk_lst fun φ2 H2 S2 x2 hs2 _ => ⟨vs, (fix_ext hs1 x2 hb).sq, Reps.ext hs1 x2 _ _ hr⟩)⟩
  case str z =>
    cases e
    refine (pi_str he).run pins s σ H R I ⟨φ, r, S, _, S', hv, hs, e1, fun φ1 v H1 x1 hs1 r1 => ?_⟩
    simp only [Rep] at r1
    subst r1
    refine ⟨z, rfl, q φ1 H1 _ x1 hs1 fun φ2 H2 S2 x2 hs2 _ => ⟨fun i d hd => ?_, ?_⟩⟩
    · simp only [List.getElem?_map, Option.map_eq_some_iff] at hd
      obtain ⟨c, hc, rfl⟩ := hd
      rw [Array.getElem?_toList] at hc
      refine ⟨(Array.getElem?_eq_some_iff.mp hc).1, fun x H3 hy => ?_⟩
      obtain ⟨rfl, c', hc', rfl⟩ := hy
      rw [hc] at hc'
      cases hc'
      exact ⟨Ex.rfl', hs2, by simp only [Rep]⟩
    · show z.cps.size ≤ _
      simp
  case ref n =>
    split at e
    · next xs hx =>
      cases e
      refine (pi_list he).run pins s σ H R I ⟨φ, r, S, _, S', hv, hs, e1, fun φ1 v H1 x1 hs1 r1 => ?_⟩
      simp only [Rep] at r1
      obtain ⟨b, rfl, hb⟩ := r1
      obtain ⟨o, ho1, ro⟩ := hs1.sget hb
      rw [hx] at ho1
      cases ho1
      obtain ⟨vs, h1, h2⟩ := ro
      refine ⟨b, rfl, ⟨vs, SqL.of h1⟩, q φ1 H1 _ x1 hs1 (itk_lst fun φ2 H2 S2 x2 hs2 st => ?_)⟩
      have hx2 : S2[n]? = some (.lst xs) := of_decide_eq_true st
      obtain ⟨b2, hb2, ro2⟩ := hs2.at_ hx2
      obtain ⟨ψ, rfl, _⟩ := x2.pre
      rw [List.getElem?_append_left (List.getElem?_eq_some_iff.mp hb).1, hb] at hb2
      cases hb2
      obtain ⟨vs2, h3, h4⟩ := ro2
      exact ⟨vs2, SqL.of h3, h4⟩
    · cases e⟩
variable {la : Env → Store → Res (List D)}
theorem v_itL (he : PE X a (tLv X.K 2 la)) {tg : Expr} : PI X tg a (tIv X.K fun r s => (la r s).bind fun xs s1 => .ok (xs, none) s1) := ⟨fun pins s σ H R I q => by
  obtain ⟨φ, r, S, p, S', hv, hs, e, q⟩ := q
  obtain ⟨xs, S1, e1, e⟩ := bind_ok e
  cases e
  refine (pi_list he).run pins s σ H R I ⟨φ, r, S, _, S', hv, hs, e1, fun φ1 H1 b vs x1 hs1 r1 lk => ?_⟩
  obtain ⟨l1, l2, l3⟩ := lk
  exact ⟨b, rfl, ⟨vs, SqL.of l1⟩, q φ1 H1 _ x1 hs1 (itk_lst fun φ2 H2 S2 x2 hs2 _ => ⟨vs, SqL.of (x2.keep b _ l1 l2), Reps.ext hs1 x2 _ _ r1⟩)⟩⟩
theorem itk_rng {i j : Int} {n : Nat} (hn : n = (j - i).toNat) : ItK K φ H (rngL i j, none) (Itr i n) := fun φ2 H2 S2 x2 hs2 _ => by
  subst hn
  refine ⟨fun k d hd => ?_, ?_⟩
  · unfold rngL at hd
    rw [List.getElem?_map] at hd
    obtain ⟨m, hm, rfl⟩ := Option.map_eq_some_iff.mp hd
    obtain ⟨h1, h2⟩ := List.getElem?_eq_some_iff.mp hm
    simp only [List.length_range] at h1
    simp only [List.getElem_range] at h2
    subst h2
    refine ⟨h1, fun x H3 hy => ?_⟩
    obtain ⟨rfl, rfl⟩ := hy
    exact ⟨Ex.rfl', hs2, by simp only [Rep]⟩
  · show (j - i).toNat ≤ _
    unfold rngL
    simp
theorem v_itr1 (hg : Gl X "range") (hm : X.mg "range" = none) (hst : isStar a = false) (he : PE X a (tEv X.K ea)) {tg : Expr} : PI X tg (.Call (.Name "range" p) [a] [] pos) (tIv X.K fun r s => (Res.ok (D.int 0) s).bind fun x s1 => (ea r s1).bind fun y s2 => match x, y with
      | .int i, .int j => if rngOk i j then .ok (rngL i j, none) s2 else .bad
      | _, _ => .bad) :=
  (pi_range1 hg hm (pa_cons he pa_nil (star_cons hst)) (star_cons hst)).imp fun σ H R ⟨φ, r, S, p, S', hv, hs, e, q⟩ => by
    simp only [Res.bind_ok] at e
    obtain ⟨y, S2, e2, e⟩ := bind_ok e
    cases y <;> simp only at e <;> try (cases e; done)
    next j =>
    split at e
    · next hz =>
      cases e
      refine ⟨φ, r, S, _, _, hv, hs, e2, fun φ1 v H1 x1 hs1 r1 => ?_⟩
      simp only [Rep] at r1
      subst r1
      have hz' := rng_ok hz
      exact ⟨j, rfl, by have := hz'.2.2.1; omega, by have := hz'.2.2.2; omega, q φ1 H1 _ x1 hs1 (itk_rng (by simp))⟩
    · cases e
theorem v_itr2 (hg : Gl X "range") (hm : X.mg "range" = none) (hst : isStar a = false) (hst2 : isStar b = false) (he : PE X a (tEv X.K ea)) (hb : PE X b (tEv X.K eb)) {tg : Expr} : PI X tg (.Call (.Name "range" p) [a, b] [] pos) (tIv X.K fun r s => (ea r s).bind fun x s1 => (eb r s1).bind fun y s2 => match x, y with
      | .int i, .int j => if rngOk i j then .ok (rngL i j, none) s2 else .bad
      | _, _ => .bad) :=
  (pi_range2 hg hm (pa_cons he (pa_cons hb pa_nil (star_cons hst2)) (star_cons hst)) (by rw [star_cons hst, star_cons hst2]; rfl) (star_cons hst2)).imp fun σ H R ⟨φ, r, S, p, S', hv, hs, e, q⟩ => by
    obtain ⟨x, S1, e1, e⟩ := bind_ok e
    obtain ⟨y, S2, e2, e⟩ := bind_ok e
    cases x <;> cases y <;> simp only at e <;> try (cases e; done)
    rename_i i _ j
    split at e
    · next hz =>
      cases e
      refine ⟨φ, r, S, _, _, hv, hs, e1, fun φ1 v H1 x1 hs1 r1 => ⟨φ1, r, _, _, _, hv.ext hs x1, hs1, e2, fun φ2 w H2 x2 hs2 r2 => ?_⟩⟩
      simp only [Rep] at r1 r2
      subst r1; subst r2
      have hz' := rng_ok hz
      exact ⟨i, j, rfl, ⟨by have := hz'.1; omega, by have := hz'.2.1; omega, by have := hz'.2.2.1; omega, by have := hz'.2.2.2; omega⟩, q φ2 H2 _ (x1.trans x2) hs2 (itk_rng rfl)⟩
    · cases e
theorem zipL_at : ∀ {xs ys : List D} {i : Nat} {d : D}, (zipL xs ys)[i]? = some d → ∃ x y, xs[i]? = some x ∧ ys[i]? = some y ∧ d = .tup [x, y]
  | [], ys, i, d, h => by simp [zipL] at h
  | x :: xs, [], i, d, h => by simp [zipL] at h
  | x :: xs, y :: ys, 0, d, h => by
    simp [zipL] at h
    exact ⟨x, y, rfl, rfl, h.symm⟩
  | x :: xs, y :: ys, i + 1, d, h => by
    simp only [zipL, List.getElem?_cons_succ] at h ⊢
    exact zipL_at h
theorem zipL_len : ∀ {xs ys : List D}, (zipL xs ys).length = min xs.length ys.length
  | [], ys => by simp [zipL]
  | x :: xs, [] => by simp [zipL]
  | x :: xs, y :: ys => by simp [zipL, zipL_len (xs := xs) (ys := ys)]
theorem v_itz {elts : List Expr} {kk : Nat} {tpos : Pos} (hg : Gl X "zip") (hm : X.mg "zip" = none) (hst : isStar a = false) (hst2 : isStar b = false) (he : PE X a (tEv X.K ea)) (hb : PE X b (tEv X.K eb)) :
    PI X (.Tuple elts kk tpos) (.Call (.Name "zip" p) [a, b] [] pos) (tIv X.K fun r s => (ea r s).bind fun x s1 => (eb r s1).bind fun y s2 => match x, y with
      | .tup xs, .tup ys => .ok (zipL xs ys, none) s2
      | _, _ => .bad) :=
  (pi_zipN hg hm (pa_cons he (pa_cons hb pa_nil (star_cons hst2)) (star_cons hst)) (star_cons hst) (star_none (by simp [hst2]))).imp fun σ H R ⟨φ, r, S, p, S', hv, hs, e, q⟩ => by
    obtain ⟨x, S1, e1, e⟩ := bind_ok e
    obtain ⟨y, S2, e2, e⟩ := bind_ok e
    cases x <;> cases y <;> simp only at e <;> try (cases e; done)
    rename_i xs _ ys
    cases e
    refine ⟨φ, r, S, _, _, hv, hs, e1, fun φ1 v H1 x1 hs1 r1 => ⟨φ1, r, _, _, _, hv.ext hs x1, hs1, e2, fun φ2 w H2 x2 hs2 r2 => ?_⟩⟩
    have r1' := Rep.ext hs1 x2 _ _ r1
    simp only [Rep] at r1' r2
    obtain ⟨p1, vs, rfl, h1, g1⟩ := r1'
    obtain ⟨p2, ws, rfl, h2, g2⟩ := r2
    refine ⟨p1, p2, vs, ws, rfl, h1.sq, h2.sq, q φ2 H2 _ (x1.trans x2) hs2 fun φ3 H3 S3 x3 hs3 _ => ?_⟩
    have q1 := sqT_ext hs2 x3 (Tp.sq (K := X.K) h1)
    have q2 := sqT_ext hs2 x3 (Tp.sq (K := X.K) h2)
    have k1 := Reps.ext hs2 x3 _ _ g1
    have k2 := Reps.ext hs2 x3 _ _ g2
    refine ⟨fun i d hd => ?_, ⟨vs, ws, q1, q2, ?_⟩⟩
    · obtain ⟨d1, d2, a1, a2, rfl⟩ := zipL_at hd
      obtain ⟨v1, b1, c1⟩ := k1.at_ a1
      obtain ⟨v2, b2, c2⟩ := k2.at_ a2
      refine ⟨⟨vs, ws, v1, v2, q1, q2, b1, b2⟩, fun x H4 hy => ?_⟩
      obtain ⟨T, y1, y2, ob, rfl, hT, ⟨hod, rfl⟩, z1, z2⟩ := hy
      have e1 := z1 vs q1
      have e2 := z2 ws q2
      rw [b1] at e1
      rw [b2] at e2
      cases e1; cases e2
      have x4 : Ex φ3 H3 φ3 (upd H3 T (.frz ob (.tup [v1, v2]))) := Ex.new hT
      refine ⟨x4, hs3.side hT, ?_⟩
      simp only [Rep]
      refine ⟨T, _, rfl, Tp.obj hod, ?_⟩
      simp only [Reps]
      exact ⟨_, _, rfl, Rep.ext hs3 x4 _ _ c1, _, _, rfl, Rep.ext hs3 x4 _ _ c2, rfl⟩
    · show vs.length ≤ (zipL xs ys).length ∨ ws.length ≤ (zipL xs ys).length
      rw [zipL_len, k1.len, k2.len]
      omega
omit [PWd] in
theorem enumL_at : ∀ {xs : List D} {k : Int} {i : Nat} {d : D}, (enumL k xs)[i]? = some d → ∃ x, xs[i]? = some x ∧ d = .tup [.int (k + (i : Int)), x]
  | [], _, _, _, h => by simp [enumL] at h
  | x :: r, k, 0, d, h => by
    simp [enumL] at h
    exact ⟨x, rfl, by rw [← h]; simp⟩
  | x :: r, k, i + 1, d, h => by
    simp only [enumL, List.getElem?_cons_succ] at h
    obtain ⟨y, h1, h2⟩ := enumL_at h
    refine ⟨y, by simpa using h1, ?_⟩
    rw [h2, show k + 1 + (i : Int) = k + ((i + 1 : Nat) : Int) by omega]
omit [PWd] in
theorem enumL_len : ∀ {xs : List D} {k : Int}, (enumL k xs).length = xs.length
  | [], _ => rfl
  | x :: r, k => by simp only [enumL, List.length_cons, enumL_len]
theorem en_side {φ2 : List Addr} {H2 : Hp} {S2 : Store} {T : Addr} {i : Nat} {x : D} {v : V} {ob : Obj} (hs2 : HS K φ2 H2 S2) (hT : H2 T = none) (hod : ob.dict = none) (rv : Rep K φ2 H2 x v) :
    Ex φ2 H2 φ2 (upd H2 T (.frz ob (.tup [.int (i : Nat), v]))) ∧ HS K φ2 (upd H2 T (.frz ob (.tup [.int (i : Nat), v]))) S2 ∧ Rep K φ2 (upd H2 T (.frz ob (.tup [.int (i : Nat), v]))) (.tup [.int (0 + (i : Int)), x]) (.ref T) := by
  have x4 : Ex φ2 H2 φ2 (upd H2 T (.frz ob (.tup [.int (i : Nat), v]))) := Ex.new hT
  refine ⟨x4, hs2.side hT, ?_⟩
  simp only [Rep, Reps]
  exact ⟨T, _, rfl, Tp.obj hod, _, _, rfl, by rw [Int.zero_add], _, _, rfl, Rep.ext hs2 x4 _ _ rv, rfl⟩
theorem itk_enL {a : Addr} {xs : List D} {g : Option (Nat × List D)} (h : ∀ φ2 H2 S2, Ex φ H φ2 H2 → HS K φ2 H2 S2 → still S2 g = true → ∃ vs, SqL K H2 a vs ∧ Reps K φ2 H2 xs vs) : ItK K φ H (enumL 0 xs, g) (IteL K a) := fun φ2 H2 S2 x2 hs2 st => by
  obtain ⟨vs, hq, hr2⟩ := h φ2 H2 S2 x2 hs2 st
  refine ⟨fun i d hd => ?_, ⟨vs, hq, by rw [enumL_len]; exact Nat.le_of_eq hr2.len⟩⟩
  obtain ⟨x, hx, rfl⟩ := enumL_at hd
  obtain ⟨v, hv, rv⟩ := hr2.at_ hx
  refine ⟨⟨vs, v, hq, hv⟩, fun y H3 hy => ?_⟩
  obtain ⟨T, w, ob, rfl, hT, ⟨hod, rfl⟩, hw⟩ := hy
  have := hw vs hq
  rw [hv] at this
  cases this
  exact en_side hs2 hT hod rv
theorem itk_enT {a : Addr} {xs : List D} {vs : List V} (hs : HS K φ H S) (ha : SqT K H a vs) (hr : Reps K φ H xs vs) : ItK K φ H (enumL 0 xs, none) (IteT K a) := fun φ2 H2 S2 x2 hs2 _ => by
  have hq := sqT_ext hs x2 ha
  have hr2 := Reps.ext hs x2 _ _ hr
  refine ⟨fun i d hd => ?_, ⟨vs, hq, by rw [enumL_len]; exact Nat.le_of_eq hr2.len⟩⟩
  obtain ⟨x, hx, rfl⟩ := enumL_at hd
  obtain ⟨v, hv, rv⟩ := hr2.at_ hx
  refine ⟨⟨vs, v, hq, hv⟩, fun y H3 hy => ?_⟩
  obtain ⟨T, w, ob, rfl, hT, ⟨hod, rfl⟩, hw⟩ := hy
  have := hw vs hq
  rw [hv] at this
  cases this
  exact en_side hs2 hT hod rv
theorem itk_enS {z : Str} : ItK K φ H (enumL 0 (z.cps.toList.map fun c => .str ⟨#[c]⟩), none) (IteS z) := fun φ2 H2 S2 x2 hs2 _ => by
  refine ⟨fun i d hd => ?_, ?_⟩
  · obtain ⟨x, hx, rfl⟩ := enumL_at hd
    rw [List.getElem?_map] at hx
    obtain ⟨c, hc, rfl⟩ := Option.map_eq_some_iff.mp hx
    have hc : z.cps[i]? = some c := by simpa using hc
    refine ⟨(Array.getElem?_eq_some_iff.mp hc).1, fun y H3 hy => ?_⟩
    obtain ⟨T, w, ob, rfl, hT, ⟨hod, rfl⟩, hw⟩ := hy
    rw [hc] at hw
    cases hw
    exact en_side hs2 hT hod (by simp only [Rep])
  · show z.cps.size ≤ (enumL 0 _).length
    rw [enumL_len]
    simp
theorem v_itEnum {elts : List Expr} {kk : Nat} {tpos : Pos} (hg : Gl X "enumerate") (hm : X.mg "enumerate" = none) (hst : isStar a = false) (he : PE X a (tEv X.K ea)) :
    PI X (.Tuple elts kk tpos) (.Call (.Name "enumerate" p) [a] [] pos) (tIv X.K fun r s => (ea r s).bind fun x s1 => match x with
      | .tup xs => .ok (enumL 0 xs, none) s1
      | .fix xs => .ok (enumL 0 xs, none) s1
      | .str z => .ok (enumL 0 (z.cps.toList.map fun c => .str ⟨#[c]⟩), none) s1
      | .ref n => match s1[n]? with
        | some (.lst xs) => .ok (enumL 0 xs, some (n, xs)) s1
        | _ => .bad
      | _ => .bad) :=
  (pi_enumA hg hm (pa_cons he pa_nil (star_cons hst)) (by rw [star_cons hst]; rfl)).imp fun σ H R ⟨φ, r, S, p, S', hv, hs, e, q⟩ => by
    obtain ⟨x, S1, e1, e⟩ := bind_ok e
    refine ⟨φ, r, S, x, S1, hv, hs, e1, fun φ1 v H1 x1 hs1 r1 => ⟨v, rfl, ?_⟩⟩
    cases x <;> simp only at e <;> try (cases e; done)
    case tup xs =>
      cases e
      simp only [Rep] at r1
      obtain ⟨ad, vs, rfl, h1, g1⟩ := r1
      exact .inr (.inl ⟨ad, vs, rfl, h1.sq, q φ1 H1 _ x1 hs1 (itk_enT hs1 (h1.sq) g1)⟩)
    case fix xs =>
      cases e
      simp only [Rep] at r1
      obtain ⟨ad, vs, rfl, h1, g1⟩ := r1
      exact .inl ⟨ad, vs, rfl, h1.sq, q φ1 H1 _ x1 hs1 (itk_enL fun φ2 H2 S2 x2 hs2 _ => ⟨vs, (fix_ext hs1 x2 h1).sq, Reps.ext hs1 x2 _ _ g1⟩)⟩
    case str z =>
      cases e
      simp only [Rep] at r1
      exact .inr (.inr ⟨z, r1, q φ1 H1 _ x1 hs1 itk_enS⟩)
    case ref n =>
      split at e
      · next xs h1 =>
        cases e
        simp only [Rep] at r1
        obtain ⟨ad, rfl, had⟩ := r1
        obtain ⟨ob, ho, ro⟩ := hs1.sget had
        rw [h1] at ho
        cases ho
        obtain ⟨vs, h2, h3⟩ := ro
        refine .inl ⟨ad, vs, rfl, SqL.of h2, q φ1 H1 _ x1 hs1 (itk_enL fun φ2 H2 S2 x2 hs2 st => ?_)⟩
        have st : S2[n]? = some (.lst xs) := of_decide_eq_true st
        obtain ⟨q0, rfl, _⟩ := x2.pre
        have had2 : (φ1 ++ q0)[n]? = some ad := by rw [List.getElem?_append_left (List.getElem?_eq_some_iff.mp had).1]; exact had
        obtain ⟨ob, ho, ro⟩ := hs2.sget had2
        rw [st] at ho
        cases ho
        obtain ⟨ws, h4, h5⟩ := ro
        exact ⟨ws, SqL.of h4, h5⟩
      · cases e
end
end Wb

/-! W14: comprehensions. -/
namespace Wb
open PySem PySem.Spec PyProof.Rows L2
variable [PWd]
section
variable {X : Cx} {K : PySem.W.Frag} {φ φ0 φ1 φ2 φ' : List Addr} {H H0 H1 H2 H' : Hp} {S S1 S' : Store} {d : D} {r : Env} {σ : L2.St} {pos p : Pos} {js own : List Nat}
theorem wipe_at {σ : L2.St} : ∀ {vs : List Nat} {j : Nat}, (L2.wipe σ vs)[j]? = if j ∈ vs then (σ[j]?).map (fun _ => none) else σ[j]?
  | [], j => by simp [L2.wipe]
  | v :: vs, j => by
    unfold L2.wipe
    rw [List.getElem?_set, L2.wipe_length, wipe_at (vs := vs) (j := j)]
    by_cases h : v = j
    · subst h
      simp only [if_true, List.mem_cons, true_or]
      by_cases hl : v < σ.length
      · rw [if_pos hl, List.getElem?_eq_getElem hl]; rfl
      · rw [if_neg hl, List.getElem?_eq_none (by omega)]; rfl
    · rw [if_neg h]
      have : (j ∈ v :: vs) = (j ∈ vs) := by simp [Ne.symm h]
      simp only [this]
theorem wipe_stay {σ σ2 : L2.St} (h : Stay own (L2.wipe σ own) σ2) : L2.wipe σ2 own = L2.wipe σ own := by
  refine List.ext_getElem? fun j => ?_
  rw [wipe_at, wipe_at]
  by_cases hj : j ∈ own
  · rw [if_pos hj, if_pos hj]
    have hl : σ2.length = σ.length := by rw [h.1, L2.wipe_length]
    by_cases hl2 : j < σ.length
    · rw [List.getElem?_eq_getElem hl2, List.getElem?_eq_getElem (by omega)]; rfl
    · rw [List.getElem?_eq_none (by omega), List.getElem?_eq_none (by omega)]
  · rw [if_neg hj, if_neg hj, h.2 j hj, wipe_at, if_neg hj]
theorem HS.bump (hs : HS K φ H S) {q : Addr} {u w : HO} (hq : q ∉ φ) (hp : H q = some w) (hc : ¬ Cold w) : HS K φ (upd H q u) S := by
  have hu := upd_tup (K := K) (u := u) hp hc
  have mv : ∀ d v, Rep K φ H d v → Rep K φ (upd H q u) d v := fun d v h => by simpa using Rep.move (q := []) hu.1 hu.2 d v h
  have mvs : ∀ d v, Reps K φ H d v → Reps K φ (upd H q u) d v := fun d v h => by simpa using Reps.move (q := []) hu.1 hu.2 d v h
  refine ⟨hs.len, hs.nd, fun n o a h1 h2 => ?_⟩
  have ne : a ≠ q := fun e => hq (by rw [← e]; exact List.mem_of_getElem? h2)
  have ho := hs.ob n o a h1 h2
  cases o with
  | lst ds => obtain ⟨ws, g1, g2⟩ := ho; exact ⟨ws, by rw [upd_ne ne]; exact g1, mvs _ _ g2⟩
  | dik kvs => obtain ⟨ws, g1, g2⟩ := ho; exact ⟨ws, by rw [upd_ne ne]; exact g1, Paired.mapP g2 fun p q z => ⟨z.1, mv _ _ z.2⟩⟩
  | dit kvs => obtain ⟨ws, g1, g2⟩ := ho; exact ⟨ws, ⟨by rw [upd_ne ne]; exact g1.1, fun t m => hu.1 _ _ (g1.2 t m)⟩, Paired.mapP g2 fun p q z => ⟨z.1, mv _ _ z.2⟩⟩
theorem Reps.bump {q : Addr} {u w : HO} (hp : H q = some w) (hc : ¬ Cold w) {ds : List D} {vs : List V} (h : Reps K φ H ds vs) : Reps K φ (upd H q u) ds vs := by
  have hu := upd_tup (K := K) (u := u) hp hc
  simpa using Reps.move (q := []) hu.1 hu.2 ds vs h
theorem Ex.bump (x : Ex φ0 H0 φ H) {q : Addr} {u : HO} (h0 : H0 q = none) : Ex φ0 H0 φ (upd H q u) := by
  obtain ⟨p, k, l⟩ := x
  refine ⟨p, fun a o ha hn => ?_, fun a ha => ?_⟩
  · rw [upd_ne (ne_of_none ha h0)]; exact k a o ha hn
  · refine l a ?_
    by_cases e : a = q
    · subst e; rw [upd_same] at ha; cases ha
    · rw [upd_ne e] at ha; exact ha
theorem Ex.notin (x : Ex φ H φ' H') {q : Addr} {o : HO} (hq : H q = some o) (hn : q ∉ φ) : q ∉ φ' ∧ H' q = some o := by
  refine ⟨?_, x.keep q o hq hn⟩
  obtain ⟨⟨ψ, rfl, hψ⟩, _, _⟩ := x
  intro hm
  rcases List.mem_append.mp hm with h | h
  · exact hn h
  · rw [hψ q h] at hq; cases hq
variable {it : Env → Store → Res (List D × Option (Nat × List D))} {gt : D → Env → Store → Res Env} {tc : Env → Store → Res Bool} {ee : Env → Store → Res D}
def stepOf (gt : D → Env → Store → Res Env) (tc : Env → Store → Res Bool) (ee : Env → Store → Res D) (r : Env) : D → Store → Res (Option D) := fun d s2 => (gt d r s2).bind fun r3 s3 => (tc r3 s3).bind fun k s4 => if k then (ee r3 s4).bind fun v s5 => .ok (some v) s5 else .ok none s4
/-- the new list at D, as far as it has come -/
def CompW (K : PySem.W.Frag) (φ0 : List Addr) (H0 : Hp) (D : Addr) (step : Wb.D → Store → Res (Option Wb.D)) (p : List Wb.D × Option (Nat × List Wb.D)) (res : List Wb.D) (S' : Store) (i m : Nat) (H : Hp) : Prop :=
  m = p.1.length - i ∧ i ≤ p.1.length ∧ ∃ φ2 S2 acc vacc, Ex φ0 H0 φ2 H ∧ HS K φ2 H S2 ∧ D ∉ φ2 ∧ H D = some (.lst vacc) ∧ Reps K φ2 H acc vacc ∧ compGo step p.2 (p.1.drop i) acc S2 = .ok res S'
theorem comp_core {J : L2.It} {p : List Wb.D × Option (Nat × List Wb.D)} {res : List Wb.D} {Q : VK} {D : Addr} (hj : ∀ j ∈ js, j ∈ own) (hv : VS K φ0 H0 r σ) (hs : HS K φ0 H0 S) (hi : ItK K φ0 H0 p J) (hD : H0 D = none)
    (e : compGo (stepOf gt tc ee (Wb.wipe r own)) p.2 p.1 [] S = .ok res S') (q : NxtL K φ0 H0 S' 2 res Q) :
    ∃ W : Nat → Nat → Hp → Prop, (∃ m, W 0 m (upd H0 D (.lst []))) ∧ ∀ i m H, W i m H →
      (J.stop i H ∧ Q (.ref D) H) ∨ (J.go i H ∧ ∃ Nx : Hp → Prop, (∀ H', Nx H' → ∃ m', m' < m ∧ W (i + 1) m' H') ∧ ∀ x H', J.yld i H x H' → tGv K js gt x (L2.wipe σ own) H' fun σ2 H2 => L2.wipe σ2 own = L2.wipe σ own ∧ tTv K tc σ2 H2 fun b H3 =>
        if b = true then tEv K ee σ2 H3 fun y H4 => ∃ acc, H4 D = some (.lst acc) ∧ acc.length < sizeLine ∧ Nx (upd H4 D (.lst (acc ++ [y]))) else Nx H3) := by
  refine ⟨CompW K φ0 H0 D (stepOf gt tc ee (Wb.wipe r own)) p res S', ⟨p.1.length, by simp, Nat.zero_le _, φ0, S, [], [], Ex.new hD, ?_, ?_, upd_same, by simp only [Reps], by simpa using e⟩, ?_⟩
  · exact hs.side hD
  · exact fun hm => hs.live hm hD
  rintro i m H ⟨rfl, hi2, φ2, S2, acc, vacc, x2, hs2, nD, hHD, hr, e2⟩
  have st : still S2 p.2 = true := by
    by_cases h : still S2 p.2 = true
    · exact h
    · cases hd : p.1.drop i with
      | nil => rw [hd] at e2; unfold compGo at e2; rw [if_neg h] at e2; cases e2
      | cons => rw [hd] at e2; unfold compGo at e2; rw [if_neg h] at e2; cases e2
  obtain ⟨turn, stop⟩ := hi φ2 H S2 x2 hs2 st
  by_cases hlt : i < p.1.length
  · obtain ⟨go, yld⟩ := turn i p.1[i] (List.getElem?_eq_getElem hlt)
    refine .inr ⟨go, fun H' => ∃ φ3 S3 acc3 vacc3, Ex φ0 H0 φ3 H' ∧ HS K φ3 H' S3 ∧ D ∉ φ3 ∧ H' D = some (.lst vacc3) ∧ Reps K φ3 H' acc3 vacc3 ∧ compGo (stepOf gt tc ee (Wb.wipe r own)) p.2 (p.1.drop (i + 1)) acc3 S3 = .ok res S', fun H' h => ⟨p.1.length - (i + 1), by omega, rfl, hlt, h⟩, fun x H' hy => ?_⟩
    obtain ⟨xy, hsy, ry⟩ := yld x H' hy
    rw [List.drop_eq_getElem_cons hlt] at e2
    unfold compGo at e2
    rw [if_pos st] at e2
    -- the new list is not the store's, and stays
    obtain ⟨nDy, hDy⟩ := xy.notin hHD nD
    have rA := Reps.ext hs2 xy _ _ hr
    have xB := x2.trans xy
    cases hst : stepOf gt tc ee (Wb.wipe r own) p.1[i] S2 with
    | exc x s => rw [hst] at e2; cases e2
    | bad => rw [hst] at e2; cases e2
    | ok ov S5 =>
      rw [hst] at e2
      obtain ⟨r3, S3, g1, g⟩ := bind_ok hst
      obtain ⟨k, S4, g2, g⟩ := bind_ok g
      refine ⟨φ2, _, S2, p.1[i], r3, S3, (hv.ext hs xB).wipe own, hsy, ry, g1, fun φ3 σ3 H3 x3 hs3 hv3 st3 => ⟨wipe_stay (st3.sub hj), φ3, r3, S3, k, S4, hv3, hs3, g2, fun φ4 H4 x4 hs4 => ?_⟩⟩
      obtain ⟨nD4, hD4⟩ := (x3.trans x4).notin hDy nDy
      have rB := Reps.ext hsy (x3.trans x4) _ _ rA
      have xC := xB.trans (x3.trans x4)
      cases k with
      | false =>
        simp only [Bool.false_eq_true, if_false] at g ⊢
        cases g
        exact ⟨φ4, _, acc, vacc, xC, hs4, nD4, hD4, rB, e2⟩
      | true =>
        simp only [if_true] at g ⊢
        obtain ⟨v, S6, g3, g⟩ := bind_ok g
        cases g
        refine ⟨φ4, r3, S4, v, _, hv3.ext hs3 x4, hs4, g3, fun φ5 y H5 x5 hs5 r5 => ?_⟩
        obtain ⟨nD5, hD5⟩ := x5.notin hD4 nD4
        simp only at e2
        split at e2
        · next hz =>
          have hlen : vacc.length = acc.length := hr.len
          refine ⟨vacc, hD5, by rw [hlen]; have := small_le hz; rw [sizeLine_eq]; omega, φ5, _, acc ++ [v], vacc ++ [y], (xC.trans x5).bump hD, hs5.bump nD5 hD5 (fun c => c), nD5, upd_same, ?_, e2⟩
          exact Reps.bump hD5 (fun c => c) ((Reps.ext hs4 x5 _ _ rB).app (Reps.one r5))
        · cases e2
  · have hi3 : i = p.1.length := by omega
    subst hi3
    refine .inl ⟨stop, ?_⟩
    rw [List.drop_length] at e2
    unfold compGo at e2
    rw [if_pos st] at e2
    cases e2
    exact q φ2 H D vacc x2 hs2 hr ⟨hHD, nD, hD⟩
variable {elt tg iter : Expr} {ifs : List Expr} {scope : Scope} {ownL : List (Str × Nat)}
/-- the comprehension's reading is the kit's -/
theorem comp_imp (hj : ∀ j ∈ js, j ∈ own) : ∀ σ H Q, tLv K 2 (fun r s => (it r s).bind fun p s1 => compGo (stepOf gt tc ee (Wb.wipe r own)) p.2 p.1 [] s1) σ H Q → tLc (tIv K it) (tGv K js gt) (tTv K tc) (tEv K ee) own σ H Q := fun σ H Q ⟨φ, r, S, ds, S', hv, hs, e, q⟩ => by
  obtain ⟨p, S1, e1, e2⟩ := bind_ok e
  exact ⟨φ, r, S, p, S1, hv, hs, e1, fun φ1 H1 J x1 hs1 hi D hD => comp_core hj (hv.ext hs x1) hs1 hi hD e2 (q.of x1)⟩
end
end Wb

/-! W15: statements. -/
namespace Wb
open PySem PySem.Spec PyProof.Rows L2
variable [PWd]
section
variable {X : Cx} {K : PySem.W.Frag} {φ φ0 φ1 φ2 φ' : List Addr} {H H0 H1 H2 H' : Hp} {S S1 S' : Store} {d : D} {r : Env} {σ : L2.St} {pos p : Pos} {js own : List Nat} {D : Ends} {o : Out}
variable {ea eb : Env → Store → Res Wb.D} {ta : Env → Store → Res Bool} {sa sb : Env → Store → Res Out} {a b c : Expr} {st : Stmt} {sts : List Stmt}
theorem v_nil : PSs X [] (tSv X.K fun r s => .ok (.nx r) s) := pss_nil.imp fun D σ H ⟨φ, r, S, o, S', hv, hs, e, q⟩ => by
  cases e
  exact q φ H Ex.rfl' hs σ hv
theorem v_seq (h1 : PS X st (tSv X.K sa)) (h2 : PSs X sts (tSv X.K sb)) : PSs X (st :: sts) (tSv X.K fun r s => (sa r s).bind fun o s1 => match o with
    | .nx r1 => sb r1 s1
    | .rt d => .ok (.rt d) s1
    | .bk r1 => .ok (.bk r1) s1
    | .ct r1 => .ok (.ct r1) s1) := (pss_cons h1 h2).imp fun D σ H ⟨φ, r, S, o, S', hv, hs, e, q⟩ => by
  obtain ⟨o1, S1, e1, e⟩ := bind_ok e
  refine ⟨φ, r, S, o1, S1, hv, hs, e1, fun φ1 H1 x1 hs1 => ?_⟩
  cases o1 with
  | nx r1 => exact fun σ1 hv1 => ⟨φ1, r1, S1, o, S', hv1, hs1, e, fun φ2 H2 x2 => q φ2 H2 (x1.trans x2)⟩
  | rt d => cases e; exact q φ1 H1 x1 hs1
  | bk r1 => cases e; exact q φ1 H1 x1 hs1
  | ct r1 => cases e; exact q φ1 H1 x1 hs1
theorem v_pass : PS X (.Pass pos) (tSv X.K fun r s => .ok (.nx r) s) := ps_pass.imp fun D σ H ⟨φ, r, S, o, S', hv, hs, e, q⟩ => by
  cases e; exact q φ H Ex.rfl' hs σ hv
theorem v_doc {x : Str} {j : Nat} {p2 : Pos} : PS X (.Expr (.Constant (.str x) j p) p2) (tSv X.K fun r s => .ok (.nx r) s) := ps_doc.imp fun D σ H ⟨φ, r, S, o, S', hv, hs, e, q⟩ => by
  cases e; exact q φ H Ex.rfl' hs σ hv
theorem v_brk : PS X (.Break pos) (tSv X.K fun r s => .ok (.bk r) s) := ps_break.imp fun D σ H ⟨φ, r, S, o, S', hv, hs, e, q⟩ => by
  cases e; exact q φ H Ex.rfl' hs σ hv
theorem v_cnt : PS X (.Continue pos) (tSv X.K fun r s => .ok (.ct r) s) := ps_continue.imp fun D σ H ⟨φ, r, S, o, S', hv, hs, e, q⟩ => by
  cases e; exact q φ H Ex.rfl' hs σ hv
theorem v_raise {a b : Option Expr} : PS X (.Raise a b pos) (tSv X.K fun r s => .bad) := ⟨fun D s σ H _ I h => by
  obtain ⟨φ, r, S, o, S', hv, hs, e, q⟩ := h
  cases e⟩
theorem v_retN : PS X (.Return none pos) (tSv X.K fun r s => .ok (.rt .non) s) := ps_retN.imp fun D σ H ⟨φ, r, S, o, S', hv, hs, e, q⟩ => by
  cases e; exact q φ H Ex.rfl' hs _ (by simp only [Rep])
theorem v_ret (ha : PE X a (tEv X.K ea)) : PS X (.Return (some a) pos) (tSv X.K fun r s => (ea r s).bind fun d s1 => .ok (.rt d) s1) := (ps_ret ha).imp fun D σ H ⟨φ, r, S, o, S', hv, hs, e, q⟩ => by
  obtain ⟨d, S1, e1, e⟩ := bind_ok e
  cases e
  exact ⟨φ, r, S, d, _, hv, hs, e1, fun φ1 v H1 x1 hs1 r1 => q φ1 H1 x1 hs1 v r1⟩
theorem v_expr (hs' : swapsWith a none pos.line X.env = pure false) (ha : PE X a (tEv X.K ea)) : PS X (.Expr a pos) (tSv X.K fun r s => (ea r s).bind fun _ s1 => .ok (.nx r) s1) := (ps_expr ha hs').imp fun D σ H ⟨φ, r, S, o, S', hv, hs, e, q⟩ => by
  obtain ⟨d, S1, e1, e⟩ := bind_ok e
  cases e
  exact ⟨φ, r, S, d, _, hv, hs, e1, fun φ1 v H1 x1 hs1 r1 => q φ1 H1 x1 hs1 σ (hv.ext hs x1)⟩
theorem v_if {x y : List Stmt} (hc : PT X c (tTv X.K ta)) (ha : PSs X x (tSv X.K sa)) (hb : PSs X y (tSv X.K sb)) : PS X (.If c x y pos) (tSv X.K fun r s => (ta r s).bind fun k s1 => if k then sa r s1 else sb r s1) := (ps_if hc ha hb).imp fun D σ H ⟨φ, r, S, o, S', hv, hs, e, q⟩ => by
  obtain ⟨k, S1, e1, e⟩ := bind_ok e
  refine ⟨φ, r, S, k, S1, hv, hs, e1, fun φ1 H1 x1 hs1 => ?_⟩
  cases k with
  | true => rw [if_pos rfl]; exact ⟨φ1, r, S1, o, S', hv.ext hs x1, hs1, e, fun φ2 H2 x2 => q φ2 H2 (x1.trans x2)⟩
  | false => rw [if_neg Bool.false_ne_true]; exact ⟨φ1, r, S1, o, S', hv.ext hs x1, hs1, e, fun φ2 H2 x2 => q φ2 H2 (x1.trans x2)⟩
variable {ga : Wb.D → Env → Store → Res Env}
theorem asg_imp {te : TE} {g : TG} (h1 : ∀ σ H Q, tEv K ea σ H Q → te σ H Q) (h2 : ∀ v σ H Q, tGv K js ga v σ H Q → g v σ H Q) : ∀ D σ H, tSv K (fun r s => (ea r s).bind fun d s1 => (ga d r s1).bind fun r2 s2 => .ok (.nx r2) s2) D σ H → tAsg te g D σ H := fun D σ H ⟨φ, r, S, o, S', hv, hs, e, q⟩ => by
  obtain ⟨d, S1, e1, e⟩ := bind_ok e
  obtain ⟨r2, S2, e2, e⟩ := bind_ok e
  cases e
  refine h1 σ H _ ⟨φ, r, S, d, S1, hv, hs, e1, fun φ1 v H1 x1 hs1 r1 => h2 v σ H1 _ ⟨φ1, r, S1, d, r2, _, hv.ext hs x1, hs1, r1, e2, fun φ2 σ2 H2 x2 hs2 hv2 _ => q φ2 H2 (x1.trans x2) hs2 σ2 hv2⟩⟩
theorem v_asg {tg : Expr} (hst : isStar tg = false) (hsw : swapsWith a (some tg) pos.line X.env = pure false) (hw : swappedStores [tg] a X.env = pure none) (ha : PE X a (tEv X.K ea)) (hg : PG X tg (tGv X.K js ga)) :
    PS X (.Assign [tg] a pos) (tSv X.K fun r s => (ea r s).bind fun d s1 => (ga d r s1).bind fun r2 s2 => .ok (.nx r2) s2) :=
  (ps_asg ha hg hsw hw (by rw [each_cons hst]; rfl)).imp (asg_imp (fun _ _ _ q => q) fun _ _ _ _ q => q)
theorem v_par {i j : Nat} {x y : Str} {px py pt : Pos} {kt k2 pt2} (hc : X.calm = true) (hN : X.N.Nodup) (hi : X.N[i]? = some x) (hj : X.N[j]? = some y) (hij : i ≠ j)
    (hx : X.env.scope.names.lookup x = some .local) (hy : X.env.scope.names.lookup y = some .local) (hst : isStar a = false) (hst2 : isStar b = false) (ha : PE X a (tEv X.K ea)) (hb : PE X b (tEv X.K eb))
    (hw : swappedStores [.Tuple [.Name x px, .Name y py] kt pt] (.Tuple [a, b] k2 pt2) X.env = pure (some [x, y])) :
    PS X (.Assign [.Tuple [.Name x px, .Name y py] kt pt] (.Tuple [a, b] k2 pt2) pos) (tSv X.K fun r s => (ea r s).bind fun x s1 => (eb r s1).bind fun y s2 => .ok (.nx ((r.set i (some x)).set j (some y))) s2) :=
  (ps_par hc hN hi hj hij hx hy (v_argcons hst ha (v_argcons hst2 hb v_argnil)) hw).imp fun D σ H ⟨φ, r, S, o, S', hv, hs, e, q⟩ => by
    obtain ⟨d1, S1, e1, e⟩ := bind_ok e
    obtain ⟨d2, S2, e2, e⟩ := bind_ok e
    cases e
    refine ⟨φ, r, S, [d1, d2], S', hv, hs, by simp only [e1, Res.bind_ok, e2], fun φ1 vs H1 x1 hs1 r1 => ?_⟩
    simp only [Reps] at r1
    obtain ⟨v, _, rfl, r1, w, _, rfl, r2, rfl⟩ := r1
    exact ⟨v, w, rfl, q φ1 H1 x1 hs1 _ (((hv.ext hs x1).set i r1).set j r2)⟩
theorem v_par3 {i j l : Nat} {x y z : Str} {px py pz pt : Pos} {kt k2 pt2} {c : Expr} {ec : Env → Store → Res Wb.D} (hc : X.calm = true) (hN : X.N.Nodup) (hi : X.N[i]? = some x) (hj : X.N[j]? = some y) (hl : X.N[l]? = some z) (hij : i ≠ j) (hil : i ≠ l) (hjl : j ≠ l)
    (hx : X.env.scope.names.lookup x = some .local) (hy : X.env.scope.names.lookup y = some .local) (hz : X.env.scope.names.lookup z = some .local) (hst : isStar a = false) (hst2 : isStar b = false) (hst3 : isStar c = false) (ha : PE X a (tEv X.K ea)) (hb : PE X b (tEv X.K eb)) (hc3 : PE X c (tEv X.K ec))
    (hw : swappedStores [.Tuple [.Name x px, .Name y py, .Name z pz] kt pt] (.Tuple [a, b, c] k2 pt2) X.env = pure (some [x, y, z])) :
    PS X (.Assign [.Tuple [.Name x px, .Name y py, .Name z pz] kt pt] (.Tuple [a, b, c] k2 pt2) pos) (tSv X.K fun r s => (ea r s).bind fun x s1 => (eb r s1).bind fun y s2 => (ec r s2).bind fun z s3 => .ok (.nx (((r.set i (some x)).set j (some y)).set l (some z))) s3) :=
  (ps_par3 hc hN hi hj hl hij hil hjl hx hy hz (v_argcons hst ha (v_argcons hst2 hb (v_argcons hst3 hc3 v_argnil))) hw).imp fun D σ H ⟨φ, r, S, o, S', hv, hs, e, q⟩ => by
    obtain ⟨d1, S1, e1, e⟩ := bind_ok e
    obtain ⟨d2, S2, e2, e⟩ := bind_ok e
    obtain ⟨d3, S3, e3, e⟩ := bind_ok e
    cases e
    refine ⟨φ, r, S, [d1, d2, d3], S', hv, hs, by simp only [e1, Res.bind_ok, e2, e3], fun φ1 vs H1 x1 hs1 r1 => ?_⟩
    simp only [Reps] at r1
    obtain ⟨v, _, rfl, r1, w, _, rfl, r2, u, _, rfl, r3, rfl⟩ := r1
    exact ⟨v, w, u, rfl, q φ1 H1 x1 hs1 _ ((((hv.ext hs x1).set i r1).set j r2).set l r3)⟩
/-! ### loops -/
def ForW (K : PySem.W.Frag) (φ0 : List Addr) (H0 : Hp) (body : Wb.D → Env → Store → Res Out) (p : List Wb.D × Option (Nat × List Wb.D)) (o : Out) (S' : Store) (i m : Nat) (σ : L2.St) (H : Hp) : Prop :=
  m = p.1.length - i ∧ i ≤ p.1.length ∧ ∃ φ2 r2 S2, Ex φ0 H0 φ2 H ∧ HS K φ2 H S2 ∧ VS K φ2 H r2 σ ∧ forGo body p.2 (p.1.drop i) r2 S2 = .ok o S'
theorem for_core {J : L2.It} {p : List Wb.D × Option (Nat × List Wb.D)} (hv : VS K φ0 H0 r σ) (hs : HS K φ0 H0 S) (hi : ItK K φ0 H0 p J)
    (e : forGo (fun d r2 s2 => (ga d r2 s2).bind fun r3 s3 => sb r3 s3) p.2 p.1 r S = .ok o S') (q : ∀ φ' H', Ex φ0 H0 φ' H' → HS K φ' H' S' → EndOk K φ' H' D o) :
    ∃ W : Nat → Nat → L2.St → Hp → Prop, (∃ m, W 0 m σ H0) ∧ ∀ i m σ H, W i m σ H →
      (J.stop i H ∧ D.nx σ H) ∨ (J.go i H ∧ ∃ N : L2.St → Hp → Prop, (∀ σ' H', N σ' H' → ∃ m', m' < m ∧ W (i + 1) m' σ' H') ∧ ∀ x H', J.yld i H x H' → tGv K js ga x σ H' fun σ2 H2 => tSv K sb { D with nx := N, ct := N, bk := D.nx } σ2 H2) := by
  refine ⟨ForW K φ0 H0 _ p o S', ⟨p.1.length, by simp, Nat.zero_le _, φ0, r, S, Ex.rfl', hs, hv, by simpa using e⟩, ?_⟩
  rintro i m σ H ⟨rfl, hi2, φ2, r2, S2, x2, hs2, hv2, e2⟩
  have st : still S2 p.2 = true := by
    by_cases h : still S2 p.2 = true
    · exact h
    · cases hd : p.1.drop i with
      | nil => rw [hd] at e2; unfold forGo at e2; rw [if_neg h] at e2; cases e2
      | cons => rw [hd] at e2; unfold forGo at e2; rw [if_neg h] at e2; cases e2
  obtain ⟨turn, stop⟩ := hi φ2 H S2 x2 hs2 st
  by_cases hlt : i < p.1.length
  · obtain ⟨go, yld⟩ := turn i p.1[i] (List.getElem?_eq_getElem hlt)
    refine .inr ⟨go, fun σ' H' => ∃ φ3 r3 S3, Ex φ0 H0 φ3 H' ∧ HS K φ3 H' S3 ∧ VS K φ3 H' r3 σ' ∧ forGo (fun d r2 s2 => (ga d r2 s2).bind fun r3 s3 => sb r3 s3) p.2 (p.1.drop (i + 1)) r3 S3 = .ok o S', fun σ' H' h => ⟨p.1.length - (i + 1), by omega, rfl, hlt, h⟩, fun x H' hy => ?_⟩
    obtain ⟨xy, hsy, ry⟩ := yld x H' hy
    rw [List.drop_eq_getElem_cons hlt] at e2
    unfold forGo at e2
    rw [if_pos st] at e2
    cases hg : ga p.1[i] r2 S2 with
    | exc x s => rw [hg] at e2; cases e2
    | bad => rw [hg] at e2; cases e2
    | ok r3 S3 =>
      simp only [hg, Res.bind_ok] at e2
      refine ⟨φ2, r2, S2, p.1[i], r3, S3, hv2.ext hs2 xy, hsy, ry, hg, fun φ3 σ3 H3 x3 hs3 hv3 _ => ?_⟩
      have xB := x2.trans (xy.trans x3)
      cases hb : sb r3 S3 with
      | exc x s => rw [hb] at e2; cases e2
      | bad => rw [hb] at e2; cases e2
      | ok ob S4 =>
        rw [hb] at e2
        refine ⟨φ3, r3, S3, ob, S4, hv3, hs3, hb, fun φ4 H4 x4 hs4 => ?_⟩
        cases ob with
        | nx r4 => exact fun σ4 hv4 => ⟨φ4, r4, S4, xB.trans x4, hs4, hv4, e2⟩
        | ct r4 => exact fun σ4 hv4 => ⟨φ4, r4, S4, xB.trans x4, hs4, hv4, e2⟩
        | bk r4 =>
          cases e2
          exact q φ4 H4 (xB.trans x4) hs4
        | rt d =>
          cases e2
          exact q φ4 H4 (xB.trans x4) hs4
  · have hi3 : i = p.1.length := by omega
    subst hi3
    refine .inl ⟨stop, ?_⟩
    rw [List.drop_length] at e2
    unfold forGo at e2
    rw [if_pos st] at e2
    cases e2
    exact q φ2 H x2 hs2 σ hv2
variable {it : Env → Store → Res (List Wb.D × Option (Nat × List Wb.D))}
theorem v_for {tg iter : Expr} {body : List Stmt} (hp : PassesOwn (model X.prog X.w) X.A X.env X.xe) (hc : X.calm = true) (hset : isSet iter = false) (hi : PI X tg iter (tIv X.K it)) (hg : PG X tg (tGv X.K js ga)) (hb : PSs X body (tSv X.K sb)) :
    PS X (.For tg iter body [] pos) (tSv X.K fun r s => (it r s).bind fun p s1 => forGo (fun d r2 s2 => (ga d r2 s2).bind fun r3 s3 => sb r3 s3) p.2 p.1 r s1) :=
  (ps_for hp hc hi hg hb (by intro x; cases iter <;> first | rfl | (simp [isSet] at hset))).imp fun D σ H ⟨φ, r, S, o, S', hv, hs, e, q⟩ => by
    obtain ⟨p, S1, e1, e⟩ := bind_ok e
    exact ⟨φ, r, S, p, S1, hv, hs, e1, fun φ1 H1 J x1 hs1 hi => for_core (hv.ext hs x1) hs1 hi e fun φ2 H2 x2 => q φ2 H2 (x1.trans x2)⟩
theorem v_whl {F : Nat} {body : List Stmt} (hp : PassesOwn (model X.prog X.w) X.A X.env X.xe) (hc : PT X c (tTv X.K ta)) (hb : PSs X body (tSv X.K sb)) :
    PS X (.While c body [] pos) (tSv X.K fun r s => whlGo ta sb F r s) :=
  (ps_while hp hc hb).imp fun D σ H ⟨φ, r, S, o, S', hv, hs, e, q⟩ => by
    refine ⟨fun m σ1 H1 => ∃ φ1 r1 S1, Ex φ H φ1 H1 ∧ HS X.K φ1 H1 S1 ∧ VS X.K φ1 H1 r1 σ1 ∧ whlGo ta sb m r1 S1 = .ok o S', ⟨F, φ, r, S, Ex.rfl', hs, hv, e⟩, ?_⟩
    rintro m σ1 H1 ⟨φ1, r1, S1, x1, hs1, hv1, e1⟩
    cases m with
    | zero => cases e1
    | succ m =>
      unfold whlGo at e1
      obtain ⟨k, S2, e2, e1⟩ := bind_ok e1
      refine ⟨φ1, r1, S1, k, S2, hv1, hs1, e2, fun φ2 H2 x2 hs2 => ?_⟩
      have hv2 := hv1.ext hs1 x2
      cases k with
      | false =>
        show D.nx σ1 H2
        cases e1
        exact q φ2 H2 (x1.trans x2) hs2 σ1 hv2
      | true =>
        simp only [if_true] at e1
        refine ⟨fun σ' H' => ∃ φ3 r3 S3, Ex φ H φ3 H' ∧ HS X.K φ3 H' S3 ∧ VS X.K φ3 H' r3 σ' ∧ whlGo ta sb m r3 S3 = .ok o S', fun σ' H' h => ⟨m, Nat.lt_succ_self m, h⟩, ?_⟩
        cases hb : sb r1 S2 with
        | exc x s => rw [hb] at e1; cases e1
        | bad => rw [hb] at e1; cases e1
        | ok ob S4 =>
          rw [hb] at e1
          refine ⟨φ2, r1, S2, ob, S4, hv2, hs2, hb, fun φ4 H4 x4 hs4 => ?_⟩
          cases ob with
          | nx r4 => exact fun σ4 hv4 => ⟨φ4, r4, S4, (x1.trans x2).trans x4, hs4, hv4, e1⟩
          | ct r4 => exact fun σ4 hv4 => ⟨φ4, r4, S4, (x1.trans x2).trans x4, hs4, hv4, e1⟩
          | bk r4 => cases e1; exact q φ4 H4 ((x1.trans x2).trans x4) hs4
          | rt d => cases e1; exact q φ4 H4 ((x1.trans x2).trans x4) hs4
end
end Wb

/-! W16: what is forgotten behind a call; a def's promise by plain data. -/
namespace Wb
open PySem PySem.Spec PyProof.Rows L2
variable [PWd]
section
variable {K : PySem.W.Frag} {φ φ0 φ1 φ2 φ' : List Addr} {H H0 H1 H2 H' : Hp} {S S1 S' : Store} {d : D} {v : V}
mutual
theorem Rep.valid : ∀ (d : D) (v : V), Rep K φ H d v → d.under φ.length = true
  | .non, _, _ => rfl
  | .bl _, _, _ => rfl
  | .int _, _, _ => rfl
  | .str _, _, _ => rfl
  | .tup ds, v, h => by
    simp only [Rep] at h
    obtain ⟨a, vs, _, _, h⟩ := h
    exact Reps.valid ds vs h
  | .fix ds, v, h => by
    simp only [Rep] at h
    obtain ⟨a, vs, _, _, h⟩ := h
    exact Reps.valid ds vs h
  | .ref n, v, h => by
    simp only [Rep] at h
    obtain ⟨a, _, h⟩ := h
    exact decide_eq_true (List.getElem?_eq_some_iff.mp h).1
theorem Reps.valid : ∀ (ds : List D) (vs : List V), Reps K φ H ds vs → D.unders φ.length ds = true
  | [], _, _ => rfl
  | d :: ds, vs, h => by
    simp only [Reps] at h
    obtain ⟨v, r, _, h1, h2⟩ := h
    unfold D.unders
    rw [Rep.valid d v h1, Reps.valid ds r h2]
    rfl
end
mutual
theorem Rep.less {ψ χ : List Addr} : ∀ (d : D) (v : V), d.under φ.length = true → Rep K (φ ++ ψ) H d v → Rep K (φ ++ χ) H d v
  | .non, v, _, h => by simpa only [Rep] using h
  | .bl _, v, _, h => by simpa only [Rep] using h
  | .int _, v, _, h => by simpa only [Rep] using h
  | .str _, v, _, h => by simpa only [Rep] using h
  | .tup ds, v, u, h => by
    simp only [Rep] at h ⊢
    obtain ⟨a, vs, e, h1, h⟩ := h
    exact ⟨a, vs, e, h1, Reps.less ds vs u h⟩
  | .fix ds, v, u, h => by
    simp only [Rep] at h ⊢
    obtain ⟨a, vs, e, h1, h⟩ := h
    exact ⟨a, vs, e, h1, Reps.less ds vs u h⟩
  | .ref n, v, u, h => by
    simp only [Rep] at h ⊢
    obtain ⟨a, e, h⟩ := h
    have hn : n < φ.length := of_decide_eq_true u
    exact ⟨a, e, by rw [List.getElem?_append_left hn] at h ⊢; exact h⟩
theorem Reps.less {ψ χ : List Addr} : ∀ (ds : List D) (vs : List V), D.unders φ.length ds = true → Reps K (φ ++ ψ) H ds vs → Reps K (φ ++ χ) H ds vs
  | [], vs, _, h => by simpa only [Reps] using h
  | d :: ds, vs, u, h => by
    simp only [Reps] at h ⊢
    obtain ⟨v, r, e, h1, h2⟩ := h
    unfold D.unders at u
    simp only [Bool.and_eq_true] at u
    exact ⟨v, r, e, Rep.less d v u.1 h1, Reps.less ds r u.2 h2⟩
end
theorem KRep.less {κ : Type} {ψ χ : List Addr} {kvs : List (κ × D)} {ws : List (κ × V)} (u : (kvs.all fun p => p.2.under φ.length) = true) (h : KRep K (φ ++ ψ) H kvs ws) : KRep K (φ ++ χ) H kvs ws := by
  unfold KRep at h ⊢
  induction h with
  | nil => exact .nil
  | cons h1 _ ih =>
    simp only [List.all_cons, Bool.and_eq_true] at u
    exact .cons ⟨h1.1, Rep.less _ _ u.1 h1.2⟩ (ih u.2)
theorem KRep.valid {κ : Type} {kvs : List (κ × D)} {ws : List (κ × V)} (h : KRep K φ H kvs ws) : (kvs.all fun p => p.2.under φ.length) = true := by
  unfold KRep at h
  induction h with
  | nil => rfl
  | cons h1 _ ih =>
    simp only [List.all_cons, Bool.and_eq_true]
    exact ⟨Rep.valid _ _ h1.2, ih⟩
theorem ORep.less {ψ χ : List Addr} {o : O} {a : Addr} (u : o.under φ.length = true) (h : ORep K (φ ++ ψ) H o a) : ORep K (φ ++ χ) H o a := by
  cases o with
  | lst ds => obtain ⟨ws, h1, h2⟩ := h; exact ⟨ws, h1, Reps.less _ _ u h2⟩
  | dik kvs => obtain ⟨ws, h1, h2⟩ := h; exact ⟨ws, h1, KRep.less u h2⟩
  | dit kvs => obtain ⟨ws, h1, h2⟩ := h; exact ⟨ws, h1, KRep.less u h2⟩
theorem ORep.valid {o : O} {a : Addr} (h : ORep K φ H o a) : o.under φ.length = true := by
  cases o with
  | lst ds => obtain ⟨ws, h1, h2⟩ := h; exact Reps.valid _ _ h2
  | dik kvs => obtain ⟨ws, h1, h2⟩ := h; exact KRep.valid h2
  | dit kvs => obtain ⟨ws, h1, h2⟩ := h; exact KRep.valid h2
theorem gc_sim {d0 : D} (hs : HS K φ H S) (x : Ex φ H φ' H') (hs' : HS K φ' H' S1) (r : Rep K φ' H' d0 v) (e : gc S d0 S1 = .ok d S') : ∃ φ2, Ex φ H φ2 H' ∧ HS K φ2 H' S' ∧ Rep K φ2 H' d v := by
  have all := x
  obtain ⟨⟨ψ, rfl, hψ⟩, xk, xl⟩ := x
  have len := hs'.len
  rw [List.length_append, hs.len] at len
  unfold gc at e
  split at e
  · next ho =>
    -- the old objects' own references are old
    have old : ∀ (n : Nat) (o : O), (S1.take S.length)[n]? = some o → o.under φ.length = true := fun n o hn => by
      unfold okOld at ho
      simp only [Bool.or_eq_true, decide_eq_true_eq, List.all_eq_true] at ho
      rcases ho with ho | ho
      · rw [ho] at hn
        obtain ⟨a, ha, hr⟩ := hs.at_ hn
        exact hr.valid
      · rw [hs.len]
        exact ho o (List.mem_of_getElem? hn)
    have base : ∀ (χ : List Addr) (n : Nat) (o : O) (a : Addr), (S1.take S.length)[n]? = some o → (φ ++ χ)[n]? = some a → ORep K (φ ++ χ) H' o a := fun χ n o a h1 h2 => by
      have hn : n < S.length := by
        have := (List.getElem?_eq_some_iff.mp h1).1
        rw [List.length_take] at this
        omega
      rw [List.getElem?_append_left (by rw [hs.len]; exact hn)] at h2
      refine ORep.less (ψ := ψ) (old n o h1) (hs'.ob n o a ?_ ?_)
      · rw [List.getElem?_take_of_lt hn] at h1; exact h1
      · rw [List.getElem?_append_left (by rw [hs.len]; exact hn)]; exact h2
    have cut : HS K φ H' (S1.take S.length) := ⟨by rw [List.length_take, hs.len]; omega, hs.nd, fun n o a h1 h2 => by simpa using base [] n o a h1 (by simpa using h2)⟩
    have exc : Ex φ H φ H' := ⟨⟨[], by simp, by simp⟩, xk, xl⟩
    split at e
    · next hu =>
      cases e
      refine ⟨φ, exc, cut, ?_⟩
      rw [← hs.len] at hu
      simpa using Rep.less (χ := []) d v hu r
    · next hu =>
      split at e
      · next n =>
        split at e
        · next o hn =>
          split at e
          · next ho2 =>
            cases e
            simp only [Rep] at r
            obtain ⟨a, rfl, ha⟩ := r
            have hge : S.length ≤ n := by
              by_cases h : n < S.length
              · exact absurd (decide_eq_true h) hu
              · omega
            rw [List.getElem?_append_right (by rw [hs.len]; exact hge)] at ha
            have hmem : a ∈ ψ := List.mem_of_getElem? ha
            have hna : a ∉ φ := fun h => (List.nodup_append.mp hs'.nd).2.2 a h a hmem rfl
            refine ⟨φ ++ [a], ⟨⟨[a], rfl, fun b hb => by rw [List.mem_singleton.mp hb]; exact hψ a hmem⟩, xk, xl⟩, ?_, ?_⟩
            · refine cut.reg hna ?_
              have ho3 : ORep K (φ ++ ψ) H' o a := hs'.ob n o a hn (by rw [List.getElem?_append_right (by rw [hs.len]; exact hge)]; exact ha)
              rw [← hs.len] at ho2
              simpa using ORep.less (χ := []) ho2 ho3
            · simp only [Rep]
              exact ⟨a, rfl, by rw [← hs.len]; simp⟩
          · cases e; exact ⟨_, all, hs', r⟩
        · cases e; exact ⟨_, all, hs', r⟩
      · cases e; exact ⟨_, all, hs', r⟩
  · cases e
    exact ⟨_, all, hs', r⟩
end
end Wb

/-! W17: a def's promise by plain data, its call. -/
namespace Wb
open PySem PySem.Spec PyProof.Rows L2
variable [PWd]
structure RoomG (k : Nat) (A : Around) : Prop where
  rm : Room k A
  gd : A.guards = some []
theorem RoomG.deeper {k : Nat} {A : Around} (r : RoomG (k + 1) A) (env : PySem.Env) : RoomG k (A.deeper env) := ⟨r.rm.deeper env, r.gd⟩
structure FnG (P : Program) (w : World) (K : PySem.W.Frag) (mg : Str → Option Value) (base : Heap) (k : Nat) (f : Addr) (fd : FuncData) (ps : List Str) (ev : List D → Store → Res D) : Prop where
  run : ∀ (A : Around) (outer : List PySem.Env) (s : Shared) (H : Hp) (args : Args) (us : List Value) (vs : List V) (φ : List Addr) (ds : List D) (S : Store) (d : D) (S' : Store) (Q : VK), RoomG k A → Env0 P w K mg base A outer s H → BindsTo s fd args (ps.zip us) →
    Vals vs us → HS K φ H S → Reps K φ H ds vs → ev ds S = .ok d S' → ds.length = ps.length → Nxt K φ H S' d Q → codeAny (model P w) A (.call (.ref f) args) (CR CX0 outer P w H s Q E0) s
section
variable {P : Program} {w : World} {K : PySem.W.Frag} {mg : Str → Option Value} {base : Heap} {k : Nat} {f : Addr} {fd : FuncData}
theorem fng_of {name qual : Str} {params : Arguments} {body : List Stmt} {scope : Scope} {dV kV doc pm cdv ct oc : Value} {an od : Option Addr} {osl : Array (Option Value)} {N ps : List Str} {eb : Env → Store → Res Out} {ev : List D → Store → Res D}
    (lk : K.lookup f = some ⟨oc, od, .func (PySem.W.fnOf name qual params body scope dV kV doc pm an cdv ct), osl⟩) (hcd : PySem.W.codeIn K cdv qual = true) (sc : FnScope N ps scope)
    (hbody : ∀ (A : Around) (outer : List PySem.Env) (s : Shared) (H : Hp), RoomG k (A.deeper (envOfC qual scope s.heap.objs.size f cdv)) → PSs (cxOf CX0 P w K mg base N qual scope f cdv A outer s H E0) body (tSv K eb))
    (hev : ∀ ds S d S', ds.length = ps.length → ev ds S = .ok d S' → ∃ o S1, eb (ds.map some ++ List.replicate (N.length - ds.length) none) S = .ok o S1 ∧ ((∃ d0, o = .rt d0 ∧ gc S d0 S1 = .ok d S') ∨ ∃ r, o = .nx r ∧ gc S .non S1 = .ok d S')) :
    FnG P w K mg base (k + 1) f (PySem.W.fnOf name qual params body scope dV kV doc pm an cdv ct) ps ev := by
  refine ⟨fun A outer s H args us vs φ ds S d S' Q room e0 hbind rel hs hr he hl q => ?_⟩
  have len : vs.length = ps.length := by rw [hr.len, hl]
  have kin : K.In s.heap := e0.mod.kin.keeps fun b o e => (e0.bs b o e).1
  have nolim : s.heap.NoLimit := e0.mod.nolimit.keeps fun b o e => (e0.bs b o e).1
  have kinds : ∀ y ∈ ps.zip us, scope.names.lookup y.1 = some .local ∨ (scope.names.lookup y.1 = some .cell ∧ ((cellsFrom (s.heap.objs.size + 1) scope.names []).lookup y.1).isSome = true) := by
    rintro ⟨n, v⟩ hy
    rcases sc.par n (List.of_mem_zip hy).1 with z | z
    · exact Or.inl z
    · exact Or.inr ⟨z, PySem.W.cellsFrom_some _ _ _ (Or.inl z)⟩
  refine codeAny_call_function room.rm.depth (kin _ _ lk) rfl sc.co sc.gen rfl (PySem.W.codeRec_of kin hcd) (hbind _ _ _ _ ?_)
  refine wpAny_newFunctionEnv_cells sc.kind kinds fun env henv s1 x => ?_
  subst henv
  refine ⟨nolim.keeps x.toInCall.keep, codeAny_func ?_⟩
  have I := inv_start (CX := CX0) (P := P) (w := w) (E := E0) (A := A) (outer := outer) (f := f) (cd := cdv) (qual := qual) sc room.rm.hd e0 len rel x
  obtain ⟨o, S1, e1, fin⟩ := hev ds S d S' hl he
  have body := hbody A outer s H (room.deeper _)
  have hv : VS K φ H (ds.map some ++ List.replicate (N.length - ds.length) none) (L2.start N vs) := by
    unfold L2.start
    rw [hr.len]
    refine ⟨by simp [hr.len], fun i x hx => ?_⟩
    have hi : i < ds.length := by
      by_cases hi : i < ds.length
      · exact hi
      · rw [List.getElem?_append_right (by simpa using hi), List.getElem?_replicate] at hx
        split at hx <;> cases hx
    rw [List.getElem?_append_left (by simpa using hi), List.getElem?_map] at hx
    obtain ⟨y, hy, e⟩ := Option.map_eq_some_iff.mp hx
    cases e
    obtain ⟨v, h1, h2⟩ := hr.at_ hy
    exact ⟨v, by rw [List.getElem?_append_left (by rw [List.length_map, hr.len]; exact hi), List.getElem?_map, h1]; rfl, h2⟩
  have run := body.run [] s1 (L2.start N vs) H { nx := fun _ H' => Q .non H', rt := Q } I ⟨φ, _, S, o, S1, hv, hs, e1, fun φ1 H1 x1 hs1 => by
    rcases fin with ⟨d0, rfl, g⟩ | ⟨r, rfl, g⟩
    · intro v hv0
      obtain ⟨φ2, x2, hs2, r2⟩ := gc_sim hs x1 hs1 hv0 g
      exact q φ2 v H1 x2 hs2 r2
    · intro σ _
      obtain ⟨φ2, x2, hs2, r2⟩ := gc_sim (d0 := .non) (v := .non) hs x1 hs1 (by simp only [Rep]) g
      exact q φ2 _ H1 x2 hs2 r2⟩
  refine wpAny_mono run (fun fl s' h => ?_) fun _ _ h => h
  have done : ∀ {σ' : L2.St} {H' : Hp} {v : V} {u : Value}, Inv (cxOf CX0 P w K mg base N qual scope f cdv A outer s H E0) [] σ' H' s' → RelV v u → Q v H' → CE outer P w H s Q u s' := fun {σ' H' v u} J rv z => ⟨v, H', J.os, J.bare, J.base, J.hok, rv, z⟩
  cases fl with
  | next => obtain ⟨σ', H', J, z⟩ := h; exact done (v := .non) (u := .none) J rfl z
  | ret u => obtain ⟨v, σ', H', J, rv, z⟩ := h; exact done J rv z
  | cont => obtain ⟨_, _, _, z⟩ := h; exact z.elim
  | brk => obtain ⟨_, _, _, z⟩ := h; exact z.elim
end
/-! ### a call -/
section
variable {X : Cx} {k : Nat} {f : Addr} {fd : FuncData} {ps : List Str} {ev : List D → Store → Res D} {x : Str} {p pos : Pos} {es : List Expr} {eas : Env → Store → Res (List D)}
theorem run_fng {pins : List (Addr × Obj)} {σ : L2.St} {H : Hp} {s : Shared} {Q : VK} {us : List Value} {vs : List V} {φ : List Addr} {ds : List D} {S S' : Store} {d : D} (F : FnG X.prog X.w X.K X.mg X.base k f fd ps ev) (room : RoomG k X.A) (hb : Binds X.K fd ps [])
    (I : Inv X pins σ H s) (rel : Vals vs us) (hs : HS X.K φ H S) (hr : Reps X.K φ H ds vs) (he : ev ds S = .ok d S') (hl : ds.length = ps.length) (q : Nxt X.K φ H S' d Q) : wpAny (model X.prog X.w) X.A (PySem.call (.ref f) us) (EP X pins σ Q) X.xe s := by
  have lenU : (us ++ []).length = ps.length := by rw [List.append_nil, ← rel.length, hr.len, hl]
  have b := hb s us I.kIn lenU
  rw [List.append_nil] at b
  refine wpAny_call (codeAny_mono (F.run X.A X.stack s H ⟨us, []⟩ us vs φ ds S d S' Q room I.env0 b rel hs hr he hl q) fun res s' h => ?_)
  match res, h with
  | .error _, h => exact h.elim
  | .ok (.ret u), h => exact I.after h
  | .ok .next, h => exact h.elim
  | .ok .brk, h => exact h.elim
  | .ok .cont, h => exact h.elim
def tCallG (K : PySem.W.Frag) (n : Nat) (ev : List D → Store → Res D) (t : TA) : TE := fun σ H Q => t σ H fun vs H1 => ∃ φ ds S d S', HS K φ H1 S ∧ Reps K φ H1 ds vs ∧ ev ds S = .ok d S' ∧ ds.length = n ∧ Nxt K φ H1 S' d Q
theorem pe_callG {t : TA} {e0 : Expr} (F : FnG X.prog X.w X.K X.mg X.base k f fd ps ev) (room : RoomG k X.A) (hb : Binds X.K fd ps []) (hg : Gl X x) (hm : X.mg x = some (.ref f)) (hk : PySem.W.keepIn X.K (.ref f) = true) (hdb : (x == ("__debug__" : Str)) = false)
    (hst : (e0 :: es).any isStar = false) (ha : PA X (e0 :: es) t) : PE X (.Call (.Name x p) (e0 :: es) [] pos) (tCallG X.K ps.length ev t) := by
  refine ⟨fun pins s σ H Q I h => wpAny_Call_Name_kw (ld_glob I hg hm ?_ hdb)⟩
  simp only [List.any_cons, Bool.or_eq_false_iff] at hst
  refine PySem.W.callWith_K (h₀ := X.base) I.ok.mod.kin hk (thn (ha.run pos pins s σ H _ I h) fun us s1 ⟨vs, H1, I1, rel, q⟩ => ⟨I1.kIn, ?_⟩) (star_cons hst.1) (star_none hst.2)
  obtain ⟨φ, ds, S, d, S', hs, hr, he, hl, q⟩ := q
  exact run_fng F room hb I1 rel hs hr he hl q
theorem v_call {e0 : Expr} (F : FnG X.prog X.w X.K X.mg X.base k f fd ps ev) (room : RoomG k X.A) (hb : Binds X.K fd ps []) (hg : Gl X x) (hm : X.mg x = some (.ref f)) (hk : PySem.W.keepIn X.K (.ref f) = true) (hdb : (x == ("__debug__" : Str)) = false)
    (hst : (e0 :: es).any isStar = false) (hlen : ∀ ds S d S', ev ds S = .ok d S' → ds.length = ps.length) (ha : PA X (e0 :: es) (tAv X.K eas)) : PE X (.Call (.Name x p) (e0 :: es) [] pos) (tEv X.K fun r s => (eas r s).bind fun ds s1 => ev ds s1) :=
  (pe_callG F room hb hg hm hk hdb hst ha).imp fun σ H Q ⟨φ, r, S, d, S', hv, hs, e, q⟩ => by
    obtain ⟨ds, S1, e1, e⟩ := bind_ok e
    exact ⟨φ, r, S, ds, S1, hv, hs, e1, fun φ1 vs H1 x1 hs1 r1 => ⟨φ1, ds, S1, d, S', hs1, r1, e, hlen _ _ _ _ e, q.of x1⟩⟩
theorem v_call0 (F : FnG X.prog X.w X.K X.mg X.base k f fd ps ev) (room : RoomG k X.A) (hb : Binds X.K fd ps []) (hg : Gl X x) (hm : X.mg x = some (.ref f)) (hk : PySem.W.keepIn X.K (.ref f) = true) (hdb : (x == ("__debug__" : Str)) = false)
    (hlen : ∀ ds S d S', ev ds S = .ok d S' → ds.length = ps.length) : PE X (.Call (.Name x p) [] [] pos) (tEv X.K fun r s => (Res.ok [] s).bind fun ds s1 => ev ds s1) :=
  ⟨fun pins s σ H Q I ⟨φ, r, S, d, S', hv, hs, e, q⟩ => wpAny_Call_Name_kw (ld_glob I hg hm (PySem.W.callWith_K0 I.kIn hk (run_fng (us := []) F room hb I .nil hs (by simp only [Reps]) e (hlen _ _ _ _ e) q)) hdb)⟩
end
end Wb

/-! W18: what is compiled is read as the code says. -/
namespace Wb
open PySem PySem.Spec PyProof.Rows L2
variable [PWd]
/-! ### the names' facts -/
theorem ixOf_at {N : List Str} {x : Str} {i : Nat} (h : ixOf N x = some i) : N[i]? = some x := by
  unfold ixOf at h
  obtain ⟨h1, h2, _⟩ := List.findIdx?_eq_some_iff_getElem.mp h
  rw [List.getElem?_eq_getElem h1, of_decide_eq_true h2]
section
variable {sc : Scope} {x : Str}
theorem vis_of (h : visB sc x = true) : Vis sc x := by
  unfold visB at h
  unfold Vis
  split at h <;> first | (cases h; done) | simp_all
theorem loc_of (h : locB sc x = true) : L2.Loc sc x := by
  unfold locB at h
  unfold L2.Loc
  split at h <;> first | (cases h; done) | simp_all
theorem isLoc_of (h : isLoc sc x = true) : sc.names.lookup x = some .local := by
  unfold isLoc at h
  split at h <;> first | (cases h; done) | assumption
theorem glB_of (h : glB sc x = true) : sc.names.lookup x = some .globalImplicit := by
  unfold glB at h
  split at h <;> first | (cases h; done) | assumption
end
theorem two_some {α β γ : Type} {f : α → β → γ} {a : Option α} {b : Option β} {c : γ} (h : two f a b = some c) : ∃ x y, a = some x ∧ b = some y ∧ c = f x y := by
  cases a <;> cases b <;> simp only [two] at h <;> cases h
  exact ⟨_, _, rfl, rfl, rfl⟩
theorem three_some {α β γ δ : Type} {f : α → β → γ → δ} {a : Option α} {b : Option β} {c : Option γ} {d : δ} (h : three f a b c = some d) : ∃ x y z, a = some x ∧ b = some y ∧ c = some z ∧ d = f x y z := by
  cases a <;> cases b <;> cases c <;> simp only [three] at h <;> cases h
  exact ⟨_, _, _, rfl, rfl, rfl, rfl⟩
theorem ifO_some {α : Type} {b : Bool} {a : Option α} {c : α} (h : ifO b a = some c) : b = true ∧ a = some c := by
  unfold ifO at h
  split at h
  · exact ⟨by assumption, h⟩
  · cases h
theorem kdO_some {k : Nat} {a : Option Ls} {c : Ls} (h : kdO k a = some c) : a = some c ∧ k ≤ c.kd := by
  unfold kdO at h
  split at h
  · split at h
    · cases h; exact ⟨rfl, by assumption⟩
    · cases h
  · cases h
theorem mapO_cons {α β : Type} {f : α → Option β} {x : α} {l : List α} {c : List β} (h : mapO f (x :: l) = some c) : ∃ a b, f x = some a ∧ mapO f l = some b ∧ c = a :: b := by
  unfold mapO at h
  split at h
  · next a b h1 h2 => cases h; exact ⟨a, b, h1, h2, rfl⟩
  · cases h
structure Cg (G : Gm) (cl : Nat → List D → Store → Res D) (X : Cx) : Prop where
  rm : Rm X
  nd : X.N.Nodup
  blt : ∀ x, G.blt.contains x = true → X.mg x = none
  fns : ∀ i x, G.fns[i]? = some x → ∃ k f fd ps, X.mg x = some (.ref f) ∧ PySem.W.keepIn X.K (.ref f) = true ∧ Binds X.K fd ps [] ∧ RoomG k X.A ∧ FnG X.prog X.w X.K X.mg X.base k f fd ps (cl i) ∧ ∀ ds S d S', cl i ds S = .ok d S' → ds.length = ps.length
  cons : ∀ x d, G.cons.lookup x = some d → ∃ v u, X.mg x = some u ∧ RelV v u ∧ ∀ φ H, Rep X.K φ H d v
section
variable {G : Gm} {cl : Nat → List D → Store → Res D} {X : Cx}
theorem Cg.blk (C : Cg G cl X) (s : Shared) (H : Hp) (scope : Scope) (cenv : PySem.Env) (fp : List Addr) : Cg G cl (X.blk s H scope cenv fp) := ⟨⟨C.rm.calm, C.rm.un, C.rm.gd, C.rm.pP, C.rm.pW⟩, C.nd, C.blt, C.fns, C.cons⟩
theorem gB_of {f : Str} (C : Cg G cl X) (h : gB G X.env.scope f = true) : Gl X f ∧ X.mg f = none := by
  unfold gB at h
  simp only [Bool.and_eq_true] at h
  exact ⟨glB_of h.1, C.blt f h.2⟩
theorem _root_.L2.PE.to {e : Expr} {f g : Env → Store → Res D} (h : PE X e (tEv X.K f)) (he : ∀ r s, g r s = f r s) : PE X e (tEv X.K g) := by
  have : g = f := funext fun r => funext fun s => he r s
  rw [this]; exact h
theorem _root_.L2.PE.toL {k : Nat} {e : Expr} {f g : Env → Store → Res (List D)} (h : PE X e (tLv X.K k f)) (he : ∀ r s, g r s = f r s) : PE X e (tLv X.K k g) := by
  have : g = f := funext fun r => funext fun s => he r s
  rw [this]; exact h
theorem _root_.L2.PT.to {e : Expr} {f g : Env → Store → Res Bool} (h : PT X e (tTv X.K f)) (he : ∀ r s, g r s = f r s) : PT X e (tTv X.K g) := by
  have : g = f := funext fun r => funext fun s => he r s
  rw [this]; exact h
theorem _root_.L2.PW.to {e : Expr} {f g : Env → Store → Res Bool} (h : PW X e (tTv X.K f)) (he : ∀ r s, g r s = f r s) : PW X e (tTv X.K g) := by
  have : g = f := funext fun r => funext fun s => he r s
  rw [this]; exact h
theorem _root_.L2.PA.to {e : List Expr} {f g : Env → Store → Res (List D)} (h : PA X e (tAv X.K f)) (he : ∀ r s, g r s = f r s) : PA X e (tAv X.K g) := by
  have : g = f := funext fun r => funext fun s => he r s
  rw [this]; exact h
theorem _root_.L2.PO.to {e : Option Expr} {f g : Env → Store → Res (Option Int)} (h : PO X e (tOv X.K f)) (he : ∀ r s, g r s = f r s) : PO X e (tOv X.K g) := by
  have : g = f := funext fun r => funext fun s => he r s
  rw [this]; exact h
theorem _root_.L2.PI.to {tg e : Expr} {f g : Env → Store → Res (List D × Option (Nat × List D))} (h : PI X tg e (tIv X.K f)) (he : ∀ r s, g r s = f r s) : PI X tg e (tIv X.K g) := by
  have : g = f := funext fun r => funext fun s => he r s
  rw [this]; exact h
theorem _root_.L2.PG.to {js : List Nat} {e : Expr} {f g : D → Env → Store → Res Env} (h : PG X e (tGv X.K js f)) (he : ∀ d r s, g d r s = f d r s) : PG X e (tGv X.K js g) := by
  have : g = f := funext fun d => funext fun r => funext fun s => he d r s
  rw [this]; exact h
theorem _root_.L2.PGs.to {js : List Nat} {e : List Expr} {f g : List D → Env → Store → Res Env} (h : PGs X e (tGsv X.K js f)) (he : ∀ d r s, g d r s = f d r s) : PGs X e (tGsv X.K js g) := by
  have : g = f := funext fun d => funext fun r => funext fun s => he d r s
  rw [this]; exact h
theorem _root_.L2.PS.to {e : Stmt} {f g : Env → Store → Res Out} (h : PS X e (tSv X.K f)) (he : ∀ r s, g r s = f r s) : PS X e (tSv X.K g) := by
  have : g = f := funext fun r => funext fun s => he r s
  rw [this]; exact h
theorem _root_.L2.PSs.to {e : List Stmt} {f g : Env → Store → Res Out} (h : PSs X e (tSv X.K f)) (he : ∀ r s, g r s = f r s) : PSs X e (tSv X.K g) := by
  have : g = f := funext fun r => funext fun s => he r s
  rw [this]; exact h
structure Good (G : Gm) (cl : Nat → List D → Store → Res D) (r : Rc) : Prop where
  e : ∀ (X : Cx) (e : Expr) (c : E), Cg G cl X → r.e X.N X.env.scope e = some c → PE X e (tEv X.K (evE cl c))
  c : ∀ (X : Cx) (e : Expr) (c : E), Cg G cl X → r.e X.N X.env.scope e = some c → PT X e (tTv X.K (evT cl c))
  w : ∀ (X : Cx) (o : BoolOp) (es : List Expr) (p : Pos) (c : E), Cg G cl X → r.e X.N X.env.scope (.BoolOp o es p) = some c → PW X (.BoolOp o es p) (tTv X.K (evT cl c))
  o : ∀ (X : Cx) (e : Option Expr) (c : Option E), Cg G cl X → r.o X.N X.env.scope e = some c → PO X e (tOv X.K (evO cl c))
  l : ∀ (X : Cx) (e : Expr) (c : Ls), Cg G cl X → r.l X.N X.env.scope e = some c → PE X e (tLv X.K c.kd (evL cl c))
  ll : ∀ (X : Cx) (e : Expr) (c : Ls), Cg G cl X → r.ll X.N X.env.scope e = some c → PE X e (tLv X.K c.kd (evL cl c))
  i : ∀ (X : Cx) (e : List Expr) (c : Option E), Cg G cl X → r.i X.N X.env.scope e = some c → PTs X e (tTv X.K (evC cl c))
  it : ∀ (X : Cx) (tg e : Expr) (c : It), Cg G cl X → r.it X.N X.env.scope tg e = some c → PI X tg e (tIv X.K (evIt cl c))
  t : ∀ (X : Cx) (fb : Str → Bool) (e : Expr) (c : T), Cg G cl X → (∀ x, fb x = true → X.fn x = true) → r.t X.N X.env.scope fb e = some c → PG X e (tGv X.K c.ids (asT cl c))
variable {r : Rc}
theorem args_of (g : Good G cl r) (C : Cg G cl X) : ∀ {es : List Expr} {cs : List E}, es.any isStar = false → mapO (r.e X.N X.env.scope) es = some cs → PA X es (tAv X.K (evEs cl cs))
  | [], cs, _, h => by cases h; exact v_argnil.to fun r s => by rw [evEs]
  | e :: es, cs, hst, h => by
    simp only [List.any_cons, Bool.or_eq_false_iff] at hst
    obtain ⟨a, b, h1, h2, rfl⟩ := mapO_cons h
    exact (v_argcons hst.1 (g.e X e a C h1) (args_of g C hst.2 h2)).to fun r s => by rw [evEs]
theorem tgs_of (g : Good G cl r) (C : Cg G cl X) {fb : Str → Bool} (hfb : ∀ x, fb x = true → X.fn x = true) : ∀ {es : List Expr} {cs : List T}, es.any isStar = false → mapO (r.t X.N X.env.scope fb) es = some cs → es.length = cs.length ∧ PGs X es (tGsv X.K (T.idss cs) (asTs cl cs))
  | [], cs, _, h => by cases h; exact ⟨rfl, v_gnil.to fun d r s => by rw [asTs]⟩
  | e :: es, cs, hst, h => by
    simp only [List.any_cons, Bool.or_eq_false_iff] at hst
    obtain ⟨a, b, h1, h2, rfl⟩ := mapO_cons h
    obtain ⟨hl, hp⟩ := tgs_of g C hfb hst.2 h2
    exact ⟨by simp [hl], (v_gcons hst.1 (g.t X fb e a C hfb h1) hp).to fun d r s => by cases d <;> rw [asTs]⟩
theorem prg_of (g : Good G cl r) (C : Cg G cl X) {e : Expr} {es : List Expr} {p : E × E} (h1 : bRange G X.env.scope e = some es) (h2 : rng2 r X.N X.env.scope es = some p) : PRg X e (tRv X.K (evE cl p.1) (evE cl p.2)) := by
  unfold bRange at h1
  split at h1
  · split at h1
    · next hc =>
      cases h1
      obtain ⟨rfl, hg, hst⟩ := hc
      obtain ⟨g1, g2⟩ := gB_of C hg
      unfold rng2 at h2
      split at h2
      · simp only [List.any_cons, Bool.or_eq_false_iff] at hst
        obtain ⟨y, hy, rfl⟩ := Option.map_eq_some_iff.mp h2
        have e0 : evE cl (.lit (.int 0)) = fun _ s => .ok (.int 0) s := funext fun r => funext fun s => by rw [evE]
        rw [e0]
        exact v_prg1 g1 g2 hst.1 (g.e X _ y C hy)
      · simp only [List.any_cons, Bool.or_eq_false_iff] at hst
        obtain ⟨x, y, hx, hy, rfl⟩ := two_some h2
        exact v_prg2 g1 g2 hst.1 hst.2.1 (g.e X _ x C hx) (g.e X _ y C hy)
      · cases h2
    · cases h1
  · cases h1
theorem pir_of (g : Good G cl r) (C : Cg G cl X) {tg e : Expr} {es : List Expr} {p : E × E} (h1 : bRange G X.env.scope e = some es) (h2 : rng2 r X.N X.env.scope es = some p) : PI X tg e (tIv X.K (evIt cl (.rng p.1 p.2))) := by
  unfold bRange at h1
  split at h1
  · split at h1
    · next hc =>
      cases h1
      obtain ⟨rfl, hg, hst⟩ := hc
      obtain ⟨g1, g2⟩ := gB_of C hg
      unfold rng2 at h2
      split at h2
      · simp only [List.any_cons, Bool.or_eq_false_iff] at hst
        obtain ⟨y, hy, rfl⟩ := Option.map_eq_some_iff.mp h2
        exact (v_itr1 g1 g2 hst.1 (g.e X _ y C hy)).to fun r s => by rw [evIt, evE] <;> rfl
      · simp only [List.any_cons, Bool.or_eq_false_iff] at hst
        obtain ⟨x, y, hx, hy, rfl⟩ := two_some h2
        exact (v_itr2 g1 g2 hst.1 hst.2.1 (g.e X _ x C hx) (g.e X _ y C hy)).to fun r s => by rw [evIt] <;> rfl
      · cases h2
    · cases h1
  · cases h1
end
end Wb

/-! W19: one step of the compiling, expressions. -/
namespace Wb
open PySem PySem.Spec PyProof.Rows L2
variable [PWd]
section
variable {G : Gm} {cl : Nat → List D → Store → Res D} {X : Cx} {r : Rc}
theorem s_name (C : Cg G cl X) {x : Str} {p : Pos} {c : E} (h : eName G X.N X.env.scope x = some c) : PE X (.Name x p) (tEv X.K (evE cl c)) := by
  unfold eName at h
  obtain ⟨hp, h⟩ := ifO_some h
  have hd : (x == ("__debug__" : Str)) = false := by
    unfold plainName at hp
    simp only [Bool.and_eq_true, Bool.not_eq_true'] at hp
    exact hp.1
  have hcd : (x == ("__classdict__" : Str)) = false := by
    unfold plainName at hp
    simp only [Bool.and_eq_true, Bool.not_eq_true'] at hp
    exact hp.2
  split at h
  · next hv =>
    obtain ⟨i, hi, rfl⟩ := Option.map_eq_some_iff.mp h
    exact ((pe_var (ixOf_at hi) (vis_of hv) hd hcd).imp v_var).to fun r s => by rw [evE]
  · obtain ⟨hg, h⟩ := ifO_some h
    obtain ⟨d, hd1, rfl⟩ := Option.map_eq_some_iff.mp h
    obtain ⟨v, u, h1, h2, h3⟩ := C.cons x d hd1
    exact ((pe_glob (glB_of hg) h1 h2 hd).imp (v_lit (fun _ _ _ q => q) h3)).to fun r s => by rw [evE]
theorem s_const {k : Const} {j : Nat} {p : Pos} {c : E} (h : eConst k = some c) : PE X (.Constant k j p) (tEv X.K (evE cl c)) := by
  cases k <;> simp only [eConst] at h <;> cases h
  · exact (pe_non.imp (v_lit (d := .non) (fun _ _ _ q => q) fun φ H => by simp only [Rep])).to fun r s => by rw [evE]
  · rename_i b
    exact (pe_bl.imp (v_lit (d := .bl b) (fun _ _ _ q => q) fun φ H => by simp only [Rep])).to fun r s => by rw [evE]
  · rename_i b
    exact (pe_int.imp (v_lit (d := .int b) (fun _ _ _ q => q) fun φ H => by simp only [Rep])).to fun r s => by rw [evE]
  · rename_i b
    exact (pe_str.imp (v_lit (d := .str b) (fun _ _ _ q => q) fun φ H => by simp only [Rep])).to fun r s => by rw [evE]
theorem s_newL (g : Good G cl r) (C : Cg G cl X) {e : Expr} {c : E} (h : (kdO 2 (r.l X.N X.env.scope e)).map E.newL = some c) : PE X e (tEv X.K (evE cl c)) := by
  obtain ⟨l, hl, rfl⟩ := Option.map_eq_some_iff.mp h
  obtain ⟨h1, h2⟩ := kdO_some hl
  have k2 : l.kd = 2 := by cases l <;> simp only [Ls.kd] at h2 ⊢ <;> omega
  have := g.l X e l C h1
  rw [k2] at this
  exact (v_newL this).to fun r s => by rw [evE]
theorem s_bool (g : Good G cl r) (C : Cg G cl X) {o : BoolOp} {es : List Expr} {p : Pos} {c : E} (h : eBool r X.N X.env.scope o es p = some c) :
    PE X (.BoolOp o es p) (tEv X.K (evE cl c)) ∧ PW X (.BoolOp o es p) (tTv X.K (evT cl c)) := by
  unfold eBool at h
  split at h
  · refine ⟨pe_one (g.e X _ c C h), ?_⟩
    cases o
    · exact pw_and1 (g.c X _ c C h)
    · exact pw_or1 (g.c X _ c C h)
  · obtain ⟨x, y, h1, h2, rfl⟩ := two_some h
    exact ⟨(v_and (g.e X _ x C h1) (g.e X _ y C h2)).to fun r s => by rw [evE] <;> rfl, (v_andT (g.c X _ x C h1) (g.w X _ _ _ y C h2)).to fun r s => by rw [evT]⟩
  · obtain ⟨x, y, h1, h2, rfl⟩ := two_some h
    exact ⟨(v_or (g.e X _ x C h1) (g.e X _ y C h2)).to fun r s => by rw [evE] <;> rfl, (v_orT (g.c X _ x C h1) (g.w X _ _ _ y C h2)).to fun r s => by rw [evT]⟩
  · cases h
theorem s_cmp1 (g : Good G cl r) (C : Cg G cl X) {o : CmpOp} {a b : Expr} {p : Pos} {c : E} (h : eCmp1 r X.N X.env.scope o a b = some c) :
    PE X (.Compare a [o] [b] p) (tEv X.K (evE cl c)) ∧ PT X (.Compare a [o] [b] p) (tTv X.K (evT cl c)) := by
  unfold eCmp1 at h
  obtain ⟨hset, h⟩ := ifO_some h
  have hset : isSet b = false := by simpa using hset
  split at h
  · next hc =>
    simp only [isEqs, Bool.and_eq_true, Bool.or_eq_true, decide_eq_true_eq] at hc
    obtain ⟨x, h1, rfl⟩ := Option.map_eq_some_iff.mp h
    obtain ⟨p1, rfl⟩ : ∃ p1, b = .List [] p1 := by
      have := hc.1.2
      unfold isNil at this
      split at this
      · exact ⟨_, rfl⟩
      · cases this
    exact ⟨(v_nilq C.rm hc.1.1 (g.e X _ x C h1)).to fun r s => by rw [evE] <;> rfl, ⟨fun pins s σ H Q I ⟨_, _, _, _, _, _, _, e, _⟩ => by
      rw [evT] at e
      · cases e
      all_goals (intros; simp_all)⟩⟩
  split at h
  · next hc =>
    obtain ⟨x, y, h1, h2, rfl⟩ := two_some h
    obtain ⟨h1, k1⟩ := kdO_some h1
    obtain ⟨h2, k2⟩ := kdO_some h2
    have ho : o = .Eq ∨ o = .NotEq := by
      simp only [isEqs, Bool.and_eq_true, Bool.or_eq_true, decide_eq_true_eq] at hc
      exact hc.2
    obtain ⟨q1, q2⟩ := v_cpL C.rm ho hset k1 k2 (g.ll X _ x C h1) (g.ll X _ y C h2) (pos := p)
    exact ⟨q1.to fun r s => by rw [evE], q2.to fun r s => by rw [evT]⟩
  · obtain ⟨x, y, h1, h2, rfl⟩ := two_some h
    exact ⟨(v_cp C.rm o hset (g.e X _ x C h1) (g.e X _ y C h2)).to fun r s => by rw [evE], (v_cpT C.rm o hset (g.e X _ x C h1) (g.e X _ y C h2)).to fun r s => by rw [evT]⟩
theorem s_call1 (g : Good G cl r) (C : Cg G cl X) {f : Str} {a : Expr} {p pos : Pos} {c : E} (h : eCall1 G r X.N X.env.scope (.Call (.Name f p) [a] [] pos) f a = some c) (hdb : (f == ("__debug__" : Str)) = false) : PE X (.Call (.Name f p) [a] [] pos) (tEv X.K (evE cl c)) := by
  unfold eCall1 at h
  obtain ⟨hb, h⟩ := ifO_some h
  simp only [Bool.and_eq_true, Bool.not_eq_true'] at hb
  obtain ⟨hb, hst⟩ := hb
  obtain ⟨hg, hm⟩ := gB_of C hb
  split at h
  · exact s_newL g C h
  · split at h
    · next hf =>
      obtain ⟨l, h1, rfl⟩ := Option.map_eq_some_iff.mp h
      obtain ⟨h1, h2⟩ := kdO_some h1
      subst hf
      have k2 : l.kd = 2 := by cases l <;> simp only [Ls.kd] at h2 ⊢ <;> omega
      have := g.l X a l C h1
      rw [k2] at this
      exact (v_newP C.rm hg hm hst this).to fun r s => by rw [evE] <;> rfl
    split at h
    · next hf =>
      obtain ⟨l, h1, rfl⟩ := Option.map_eq_some_iff.mp h
      exact (v_con C.rm (.inr ⟨hf.1, rfl⟩) (.inr (.inl rfl)) hg hm hst (g.l X a l C h1)).to fun r s => by rw [evE]
    · split at h
      · next co hco =>
        split at h
        · next es hes =>
          obtain ⟨ht, h3⟩ := ifO_some h
          have ht : co = .tup := of_decide_eq_true ht
          subst ht
          have hf : f = ("tuple" : Str) := by
            unfold c1 at hco
            split at hco
            · assumption
            · split at hco
              · cases hco
              · split at hco
                · cases hco
                · split at hco
                  · cases hco
                  · split at hco
                    · cases hco
                    · split at hco <;> cases hco
          subst hf
          obtain ⟨q, h2, rfl⟩ := Option.map_eq_some_iff.mp h3
          exact (v_tupRng C.rm hg hm hst (prg_of g C hes h2)).to fun r s => by rw [evE] <;> rfl
        · obtain ⟨_, h⟩ := ifO_some h
          obtain ⟨l, h1, rfl⟩ := Option.map_eq_some_iff.mp h
          obtain ⟨h1, hk⟩ := kdO_some h1
          refine (v_con C.rm (.inl hco) ?_ hg hm hst (g.l X a l C h1)).to fun r s => by rw [evE]
          unfold c1 at hco
          split at hco
          · cases hco; exact .inl rfl
          · split at hco
            · cases hco; exact .inr (.inr ⟨.inl hk, .inl rfl⟩)
            · split at hco
              · cases hco; exact .inr (.inr ⟨.inl hk, .inr (.inl rfl)⟩)
              · split at hco
                · cases hco; exact .inr (.inr ⟨.inl hk, .inr (.inr (.inl rfl))⟩)
                · split at hco
                  · cases hco; exact .inr (.inr ⟨.inl hk, .inr (.inr (.inr (.inl rfl)))⟩)
                  · split at hco
                    · cases hco; exact .inr (.inr ⟨.inr rfl, .inr (.inr (.inr (.inr rfl)))⟩)
                    · cases hco
      · split at h
        · next bn hbn =>
          obtain ⟨x, h1, rfl⟩ := Option.map_eq_some_iff.mp h
          have key : ∃ u, bName bn = some u ∧ bootBuiltins f = some u ∧ f ≠ "__name__" := by
            unfold bOf1 at hbn
            split at hbn
            · next e => subst e; cases hbn; exact ⟨_, rfl, by decide +kernel, by decide⟩
            · split at hbn
              · next e => subst e; cases hbn; exact ⟨_, rfl, by decide +kernel, by decide⟩
              · split at hbn
                · next e => subst e; cases hbn; exact ⟨_, rfl, by decide +kernel, by decide⟩
                · split at hbn
                  · next e => subst e; cases hbn; exact ⟨_, rfl, by decide +kernel, by decide⟩
                  · split at hbn
                    · next e => subst e; cases hbn; exact ⟨_, rfl, by decide +kernel, by decide⟩
                    · cases hbn
          obtain ⟨u, k1, k2, k3⟩ := key
          exact (v_blt C.rm k1 hg hm k2 k3 hdb hst (g.e X a x C h1)).to fun r s => by rw [evE]; simp only [evEs]
        · cases h
theorem s_call2 (g : Good G cl r) (C : Cg G cl X) {f : Str} {a b : Expr} {p pos : Pos} {c : E} (h : eCall2 G r X.N X.env.scope f a b = some c) (hdb : (f == ("__debug__" : Str)) = false) : PE X (.Call (.Name f p) [a, b] [] pos) (tEv X.K (evE cl c)) := by
  unfold eCall2 at h
  obtain ⟨hb, h⟩ := ifO_some h
  simp only [Bool.and_eq_true, Bool.not_eq_true'] at hb
  obtain ⟨⟨hb, hst⟩, hst2⟩ := hb
  obtain ⟨hg, hm⟩ := gB_of C hb
  split at h
  · next k hk =>
    obtain ⟨x, y, h1, h2, rfl⟩ := two_some h
    unfold b2 at hk
    split at hk
    · next e =>
      subst e; cases hk
      exact (v_blt2 C.rm (bn := .min2) rfl hg hm (by decide +kernel) (by decide) hdb hst hst2 (g.e X _ x C h1) (g.e X _ y C h2)).to fun r s => by rw [evE]; simp only [evEs]
    · split at hk
      · next e =>
        subst e; cases hk
        exact (v_blt2 C.rm (bn := .max2) rfl hg hm (by decide +kernel) (by decide) hdb hst hst2 (g.e X _ x C h1) (g.e X _ y C h2)).to fun r s => by rw [evE]; simp only [evEs]
      · cases hk
  · cases h
theorem s_call (g : Good G cl r) (C : Cg G cl X) {f : Str} {args : List Expr} {p pos : Pos} {c : E} (h : eCall G r X.N X.env.scope (.Call (.Name f p) args [] pos) f args = some c) : PE X (.Call (.Name f p) args [] pos) (tEv X.K (evE cl c)) := by
  unfold eCall at h
  obtain ⟨hb, h⟩ := ifO_some h
  simp only [Bool.and_eq_true, Bool.not_eq_true'] at hb
  obtain ⟨⟨hg, hst⟩, hdb⟩ := hb
  have hgl : Gl X f := glB_of hg
  split at h
  · next k hk =>
    obtain ⟨cs, h1, rfl⟩ := Option.map_eq_some_iff.mp h
    obtain ⟨k2, fa, fd, ps, f1, f2, f3, f4, f5, f6⟩ := C.fns k f (ixOf_at hk)
    cases args with
    | nil =>
      cases h1
      exact (v_call0 f5 f4 f3 hgl f1 f2 hdb f6).to fun r s => by rw [evE, evEs]
    | cons a rest => exact (v_call f5 f4 f3 hgl f1 f2 hdb hst f6 (args_of g C hst h1)).to fun r s => by rw [evE]
  · split at h
    · exact s_call1 g C h hdb
    · simp only [List.any_cons, List.any_nil, Bool.or_false, Bool.or_eq_false_iff] at hst
      split at h
      · split at h
        · next a b t pt hf =>
          obtain ⟨hb, h3⟩ := ifO_some h
          simp only [Bool.and_eq_true] at hb
          obtain ⟨b1, b2⟩ := hb
          clear h
          subst hf
          obtain ⟨g1, m1⟩ := gB_of C b1
          obtain ⟨g2, m2⟩ := gB_of C b2
          split at h3
          · next hk =>
            obtain ⟨x, h1, rfl⟩ := Option.map_eq_some_iff.mp h3
            exact (v_isi (f := ("isinstance" : Str)) g1 m1 g2 m2 hk hst.1 (g.e X _ x C h1)).to fun r s => by rw [evE]
          · cases h3
        · exact s_call2 g C h hdb
      · exact s_call2 g C h hdb
    · cases h
theorem s_meth1 (g : Good G cl r) (C : Cg G cl X) {o a : Expr} {m : Str} {ap cp : Pos} {c : E} (hl : (ap.endLine == cp.line) = true) (h : eMeth1 r X.N X.env.scope o m a = some c) : PE X (.Call (.Attribute o m ap) [a] [] cp) (tEv X.K (evE cl c)) := by
  unfold eMeth1 at h
  obtain ⟨hb, h3⟩ := ifO_some h
  clear h
  have h := h3
  clear h3
  simp only [Bool.and_eq_true, Bool.not_eq_true'] at hb
  obtain ⟨hca, hst⟩ := hb
  split at h
  · next e =>
    subst e
    obtain ⟨x, y, h1, h2, rfl⟩ := two_some h
    obtain ⟨h2, hk⟩ := kdO_some h2
    exact (v_ext hk hca hst hl (g.e X _ x C h1) (g.ll X _ y C h2)).to fun r s => by rw [evE] <;> rfl
  split at h
  · next e =>
    subst e
    obtain ⟨x, y, h1, h2, rfl⟩ := two_some h
    exact (v_index C.rm hca hst hl (g.e X _ x C h1) (g.e X _ y C h2)).to fun r s => by rw [evE]
  split at h
  · next e =>
    subst e
    split at h
    · next t ht =>
      obtain ⟨y, h2, rfl⟩ := Option.map_eq_some_iff.mp h
      exact (v_join (eo := evE cl (.lit (.str t))) hca hst hl (g.e X _ _ C ht) (g.l X _ y C h2) (fun r s x s1 hx => by rw [evE] at hx; cases hx; exact ⟨_, rfl⟩)).to fun r s => by simp only [evE]
    · cases h
  · split at h
    · next mm hm =>
      obtain ⟨x, y, h1, h2, rfl⟩ := two_some h
      have key : ∃ n, mName mm = some n ∧ ((m = ("append" : Str) ∧ mm = .append) ∨ (m = ("pop" : Str) ∧ mm = .popAt)) := by
        unfold methOf at hm
        split at hm
        · next e => cases hm; exact ⟨_, rfl, .inl ⟨e.1, rfl⟩⟩
        · split at hm
          · next e => exact absurd e.2 (by decide)
          · split at hm
            · next e => cases hm; exact ⟨_, rfl, .inr ⟨e.1, rfl⟩⟩
            · split at hm
              · next e => exact absurd e.2 (by decide)
              · split at hm
                · next e => exact absurd e.2 (by decide)
                · cases hm
      obtain ⟨n, k1, k2⟩ := key
      exact (v_meth1 k1 k2 hca hst hl (g.e X _ x C h1) (g.e X _ y C h2)).to fun r s => by rw [evE]; simp only [evEs] <;> rfl
    · cases h
theorem s_meth2 (g : Good G cl r) (C : Cg G cl X) {o a b : Expr} {m : Str} {ap cp : Pos} {c : E} (hl : (ap.endLine == cp.line) = true) (h : eMeth2 r X.N X.env.scope o m a b = some c) : PE X (.Call (.Attribute o m ap) [a, b] [] cp) (tEv X.K (evE cl c)) := by
  unfold eMeth2 at h
  obtain ⟨hb, h3⟩ := ifO_some h
  clear h
  simp only [Bool.and_eq_true, Bool.not_eq_true'] at hb
  obtain ⟨⟨hca, hst⟩, hst2⟩ := hb
  split at h3
  · next e =>
    subst e
    obtain ⟨x, y, z, h1, h2, h4, rfl⟩ := three_some h3
    exact (v_get2 C.rm hca hst hst2 hl (g.e X _ x C h1) (g.e X _ y C h2) (g.e X _ z C h4)).to fun r s => by rw [evE]
  · split at h3
    · next e =>
      subst e
      obtain ⟨x, y, z, h1, h2, h4, rfl⟩ := three_some h3
      exact (v_setd C.rm hca hst hst2 hl (g.e X _ x C h1) (g.e X _ y C h2) (g.e X _ z C h4)).to fun r s => by rw [evE] <;> rfl
    · cases h3
theorem s_meth0 (g : Good G cl r) (C : Cg G cl X) {o : Expr} {m : Str} {ap cp : Pos} {k : M} {x : E} (hl : (ap.endLine == cp.line) = true) (hca : isCall o = false) (hm : methOf m 0 = some k) (h1 : r.e X.N X.env.scope o = some x) : PE X (.Call (.Attribute o m ap) [] [] cp) (tEv X.K (evE cl (.meth k x []))) := by
  have key : (m = ("pop" : Str) ∧ k = .pop) ∨ (m = ("clear" : Str) ∧ k = .clear) ∨ (m = ("reverse" : Str) ∧ k = .reverse) := by
    unfold methOf at hm
    split at hm
    · next e => exact absurd e.2 (by decide)
    · split at hm
      · next e => cases hm; exact .inl ⟨e.1, rfl⟩
      · split at hm
        · next e => exact absurd e.2 (by decide)
        · split at hm
          · next e => cases hm; exact .inr (.inl ⟨e.1, rfl⟩)
          · split at hm
            · next e => cases hm; exact .inr (.inr ⟨e.1, rfl⟩)
            · cases hm
  exact (v_meth0 key hca hl (g.e X _ x C h1)).to fun r s => by rw [evE]; simp only [evEs] <;> rfl
theorem pairs_of (g : Good G cl r) (C : Cg G cl X) {p : Pos} : ∀ {ks : List (Option Expr)} {vs : List Expr} {xs : List Str} {ys : List E}, mapO strKey ks = some xs → mapO (r.e X.N X.env.scope) vs = some ys → xs.length = ys.length → PPs X p ks vs (trsOf X.K cl (xs.zip ys)) ∧ ks.length = xs.length ∧ vs.length = ys.length ∧ ks.all (·.isSome) = true
  | [], [], xs, ys, h1, h2, _ => by cases h1; cases h2; exact ⟨pps_nil, rfl, rfl, rfl⟩
  | [], v :: vs, xs, ys, h1, h2, hl => by
    cases h1
    obtain ⟨a, b, _, _, rfl⟩ := mapO_cons h2
    simp at hl
  | k :: ks, [], xs, ys, h1, h2, hl => by
    cases h2
    obtain ⟨a, b, _, _, rfl⟩ := mapO_cons h1
    simp at hl
  | k :: ks, v :: vs, xs, ys, h1, h2, hl => by
    obtain ⟨x, xs, hx, hxs, rfl⟩ := mapO_cons h1
    obtain ⟨y, ys, hy, hys, rfl⟩ := mapO_cons h2
    obtain ⟨q1, q2, q3, q4⟩ := pairs_of g C (p := p) hxs hys (by simpa using hl)
    unfold strKey at hx
    split at hx
    · cases hx
      exact ⟨pps_cons pe_str (g.e X _ y C hy) q1, by simp [q2], by simp [q3], by simp [q4]⟩
    · cases hx
theorem s_dict (g : Good G cl r) (C : Cg G cl X) {ks : List (Option Expr)} {vs : List Expr} {p : Pos} {c : E} (h : eDict r X.N X.env.scope ks vs = some c) : PE X (.Dict ks vs p) (tEv X.K (evE cl c)) := by
  unfold eDict at h
  split at h
  · split at h
    · cases h; exact v_newD.to fun r s => by rw [evE]
    · cases h
  · next k ks =>
    split at h
    · next xs ys hx hy =>
      obtain ⟨hl, h⟩ := ifO_some h
      simp only [Bool.and_eq_true, decide_eq_true_eq] at hl
      cases h
      obtain ⟨q1, q2, q3, q4⟩ := pairs_of g C (p := p) hx hy hl.1
      exact (v_dic q1 q4 (by rw [q2, q3, hl.1]) (by simp) (by rw [q2]; exact hl.2)).to fun r s => by rw [evE]
    · cases h
end
end Wb

/-! W20: one step of the compiling, whole. -/
namespace Wb
open PySem PySem.Spec PyProof.Rows L2
variable [PWd]
theorem res_bind3 {α β γ : Type} (m : Res α) (f : α → Store → Res β) (g : β → Store → Res γ) : (m.bind f).bind g = m.bind fun a s => (f a s).bind g := by cases m <;> rfl
theorem opt_bind {α β : Type} (s : Store) (a : Option α) (f : α → Store → Option β) : ((Res.opt s a).bind fun d s1 => Res.opt s1 (f d s1)) = Res.opt s (a.bind fun d => f d s) := by cases a <;> rfl
theorem opt_bl (s : Store) (o : Option Bool) : ((o.map D.bl).bind fun d => truthD s d) = o := by cases o <;> rfl
section
variable {G : Gm} {cl : Nat → List D → Store → Res D} {X : Cx} {r : Rc}
theorem evT_le {c : E} {rr : Env} {s s' : Store} {b : Bool} (hp : plainC c = true) (e : evT cl c rr s = .ok b s') : ((evE cl c rr s).bind fun d s1 => Res.opt s1 (truthD s1 d)) = .ok b s' := by
  cases c <;> simp only [plainC] at hp <;> try (cases hp; done)
  all_goals simp only [evT] at e
  all_goals try (cases e; done)
  all_goals simp only [evE]
  all_goals try simp only [res_bind3, opt_bind, Res.bind_ok]
  all_goals try exact e
  simp only [opt_bl]
  exact e
theorem pt_gen {e : Expr} {c : E} (hp : plainC c = true) (h : PE X e (tEv X.K (evE cl c))) (he : ∀ whole, isTrue e X.env whole = (do let v ← whole; standAt e.pos; holding [v] (truthy v))) : PT X e (tTv X.K (evT cl c)) :=
  (v_truth h he).imp fun σ H Q ⟨φ, r, S, b, S', hv, hs, e, q⟩ => ⟨φ, r, S, b, S', hv, hs, evT_le hp e, q⟩
theorem s_e0 (g : Good G cl r) (C : Cg G cl X) {e : Expr} {c : E} (h : stepE0 G r X.N X.env.scope e = some c) : PE X e (tEv X.K (evE cl c)) := by
  unfold stepE0 at h
  split at h
  · exact s_name C h
  · exact s_const h
  · obtain ⟨hst, h⟩ := ifO_some h
    obtain ⟨cs, h1, rfl⟩ := Option.map_eq_some_iff.mp h
    exact (v_tup (args_of g C (by simpa using hst) h1)).to fun r s => by rw [evE]
  · split at h
    · exact s_newL g C h
    · split at h
      · next ho =>
        obtain ⟨x, y, h1, h2, rfl⟩ := two_some h
        exact (v_op ho (g.e X _ x C h1) (g.e X _ y C h2)).to fun r s => by rw [evE] <;> rfl
      · cases h
  · obtain ⟨x, h1, rfl⟩ := Option.map_eq_some_iff.mp h
    exact (v_not (g.e X _ x C h1)).to fun r s => by rw [evE]
  · obtain ⟨x, h1, rfl⟩ := Option.map_eq_some_iff.mp h
    exact (v_neg (g.e X _ x C h1)).to fun r s => by rw [evE] <;> rfl
  · exact (s_bool g C h).1
  · exact (s_cmp1 g C h).1
  · obtain ⟨hs, h⟩ := ifO_some h
    simp only [Bool.and_eq_true, Bool.not_eq_true'] at hs
    obtain ⟨x, y, z, h1, h2, h3, rfl⟩ := three_some h
    exact (v_chain C.rm _ _ hs.1 hs.2 (g.e X _ x C h1) (g.e X _ y C h2) (g.e X _ z C h3)).to fun r s => by rw [evE] <;> rfl
  · obtain ⟨x, y, z, h1, h2, h3, rfl⟩ := three_some h
    exact (v_ite (g.c X _ x C h1) (g.e X _ y C h2) (g.e X _ z C h3)).to fun r s => by rw [evE]
  · obtain ⟨x, y, z, h1, h2, h3, rfl⟩ := three_some h
    exact (v_sl (g.e X _ x C h1) (g.o X _ y C h2) (g.o X _ z C h3)).to fun r s => by rw [evE] <;> rfl
  · obtain ⟨x, h1, rfl⟩ := Option.map_eq_some_iff.mp h
    exact (v_rev (g.e X _ x C h1)).to fun r s => by rw [evE] <;> rfl
  · obtain ⟨hs, h⟩ := ifO_some h
    obtain ⟨x, y, h1, h2, rfl⟩ := two_some h
    exact (v_ix C.rm (by simpa using hs) (g.e X _ x C h1) (g.e X _ y C h2)).to fun r s => by rw [evE]
  · exact s_newL g C h
  · exact s_newL g C h
  · exact s_dict g C h
  · exact s_call g C h
  · obtain ⟨hl, h⟩ := ifO_some h
    exact s_meth1 g C hl h
  · obtain ⟨hl, h⟩ := ifO_some h
    simp only [Bool.and_eq_true, Bool.not_eq_true'] at hl
    obtain ⟨hl, hca⟩ := hl
    split at h
    · next k hk =>
      obtain ⟨x, h1, rfl⟩ := Option.map_eq_some_iff.mp h
      exact s_meth0 g C hl hca hk h1
    · cases h
  · obtain ⟨hl, h⟩ := ifO_some h
    exact s_meth2 g C hl h
  · cases h
theorem stepE_some {N : List Str} {sc : Scope} {e : Expr} {c : E} (h : stepE G r N sc e = some c) : stepE0 G r N sc e = some c ∧ (genE e = true → plainC c = true) := by
  unfold stepE at h
  split at h
  · next c' h1 =>
    split at h
    · cases h
    · next hn =>
      cases h
      refine ⟨h1, fun hg => ?_⟩
      rw [hg] at hn
      simpa using hn
  · cases h
theorem s_c (g : Good G cl r) (C : Cg G cl X) {e : Expr} {c : E} (h : stepE G r X.N X.env.scope e = some c) : PT X e (tTv X.K (evT cl c)) := by
  obtain ⟨h0, hp⟩ := stepE_some h
  have hE := s_e0 g C h0
  clear h
  cases e
  case UnaryOp op a p =>
    cases op
    case Not =>
      unfold stepE0 at h0
      obtain ⟨x, h1, rfl⟩ := Option.map_eq_some_iff.mp h0
      exact (v_notT (g.c X _ x C h1)).to fun r s => by rw [evT]
    all_goals exact pt_gen (hp rfl) hE (fun _ => rfl)
  case BoolOp op es p => exact ((s_bool g C h0).2).pt
  case IfExp a b d p =>
    unfold stepE0 at h0
    obtain ⟨x, y, z, h1, h2, h3, rfl⟩ := three_some h0
    exact ⟨fun pins s σ H Q I ⟨φ, r, S, b, S', hv, hs, e, q⟩ => by simp only [evT] at e; cases e⟩
  case Compare a ops bs p =>
    unfold stepE0 at h0
    split at h0 <;> first | (cases h0; done) | skip
    all_goals first | (rename_i heq; cases heq; done) | skip
    · rename_i heq
      cases heq
      exact (s_cmp1 g C h0).2
    · rename_i heq
      cases heq
      obtain ⟨hs, h⟩ := ifO_some h0
      simp only [Bool.and_eq_true, Bool.not_eq_true'] at hs
      obtain ⟨x, y, z, h1, h2, h3, rfl⟩ := three_some h
      exact (v_chainT C.rm _ _ hs.1 hs.2 (g.e X _ x C h1) (g.e X _ y C h2) (g.e X _ z C h3)).to fun r s => by rw [evT] <;> rfl
  all_goals exact pt_gen (hp rfl) hE (fun _ => rfl)
end
end Wb

/-! W21: lists, walks, targets; all levels. -/
namespace Wb
open PySem PySem.Spec PyProof.Rows L2
variable [PWd]
section
variable {G : Gm} {cl : Nat → List D → Store → Res D} {X : Cx} {r : Rc}
theorem s_comp (g : Good G cl r) (C : Cg G cl X) {elt tg iter : Expr} {ifs : List Expr} {scope : Scope} {p : Pos} {c : Ls} (h : lComp r X.N X.env.scope elt tg iter ifs scope = some c) : PE X (.ListComp elt [⟨tg, iter, ifs, 0⟩] scope p) (tLv X.K c.kd (evL cl c)) := by
  unfold lComp at h
  obtain ⟨hb, h3⟩ := ifO_some h
  clear h
  simp only [Bool.and_eq_true, Bool.not_eq_true'] at hb
  obtain ⟨hblk, hset⟩ := hb
  split at h3
  · next t i cc x ht hi hc hx =>
    obtain ⟨hall, h4⟩ := ifO_some h3
    cases h4
    have hj : ∀ j ∈ t.ids, j ∈ (ownOf X.N scope).map (·.2) := fun j hj => by
      have := List.all_eq_true.mp hall j hj
      exact List.contains_iff_mem.mp this
    have main := pe_lc (pos := p) (te := tEv X.K (evE cl x)) (tt := tTv X.K (evC cl cc)) (g := tGv X.K t.ids (asT cl t)) (wi := tIv X.K (evIt cl i)) C.rm.calm C.nd (g.it X tg iter i C hi) (blkOk_by hblk)
      (fun s H D cc2 fp => g.t (X.blk s H scope (compEnvC scope cc2 D X.env) fp) _ tg t (C.blk ..) (fun _ z => z) ht)
      (fun s H D cc2 fp => g.i (X.blk s H scope (compEnvC scope cc2 D X.env) fp) ifs cc (C.blk ..) hc)
      (fun s H D cc2 fp => g.e (X.blk s H scope (compEnvC scope cc2 D X.env) fp) elt x (C.blk ..) hx)
      (by intro y; cases iter <;> first | rfl | (simp [isSet] at hset))
    exact (main.imp (comp_imp hj)).toL fun r s => by rw [evL] <;> rfl
  · cases h3
theorem s_l (g : Good G cl r) (C : Cg G cl X) {e : Expr} {c : Ls} (h : stepL G r X.N X.env.scope e = some c) : PE X e (tLv X.K c.kd (evL cl c)) := by
  have asOf : ∀ {e : Expr} {c : Ls}, (r.e X.N X.env.scope e).map Ls.of = some c → PE X e (tLv X.K c.kd (evL cl c)) := fun {e c} h => by
    obtain ⟨x, h1, rfl⟩ := Option.map_eq_some_iff.mp h
    exact (v_of (g.e X _ x C h1)).toL fun r s => by rw [evL]
  unfold stepL at h
  split at h
  · exact s_comp g C h
  · obtain ⟨hst, h⟩ := ifO_some h
    obtain ⟨cs, h1, rfl⟩ := Option.map_eq_some_iff.mp h
    exact (v_disp (args_of g C (by simpa using hst) h1)).toL fun r s => by rw [evL]
  · split at h
    · obtain ⟨x, y, h1, h2, rfl⟩ := two_some h
      obtain ⟨h1, k1⟩ := kdO_some h1
      obtain ⟨h2, k2⟩ := kdO_some h2
      exact (v_cat k1 k2 (g.ll X _ x C h1) (g.ll X _ y C h2)).toL fun r s => by rw [evL]
    · exact asOf h
  · split at h
    · obtain ⟨x, y, h1, h2, rfl⟩ := two_some h
      obtain ⟨h1, k1⟩ := kdO_some h1
      exact (v_rep k1 (g.ll X _ x C h1) (g.e X _ y C h2)).toL fun r s => by rw [evL] <;> rfl
    · exact asOf h
  · next f p a pos =>
    unfold lCall at h
    split at h
    · next hf =>
      subst hf
      obtain ⟨hb, h3⟩ := ifO_some h
      clear h
      simp only [Bool.and_eq_true, Bool.not_eq_true'] at hb
      obtain ⟨hg, hm⟩ := gB_of C hb.1
      split at h3
      · next es hes =>
        obtain ⟨q, h2, rfl⟩ := Option.map_eq_some_iff.mp h3
        exact (v_rngL C.rm hg hm hb.2 (prg_of g C hes h2)).toL fun r s => by rw [evL] <;> rfl
      · obtain ⟨_, h4⟩ := ifO_some h3
        obtain ⟨l, h1, rfl⟩ := Option.map_eq_some_iff.mp h4
        exact (v_list C.rm hg hm hb.2 (g.l X _ l C h1)).toL fun r s => by rw [evL]
    · split at h
      · next hf =>
        subst hf
        obtain ⟨hb, h3⟩ := ifO_some h
        clear h
        simp only [Bool.and_eq_true, Bool.not_eq_true'] at hb
        obtain ⟨hg, hm⟩ := gB_of C hb.1
        split at h3
        · next x hx =>
          obtain ⟨l, h1, rfl⟩ := Option.map_eq_some_iff.mp h3
          obtain ⟨h1, k1⟩ := kdO_some h1
          unfold bSet at hx
          split at hx
          · split at hx
            · next hc =>
              cases hx
              obtain ⟨rfl, hgs, hst2⟩ := hc
              obtain ⟨hg2, hm2⟩ := gB_of C hgs
              exact (v_sortedSet C.rm k1 hg hm hg2 hm2 hst2 (g.ll X _ l C h1)).toL fun r s => by rw [evL]
            · cases hx
          · cases hx
        · obtain ⟨l, h1, rfl⟩ := Option.map_eq_some_iff.mp h3
          obtain ⟨h1, k1⟩ := kdO_some h1
          exact (v_sorted C.rm k1 hg hm hb.2 (g.ll X _ l C h1)).toL fun r s => by rw [evL]
      · exact asOf h
  · obtain ⟨x, y, z, h1, h2, h3, rfl⟩ := three_some h
    exact (v_slL (g.e X _ x C h1) (g.o X _ y C h2) (g.o X _ z C h3)).toL fun r s => by rw [evL]
  · exact asOf h
theorem good_step (g : Good G cl r) : Good G cl ⟨stepE G r, stepO r, stepL G r, stepLl r, stepIf r, stepIt G r, stepT r⟩ where
  e := fun X e c C h => s_e0 g C (stepE_some h).1
  c := fun X e c C h => s_c g C h
  w := fun X o es p c C h => (s_bool g C (stepE_some h).1).2
  o := fun X e c C h => by
    have h : stepO r X.N X.env.scope e = some c := h
    unfold stepO at h
    split at h
    · cases h; exact v_onone.to fun r s => by rw [evO]
    · obtain ⟨x, h1, rfl⟩ := Option.map_eq_some_iff.mp h
      exact (v_osome (g.e X _ x C h1)).to fun r s => by rw [evO] <;> rfl
  l := fun X e c C h => s_l g C h
  ll := fun X e c C h => by
    replace h : stepLl r X.N X.env.scope e = some c := h
    unfold stepLl at h
    split at h
    · exact g.l X e c C h
    · split at h
      · next a b hab =>
        unfold addOf at hab
        split at hab
        · cases hab
          obtain ⟨x, y, h1, h2, rfl⟩ := two_some h
          obtain ⟨h1, k1⟩ := kdO_some h1
          obtain ⟨h2, k2⟩ := kdO_some h2
          exact (v_cat k1 k2 (g.ll X _ x C h1) (g.ll X _ y C h2)).toL fun r s => by rw [evL]
        · cases hab
      obtain ⟨x, h1, rfl⟩ := Option.map_eq_some_iff.mp h
      exact (v_ofl (g.e X _ x C h1)).toL fun r s => by rw [evL]
  i := fun X e c C h => by
    have h : stepIf r X.N X.env.scope e = some c := h
    unfold stepIf at h
    split at h
    · cases h
      refine ⟨fun pins s σ H Q I q => ?_⟩
      obtain ⟨φ, rr, S, b, S', hv, hs, e, q⟩ := q
      rw [evC] at e
      cases e
      exact pts_nil.run pins s σ H Q I (q φ H Ex.rfl' hs)
    · obtain ⟨x, h1, rfl⟩ := Option.map_eq_some_iff.mp h
      refine pts_one ((g.c X _ x C h1).to fun r s => by rw [evC])
    · cases h
  it := fun X tg e c C h => by
    have h : stepIt G r X.N X.env.scope tg e = some c := h
    unfold stepIt at h
    obtain ⟨_, h3⟩ := ifO_some h
    clear h
    split at h3
    · next es hes =>
      obtain ⟨q, h2, rfl⟩ := Option.map_eq_some_iff.mp h3
      exact pir_of g C hes h2
    · split at h3
      · split at h3
        · next q hq =>
          obtain ⟨ht, h5⟩ := ifO_some h3
          obtain ⟨x, y, h1, h2, rfl⟩ := two_some h5
          unfold bZip at hq
          split at hq
          · split at hq
            · next hc =>
              cases hq
              obtain ⟨rfl, hg, s1, s2⟩ := hc
              obtain ⟨g1, g2⟩ := gB_of C hg
              cases tg <;> first | (simp [isTup] at ht; done) | skip
              exact (v_itz g1 g2 s1 s2 (g.e X _ x C h1) (g.e X _ y C h2)).to fun r s => by rw [evIt] <;> rfl
            · cases hq
          · cases hq
        · cases h3
      split at h3
      · split at h3
        · next q hq =>
          obtain ⟨ht, h5⟩ := ifO_some h3
          obtain ⟨x, h1, rfl⟩ := Option.map_eq_some_iff.mp h5
          unfold bEnum at hq
          split at hq
          · split at hq
            · next hc =>
              cases hq
              obtain ⟨rfl, hg, s1⟩ := hc
              obtain ⟨g1, g2⟩ := gB_of C hg
              cases tg <;> first | (simp [isTup] at ht; done) | skip
              exact (v_itEnum g1 g2 s1 (g.e X _ x C h1)).to fun r s => by rw [evIt] <;> rfl
            · cases hq
          · cases hq
        · cases h3
      obtain ⟨_, h4⟩ := ifO_some h3
      split at h4
      · obtain ⟨l, hl, rfl⟩ := Option.map_eq_some_iff.mp h4
        obtain ⟨h1, h2⟩ := kdO_some hl
        have k2 : l.kd = 2 := by cases l <;> simp only [Ls.kd] at h2 ⊢ <;> omega
        have hl := g.l X e l C h1
        rw [k2] at hl
        exact (v_itL hl).to fun r s => by rw [evIt]
      · obtain ⟨x, h1, rfl⟩ := Option.map_eq_some_iff.mp h4
        exact (v_it (g.e X _ x C h1)).to fun r s => by rw [evIt] <;> rfl
  t := fun X fb e c C hfb h => by
    have h : stepT r X.N X.env.scope fb e = some c := h
    unfold stepT at h
    split at h
    · obtain ⟨hl, h3⟩ := ifO_some h
      obtain ⟨i, hi, rfl⟩ := Option.map_eq_some_iff.mp h3
      simp only [Bool.or_eq_true, Bool.and_eq_true] at hl
      refine (v_gname C.nd (ixOf_at hi) ?_ ?_).to fun d r s => by rw [asT]
      · rcases hl with z | z
        · exact .inl (isLoc_of z)
        · exact loc_of z.1
      · rcases hl with z | z
        · exact .inr (isLoc_of z)
        · exact .inl (hfb _ z.2)
    · obtain ⟨hst, h3⟩ := ifO_some h
      obtain ⟨cs, h1, rfl⟩ := Option.map_eq_some_iff.mp h3
      have hst := by simpa using hst
      obtain ⟨hl, hp⟩ := tgs_of g C hfb (by simpa using hst) h1
      exact (v_gtup C.rm.calm (by simpa using hst) hl hp).to fun d r s => by cases d <;> simp [asT]
    · obtain ⟨hs, h3⟩ := ifO_some h
      obtain ⟨x, y, h1, h2, rfl⟩ := two_some h3
      exact (v_gsub C.rm (by simpa using hs) (g.e X _ x C h1) (g.e X _ y C h2)).to fun d r s => by rw [asT] <;> rfl
    · cases h
theorem good_all : ∀ n, Good G cl (rc G n)
  | 0 => { e := fun _ _ _ _ h => (nomatch h), c := fun _ _ _ _ h => (nomatch h), w := fun _ _ _ _ _ _ h => (nomatch h), o := fun _ _ _ _ h => (nomatch h), l := fun _ _ _ _ h => (nomatch h), ll := fun _ _ _ _ h => (nomatch h), i := fun _ _ _ _ h => (nomatch h), it := fun _ _ _ _ _ h => (nomatch h), t := fun _ _ _ _ _ _ h => (nomatch h) }
  | n + 1 => good_step (good_all n)
end
end Wb

/-! W22: compiled statements are read as the code says. -/
namespace Wb
open PySem PySem.Spec PyProof.Rows L2
variable [PWd]
section
variable {G : Gm} {cl : Nat → List D → Store → Res D} {X : Cx} {r : Rc}
theorem newL_imp {K : PySem.W.Frag} {el : Env → Store → Res (List D)} : ∀ σ H Q, tEv K (fun r s => (el r s).bind fun ds s1 => alloc (.lst ds) s1) σ H Q → tLv K 2 el σ H Q := fun σ H Q ⟨φ, r, S, d, S', hv, hs, e, q⟩ => by
  obtain ⟨ds, S1, e1, e⟩ := bind_ok e
  unfold alloc at e
  cases e
  refine ⟨φ, r, S, ds, S1, hv, hs, e1, fun φ1 H1 a vs x1 hs1 r1 lk => ?_⟩
  obtain ⟨l1, l2, l3⟩ := lk
  refine q (φ1 ++ [a]) (.ref a) H1 (x1.reg l3) (hs1.reg l2 ⟨vs, l1, r1⟩) ?_
  simp only [Rep]
  exact ⟨a, rfl, by rw [← hs1.len]; simp⟩
theorem s_asgC (g : Good G cl r) (C : Cg G cl X) (hk : X.env.scope.kind = .function) (hf : ∀ x, X.fn x = true) {F : Nat} {y : Str} {py p pos : Pos} {elt tg iter : Expr} {ifs : List Expr} {scope : Scope} {i : Nat} {l : Ls}
    (hy : locB X.env.scope y = true) (hi : ixOf X.N y = some i) (h : lComp r X.N X.env.scope elt tg iter ifs scope = some l) : PS X (.Assign [.Name y py] (.ListComp elt [⟨tg, iter, ifs, 0⟩] scope p) pos) (tSv X.K (evS cl F (.asg (.name i) (.newL l)))) := by
  have nd := ixOf_at hi
  have k2 : l.kd = 2 := by
    unfold lComp at h
    obtain ⟨_, h3⟩ := ifO_some h
    split at h3
    · obtain ⟨_, h4⟩ := ifO_some h3
      cases h4; rfl
    · cases h3
  cases hsw : (X.env.blockKind == .function && X.env.kindOf y == some .local && py.line == (Expr.ListComp elt [⟨tg, iter, ifs, 0⟩] scope p).pos.line && !(scope.names.any fun (n, k) => n == y && (k == .local || k == .cell)))
  · have sw : swapsWith (.ListComp elt [⟨tg, iter, ifs, 0⟩] scope p) (some (.Name y py)) pos.line X.env = pure false := by
      show (pure _ : Sem Bool) = pure false
      rw [hsw]
    have hc := s_comp g C (p := p) h
    rw [k2] at hc
    exact (v_asg (tg := .Name y py) rfl sw (by rfl) (v_newL hc) (v_gname C.nd nd (loc_of hy) (.inl (hf y)))).to fun r s => by rw [evS, evE]; simp only [asT]
  · have sw : swapsWith (.ListComp elt [⟨tg, iter, ifs, 0⟩] scope p) (some (.Name y py)) pos.line X.env = pure true := by
      show (pure _ : Sem Bool) = pure true
      rw [hsw]
    have hyl : X.env.scope.names.lookup y = some .local := by
      simp only [Bool.and_eq_true] at hsw
      exact eq_of_beq hsw.1.1.2
    unfold lComp at h
    obtain ⟨hb, h3⟩ := ifO_some h
    clear h
    simp only [Bool.and_eq_true, Bool.not_eq_true'] at hb
    obtain ⟨hblk, hset⟩ := hb
    split at h3
    · next t it cc x ht hit hc hx =>
      obtain ⟨hall, h4⟩ := ifO_some h3
      cases h4
      have hj : ∀ j ∈ t.ids, j ∈ (ownOf X.N scope).map (·.2) := fun j hj => List.contains_iff_mem.mp (List.all_eq_true.mp hall j hj)
      have main := ps_setLc (pos := p) (spos := pos) (py := py) (te := tEv X.K (evE cl x)) (tt := tTv X.K (evC cl cc)) (g := tGv X.K t.ids (asT cl t)) (wi := tIv X.K (evIt cl it)) C.rm.calm C.nd nd hyl sw (g.it X tg iter it C hit) (blkOk_by hblk)
        (fun s H D cc2 fp => g.t (X.blk s H scope (compEnvC scope cc2 D X.env) fp) _ tg t (C.blk ..) (fun _ z => z) ht)
        (fun s H D cc2 fp => g.i (X.blk s H scope (compEnvC scope cc2 D X.env) fp) ifs cc (C.blk ..) hc)
        (fun s H D cc2 fp => g.e (X.blk s H scope (compEnvC scope cc2 D X.env) fp) elt x (C.blk ..) hx)
        (by intro y; cases iter <;> first | rfl | (simp [isSet] at hset))
      refine (main.imp (asg_imp (js := [i]) (ga := fun d r s => .ok (r.set i (some d)) s) (fun σ H Q q => comp_imp hj σ H Q (newL_imp σ H Q q)) fun v σ H Q ⟨φ, r, S, d, r', S', hv, hs, hr, e, q⟩ => ?_)).to fun r s => by rw [evS, evE, evL]; simp only [asT] <;> rfl
      cases e
      exact q φ _ H Ex.rfl' hs (hv.set i hr) ⟨by simp, fun j hj => by
        rw [List.getElem?_set_ne]
        exact fun e => hj (by rw [e]; simp)⟩
    · cases h3
theorem par_sw (hk : X.env.scope.kind = .function) {x y : Str} {px py pt pt2 : Pos} {k1 k2 : Nat} {a b : Expr} (hx : X.env.scope.names.lookup x = some .local) (hy : X.env.scope.names.lookup y = some .local) (hne : x ≠ y) (hl : px.line = py.line)
    (hf : (foldedForSure 8 a && foldedForSure 8 b) = false) (hc : (constantsAlone 8 a && constantsAlone 8 b) = false) (ha : isStar a = false) (hb : isStar b = false) :
    swappedStores [.Tuple [.Name x px, .Name y py] k1 pt] (.Tuple [a, b] k2 pt2) X.env = pure (some [x, y]) := by
  have bk : X.env.blockKind = .function := by unfold PySem.Env.blockKind; rw [hk]; rfl
  unfold swappedStores
  have kx : X.env.kindOf x = some .local := hx
  have ky : X.env.kindOf y = some .local := hy
  simp [bk, kx, ky, hl, hf, hc, hne, Ne.symm hne, Expr.pos]
  rw [if_neg, if_pos]
  · have : (y == x) = false := beq_eq_false_iff_ne.mpr (Ne.symm hne)
    simp [List.eraseDups_cons, List.filter_cons, this]
  · rintro (h | h)
    · cases a <;> first | (cases h; done) | (simp [isStar] at ha)
    · cases b <;> first | (cases h; done) | (simp [isStar] at hb)
theorem parOf_some {N : List Str} {sc : Scope} {t e a b : Expr} {i j : Nat} (h : parOf N sc t e = some (i, j, a, b)) : ∃ x px y py k1 pt k2 pt2, t = .Tuple [.Name x px, .Name y py] k1 pt ∧ e = .Tuple [a, b] k2 pt2 ∧ ixOf N x = some i ∧ ixOf N y = some j ∧ isLoc sc x = true ∧ isLoc sc y = true ∧ x ≠ y ∧ px.line = py.line ∧
    (foldedForSure 8 a && foldedForSure 8 b) = false ∧ (constantsAlone 8 a && constantsAlone 8 b) = false ∧ isStar a = false ∧ isStar b = false := by
  unfold parOf at h
  split at h
  · next x px y py k1 pt a' b' k2 pt2 =>
    split at h
    · next hc =>
      simp only [Bool.and_eq_true, Bool.not_eq_true', decide_eq_true_eq] at hc
      obtain ⟨⟨⟨⟨⟨⟨⟨c1, c2⟩, c3⟩, c4⟩, c5⟩, c6⟩, c7⟩, c8⟩ := hc
      split at h
      · next i' j' h1 h2 =>
        cases h
        exact ⟨x, px, y, py, k1, pt, k2, pt2, rfl, rfl, h1, h2, c1, c2, c3, c4, c5, c6, c7, c8⟩
      · cases h
    · cases h
  · cases h
theorem par_sw3 (hk : X.env.scope.kind = .function) {x y z : Str} {px py pz pt pt2 : Pos} {k1 k2 : Nat} {a b c : Expr} (hx : X.env.scope.names.lookup x = some .local) (hy : X.env.scope.names.lookup y = some .local) (hz : X.env.scope.names.lookup z = some .local) (hxy : x ≠ y) (hxz : x ≠ z) (hyz : y ≠ z) (hl : px.line = py.line) (hl2 : px.line = pz.line)
    (hf : (foldedForSure 8 a && foldedForSure 8 b && foldedForSure 8 c) = false) (hc : (constantsAlone 8 a && constantsAlone 8 b && constantsAlone 8 c) = false) (ha : isStar a = false) (hb : isStar b = false) (hc2 : isStar c = false) :
    swappedStores [.Tuple [.Name x px, .Name y py, .Name z pz] k1 pt] (.Tuple [a, b, c] k2 pt2) X.env = pure (some [x, y, z]) := by
  have bk : X.env.blockKind = .function := by unfold PySem.Env.blockKind; rw [hk]; rfl
  unfold swappedStores
  have kx : X.env.kindOf x = some .local := hx
  have ky : X.env.kindOf y = some .local := hy
  have kz : X.env.kindOf z = some .local := hz
  have hl3 : py.line = pz.line := hl.symm.trans hl2
  rw [Bool.and_assoc] at hf hc
  have n1 : (y == x) = false := beq_eq_false_iff_ne.mpr (Ne.symm hxy)
  have n2 : (z == x) = false := beq_eq_false_iff_ne.mpr (Ne.symm hxz)
  have n3 : (z == y) = false := beq_eq_false_iff_ne.mpr (Ne.symm hyz)
  simp [bk, kx, ky, kz, hl, hl2, hl3, hf, hc, Expr.pos]
  rw [if_neg, if_pos]
  · simp [List.eraseDups_cons, List.filter_cons, n1, n2, n3]
  · rintro (h | h | h)
    · cases a <;> first | (cases h; done) | (simp [isStar] at ha)
    · cases b <;> first | (cases h; done) | (simp [isStar] at hb)
    · cases c <;> first | (cases h; done) | (simp [isStar] at hc2)
theorem parOf3_some {N : List Str} {sc : Scope} {t e a b c : Expr} {i j l : Nat} (h : parOf3 N sc t e = some ((i, j, l), a, b, c)) : ∃ x px y py z pz k1 pt k2 pt2, t = .Tuple [.Name x px, .Name y py, .Name z pz] k1 pt ∧ e = .Tuple [a, b, c] k2 pt2 ∧ (ixOf N x = some i ∧ ixOf N y = some j ∧ ixOf N z = some l) ∧ (isLoc sc x = true ∧ isLoc sc y = true ∧ isLoc sc z = true) ∧ (x ≠ y ∧ x ≠ z ∧ y ≠ z) ∧ (px.line = py.line ∧ px.line = pz.line) ∧
    (foldedForSure 8 a && foldedForSure 8 b && foldedForSure 8 c) = false ∧ (constantsAlone 8 a && constantsAlone 8 b && constantsAlone 8 c) = false ∧ isStar a = false ∧ isStar b = false ∧ isStar c = false := by
  unfold parOf3 at h
  split at h
  · next x px y py z pz k1 pt a' b' c' k2 pt2 =>
    split at h
    · next hc =>
      simp only [Bool.and_eq_true, Bool.not_eq_true', decide_eq_true_eq] at hc
      obtain ⟨⟨⟨⟨⟨⟨⟨⟨⟨⟨⟨⟨c1, c2⟩, c3⟩, c4⟩, c5⟩, c6⟩, c7⟩, c8⟩, c9⟩, c10⟩, c11⟩, c12⟩, c13⟩ := hc
      split at h
      · next i' j' l' h1 h2 h3 =>
        cases h
        exact ⟨x, px, y, py, z, pz, k1, pt, k2, pt2, rfl, rfl, ⟨h1, h2, h3⟩, ⟨c1, c2, c3⟩, ⟨c4, c5, c6⟩, ⟨c7, c8⟩, c9, c10, c11, c12, c13⟩
      · cases h
    · cases h
  · cases h
theorem no_swap {t e : Expr} (h : noSwap X.env.scope t e = true) (ht : isTgt t = true) : swappedStores [t] e X.env = pure none := by
  cases t <;> first | (simp [isTgt] at ht; done) | skip
  case Subscript => rfl
  case Name => rfl
  case Tuple ts k1 p1 =>
    cases e <;> first | rfl | skip
    rename_i vs k2 p2
    simp only [noSwap, List.any_eq_true] at h
    obtain ⟨x, hx, h⟩ := h
    unfold swappedStores
    simp only [pure_bind]
    split
    · rfl
    split
    · rfl
    rw [if_pos]
    simp only [bne_iff_ne, ne_eq, Bool.or_eq_true]
    left
    intro he
    have hall := (List.filterMap_length_eq_length (l := ts)).mp he
    have h1 := hall x hx
    cases x with
    | Name id pos =>
      have hk : isLoc X.env.scope id = false := by simpa using h
      unfold isLoc at hk
      have h2 : ¬ (X.env.kindOf id = some .local) := by
        intro h2
        have h2 : X.env.scope.names.lookup id = some .local := h2
        rw [h2] at hk
        cases hk
      simp [h2] at h1
    | _ => simp at h1
theorem ix_ne {N : List Str} {x y : Str} {i j : Nat} (h1 : ixOf N x = some i) (h2 : ixOf N y = some j) (h : x ≠ y) : i ≠ j := fun e => by
  have q := ixOf_at h1
  rw [e, ixOf_at h2] at q
  exact h (Option.some.inj q).symm
theorem s_asg (g : Good G cl r) (C : Cg G cl X) (hk : X.env.scope.kind = .function) (hf : ∀ x, X.fn x = true) {F : Nat} {t e : Expr} {pos : Pos} {c : S} (h : sAsg r X.N X.env.scope t e = some c) : PS X (.Assign [t] e pos) (tSv X.K (evS cl F c)) := by
  unfold sAsg at h
  split at h
  · obtain ⟨hy, h3⟩ := ifO_some h
    obtain ⟨i, l, h1, h2, rfl⟩ := two_some h3
    exact s_asgC g C hk hf hy h1 h2
  · split at h
    · next i j a b hp =>
      obtain ⟨u, w, h1, h2, rfl⟩ := two_some h
      obtain ⟨x, px, y, py, k1, pt, k2, pt2, rfl, rfl, i1, i2, l1, l2, hne, hl, f1, f2, st1, st2⟩ := parOf_some hp
      have hx := isLoc_of l1
      have hy := isLoc_of l2
      refine (v_par C.rm.calm C.nd (ixOf_at i1) (ixOf_at i2) (fun e => hne ?_) hx hy st1 st2 (g.e X a u C h1) (g.e X b w C h2) (par_sw hk hx hy hne hl f1 f2 st1 st2)).to fun r s => by rw [evS]
      have q := ixOf_at i1
      rw [e, ixOf_at i2] at q
      exact (Option.some.inj q).symm
    · split at h
      · next i j l a b c hp =>
        obtain ⟨u, v, w, h1, h2, h3, rfl⟩ := three_some h
        obtain ⟨x, px, y, py, z, pz, k1, pt, k2, pt2, rfl, rfl, ⟨i1, i2, i3⟩, ⟨l1, l2, l3⟩, ⟨n1, n2, n3⟩, ⟨p1, p2⟩, f1, f2, st1, st2, st3⟩ := parOf3_some hp
        have hx := isLoc_of l1
        have hy := isLoc_of l2
        have hz := isLoc_of l3
        exact (v_par3 C.rm.calm C.nd (ixOf_at i1) (ixOf_at i2) (ixOf_at i3) (ix_ne i1 i2 n1) (ix_ne i1 i3 n2) (ix_ne i2 i3 n3) hx hy hz st1 st2 st3 (g.e X a u C h1) (g.e X b v C h2) (g.e X c w C h3) (par_sw3 hk hx hy hz n1 n2 n3 p1 p2 f1 f2 st1 st2 st3)).to fun r s => by rw [evS]
      obtain ⟨hc, h3⟩ := ifO_some h
      obtain ⟨x, y, h1, h2, rfl⟩ := two_some h3
      simp only [Bool.and_eq_true, Bool.not_eq_true'] at hc
      obtain ⟨⟨ht, htt⟩, hcomp⟩ := hc
      refine (v_asg ?_ ?_ ?_ (g.e X e x C h1) (g.t X _ t y C (fun z _ => hf z) h2)).to fun r s => by rw [evS]
      · cases t <;> first | rfl | (simp [isTgt] at ht)
      · cases e <;> first | rfl | (simp [isComp] at hcomp)
      · exact no_swap htt ht
mutual
theorem s_s (g : Good G cl r) (C : Cg G cl X) (hk : X.env.scope.kind = .function) (hf : ∀ x, X.fn x = true) (hp : PassesOwn (model X.prog X.w) X.A X.env X.xe) {F : Nat} : ∀ (n : Nat) (st : Stmt) (c : S), cS r X.N X.env.scope n st = some c → PS X st (tSv X.K (evS cl F c))
  | 0, st, c, h => by cases h
  | n + 1, st, c, h => by
    unfold cS at h
    split at h
    · exact s_asg g C hk hf h
    · cases h; exact v_doc.to fun r s => by rw [evS]
    · obtain ⟨x, h1, rfl⟩ := Option.map_eq_some_iff.mp h
      exact (v_expr (by rfl) (g.e X _ x C h1)).to fun r s => by rw [evS]
    · obtain ⟨x, h1, rfl⟩ := Option.map_eq_some_iff.mp h
      exact (v_ret (g.e X _ x C h1)).to fun r s => by rw [evS]
    · cases h; exact v_retN.to fun r s => by rw [evS]
    · obtain ⟨x, y, z, h1, h2, h3, rfl⟩ := three_some h
      exact (v_if (g.c X _ x C h1) (s_ss g C hk hf hp n _ y h2) (s_ss g C hk hf hp n _ z h3)).to fun r s => by rw [evS]
    · obtain ⟨hset, h0⟩ := ifO_some h
      obtain ⟨x, y, z, h1, h2, h3, rfl⟩ := three_some h0
      exact (v_for hp C.rm.calm (by simpa using hset) (g.it X _ _ y C h2) (g.t X _ _ x C (fun z _ => hf z) h1) (s_ss g C hk hf hp n _ z h3)).to fun r s => by rw [evS]
    · obtain ⟨x, y, h1, h2, rfl⟩ := two_some h
      exact (v_whl (F := F) hp (g.c X _ x C h1) (s_ss g C hk hf hp n _ y h2)).to fun r s => by rw [evS]
    · cases h; exact v_pass.to fun r s => by rw [evS]
    · cases h; exact v_brk.to fun r s => by rw [evS]
    · cases h; exact v_cnt.to fun r s => by rw [evS]
    · cases h; exact v_raise.to fun r s => by rw [evS]
    · cases h
theorem s_ss (g : Good G cl r) (C : Cg G cl X) (hk : X.env.scope.kind = .function) (hf : ∀ x, X.fn x = true) (hp : PassesOwn (model X.prog X.w) X.A X.env X.xe) {F : Nat} : ∀ (n : Nat) (sts : List Stmt) (c : List S), cSs r X.N X.env.scope n sts = some c → PSs X sts (tSv X.K (evSs cl F c))
  | 0, st, c, h => by cases h
  | n + 1, sts, c, h => by
    unfold cSs at h
    split at h
    · cases h; exact v_nil.to fun r s => by rw [evSs]
    · obtain ⟨x, y, h1, h2, rfl⟩ := two_some h
      exact (v_seq (s_s g C hk hf hp n _ x h1) (s_ss g C hk hf hp n _ y h2)).to fun r s => by rw [evSs] <;> rfl
end
end
end Wb

/-! W23: the defs of a module; the law's call. -/
namespace Wb
open PySem PySem.Spec PyProof.Rows L2
variable [PWd]
/-- a def with its places and its code -/
structure Df where
  d : He.DefD
  N : List Str
  ps : List Str
  code : List S
def Df.fn (x : Df) : Fn := ⟨x.ps.length, x.N.length, x.code⟩
structure Df.Ok (G : Gm) (x : Df) : Prop where
  sc : FnScope x.N x.ps x.d.scope
  co : cSs (rc G 60) x.N x.d.scope 60 x.d.body = some x.code
  bd : ∀ (kV doc pm : Value) (an : Option Addr) (cdv ct : Value) (us : List Value), us.length = x.ps.length → bindArgs (PySem.W.fnOf x.d.name x.d.qual x.d.params x.d.body x.d.scope .none kV doc pm an cdv ct) ⟨us, []⟩ = pure (x.ps.zip us)
section
variable {P : Program} {w : World} {K : PySem.W.Frag} {mg : Str → Option Value} {base : Heap} {G : Gm} {dfs : List Df} {F : Nat}
theorem all_fng (eP : P = PWd.P) (eW : w = PWd.w) (hG : G.fns = dfs.map fun x : Df => x.d.at_.1) (hfun : ∀ (i : Nat) (x : Df), dfs[i]? = some x → ∃ f fd, mg x.d.at_.1 = some (.ref f) ∧ FunD K x.d.name x.d.qual x.d.params x.d.body x.d.scope [] [] f fd) (hok : ∀ (i : Nat) (x : Df), dfs[i]? = some x → x.Ok G)
    (hblt : ∀ x, G.blt.contains x = true → mg x = none) (hcons : ∀ x d, G.cons.lookup x = some d → ∃ v u, mg x = some u ∧ RelV v u ∧ ∀ φ H, Rep K φ H d v) :
    ∀ (k i : Nat) (x : Df) (f : Addr) (fd : FuncData), dfs[i]? = some x → mg x.d.at_.1 = some (.ref f) → FunD K x.d.name x.d.qual x.d.params x.d.body x.d.scope [] [] f fd → FnG P w K mg base k f fd x.ps (call (dfs.map Df.fn) F k i)
  | 0, i, x, f, fd, _, _, _ => ⟨fun A outer s H args us vs φ ds S d S' Q _ _ _ _ _ _ he _ _ => by cases he⟩
  | k + 1, i, x, f, fd, hx, hm, hF => by
    obtain ⟨oc, od, dV, kV, doc, pm, an, cdv, ct, osl, rfl, lk, hcd, _, _⟩ := hF.ex
    have ok := hok i x hx
    refine fng_of (eb := evSs (call (dfs.map Df.fn) F k) F x.code) lk hcd ok.sc (fun A outer s H room => PSs.nox ?_) fun ds S d S' hl he => ?_
    · have C : Cg G (call (dfs.map Df.fn) F k) (cxOf CX0 P w K mg base x.N x.d.qual x.d.scope f cdv A outer s H E0).nox := by
        refine ⟨⟨rfl, ?_, room.gd, eP, eW⟩, ok.sc.nd, hblt, fun j y hj => ?_, hcons⟩
        · have := room.rm.un
          show (A.deeper _).units + 150 < cLine
          omega
        · rw [hG, List.getElem?_map] at hj
          obtain ⟨z, hz, rfl⟩ := Option.map_eq_some_iff.mp hj
          obtain ⟨g, gd, g1, g2⟩ := hfun j z hz
          refine ⟨k, g, gd, z.ps, g1, g2.kp, g2.bindsN (hok j z hz).bd, room, all_fng eP eW hG hfun hok hblt hcons k j z g gd hz g1 g2, fun ds S d S' he => ?_⟩
          cases k with
          | zero => cases he
          | succ k =>
            unfold call at he
            rw [List.getElem?_map, hz] at he
            simp only [Option.map_some] at he
            split at he
            · assumption
            · cases he
      exact s_ss (good_all 60) C ok.sc.kind (fun _ => rfl) PassesOwn.never 60 _ _ ok.co
    · unfold call at he
      rw [List.getElem?_map, hx] at he
      simp only [Option.map_some] at he
      split at he
      · next hn =>
        obtain ⟨o, S1, e1, e2⟩ := bind_ok he
        refine ⟨o, S1, ?_, ?_⟩
        · have : x.fn.np = ds.length := hn.symm
          rw [show x.N.length - ds.length = x.fn.nn - x.fn.np by rw [this]; rfl]
          exact e1
        · cases o with
          | rt d0 => exact .inl ⟨d0, rfl, e2⟩
          | nx r => exact .inr ⟨r, rfl, e2⟩
          | bk r => cases e2
          | ct r => cases e2
      · cases he
end
end Wb

/-! W24: the law's call, the law's end. -/
namespace Wb
open PySem PySem.Spec PyProof.Rows L2
section
variable {P : Program} {w : World} {K : PySem.W.Frag} {mg mb : Str → Option Value}
/-- the promise of the law's def, over a base -/
def LawOk (P : Program) (w : World) (K : PySem.W.Frag) (mg : Str → Option Value) (k : Nat) (fa : Addr) (fd : FuncData) (x : Str) (ns : List Int) : Prop :=
  ∀ base : Heap, K.In base → base.Ns mainGlobals mg → ∃ (ev : List D → Store → Res D) (S : Store), @FnG ⟨P, w⟩ P w K mg base k fa fd [x] ev ∧ ev [.fix (ns.map .int)] [] = .ok (.bl true) S
theorem fix_of {H : Hp} {a : Addr} {xs : List V} (only : Only H) (h : SqL K H a xs) : FixL K H a xs := by
  rcases h with (h | h) | h
  · rcases only a with z | ⟨o, ys, z⟩
    · rw [z] at h; cases h
    · rw [z] at h; cases h
  · exact .inl h
  · exact .inr h
theorem law_callG {k : Nat} {fa a : Addr} {fd : FuncData} {x : Str} {st : Shared} {vs : List Value} {ns : List Int} (inH : K.In st.heap) (glob : st.heap.Ns mainGlobals mg) (bns : st.heap.Ns builtinsNs mb) (boot : ∀ y : Str, y ≠ "__name__" → mb y = bootBuiltins y)
    (nol : st.heap.NoLimit) (gens : st.gens = #[]) (scr : st.heap.get? a = some { cls := .type "list", data := .seq vs.toArray }) (nums : IntsAre vs ns) (few : ns.length ≤ sizeLine) (room : RoomG k callerA) (F : LawOk P w K mg k fa fd x ns)
    (bnd : ∀ (s : Shared) (u : Value), BindsTo s fd ⟨[u], []⟩ [(x, u)]) :
    codeAny (model P w) callerA (.call (.ref fa) ⟨[.ref a], []⟩) (fun r s' => r = .ok (.ret (.bool true)) ∧ OldK st.heap s'.heap ∧ s'.os = st.os ∧ AllBare s'.gens) st := by
  letI : PWd := ⟨P, w⟩
  have rel := vals_ints nums
  have nlen := nums.length
  have go : ∀ H : Hp, Only H → SqL K H a (ns.map V.int) → HOk P w H st.heap → (∀ b, H b ≠ none → b = a) → (H a ≠ none → K.lookup a = none) →
      codeAny (model P w) callerA (.call (.ref fa) ⟨[.ref a], []⟩) (fun r s' => r = .ok (.ret (.bool true)) ∧ OldK st.heap s'.heap ∧ s'.os = st.os ∧ AllBare s'.gens) st := by
    intro H only sq hok one frag
    have eqA : ∀ {b : Addr} {u : HO}, H b = some u → b = a := fun {b u} e => one b (by rw [e]; simp)
    have hide : ∀ {b : Addr} {o : Obj}, st.heap.get? b = some o → H b = none → (hidT st.heap H).get? b = some o := fun e n => hidT_get e n
    have dictFree : ∀ {b : Addr} {o : Obj} {es : Array DictEntry} {ep : Nat}, st.heap.get? b = some o → o.data = .dict es ep → H b = none := by
      intro b o es ep e d
      cases q : H b with
      | none => rfl
      | some u =>
        have := eqA q
        subst this
        rw [scr] at e
        cases e
        have z : Data.seq vs.toArray _ = Data.dict es ep := d
        cases z
    have nsH : ∀ {b : Addr} {m : Str → Option Value}, st.heap.Ns b m → (hidT st.heap H).Ns b m := fun {b m} ⟨o, es, ep, e, d, z⟩ => ⟨o, es, ep, hide e (dictFree e d), d, z⟩
    have kin : K.In (hidT st.heap H) := by
      intro b o e
      refine hide (inH b o e) ?_
      cases q : H b with
      | none => rfl
      | some u =>
        have := eqA q
        subst this
        rw [frag (by rw [q]; simp)] at e
        cases e
    have modl : Mod K mg (hidT st.heap H) := ⟨kin, nsH glob, ⟨mb, nsH bns, boot⟩, let ⟨mc, z1, z2⟩ := nol; ⟨mc, nsH z1, z2⟩⟩
    have e0 : Env0 P w K mg (hidT st.heap H) callerA [] st H := ⟨rfl, modl, fun b o e => of_hidT e, Nat.le_of_eq (hidT_size _ _), trivial, fun b hb => absurd (show b ∈ ([] : List Addr) from hb) (by simp), hok, .of_eq gens⟩
    obtain ⟨ev, S, fg, he⟩ := F _ kin (nsH glob)
    have hs0 : HS K [] H [] := ⟨rfl, List.nodup_nil, fun n o a h => by simp at h⟩
    have rr : Reps K [] H [.fix (ns.map .int)] [.ref a] := by
      refine Reps.one ?_
      simp only [Rep]
      exact ⟨a, _, rfl, fix_of only sq, reps_ints ns⟩
    have run := fg.run callerA [] st H ⟨[.ref a], []⟩ [.ref a] [.ref a] [] _ [] _ S (fun v _ => v = .bl true) room e0 (bnd st (.ref a)) (.cons rfl .nil) hs0 rr he rfl (fun φ' v H' _ _ h => by simpa only [Rep] using h)
    refine codeAny_mono run fun res s' h => ?_
    match res, h with
    | .error _, h => exact h.elim
    | .ok .next, h => exact h.elim
    | .ok .brk, h => exact h.elim
    | .ok .cont, h => exact h.elim
    | .ok (.ret u), ⟨v, H', os, bare, un, hok', r', q⟩ =>
      have q : v = .bl true := q
      subst q
      have r' : u = Value.bool true := r'
      subst r'
      refine ⟨rfl, OldK.of_keep fun b o e => ?_, os, bare⟩
      cases q : H b with
      | none => exact un.keep b o e q (fun z => absurd (show b ∈ ([] : List Addr) from z) (by simp)) (by simp)
      | some u =>
        rcases only b with z | ⟨ob, xs, z⟩
        · rw [q] at z
          cases z
        · obtain ⟨e1, _⟩ := hok b _ z
          obtain ⟨e2, _⟩ := hok' b _ (un.frzs b ob _ z)
          rw [e] at e1
          cases e1
          exact e2
  cases hk : K.lookup a with
  | some o =>
    have e := inH a o hk
    rw [scr] at e
    cases e
    exact go (fun _ => none) (fun _ => Or.inl rfl) (Or.inr ⟨_, vs.toArray, _, hk, rfl, rfl, rfl, by rw [List.size_toArray, nlen]; exact few, by simpa using rel⟩) (fun b u z => nomatch z) (fun b z => absurd rfl z) (fun z => absurd rfl z)
  | none =>
    let Hs : Hp := fun b => if b = a then some (.frz { cls := .type "list", data := .seq vs.toArray } (.lst (ns.map V.int))) else none
    have at_ : ∀ b u, Hs b = some u → b = a ∧ u = .frz { cls := .type "list", data := .seq vs.toArray } (.lst (ns.map V.int)) := fun b u z => by
      by_cases hb : b = a
      · have z2 : Hs b = _ := if_pos hb
        rw [z2] at z
        cases z
        exact ⟨hb, rfl⟩
      · have z2 : Hs b = none := if_neg hb
        rw [z2] at z
        cases z
    refine go Hs (fun b => ?_) (Or.inl (Or.inr ⟨{ cls := .type "list", data := .seq vs.toArray }, if_pos rfl⟩)) (fun b u z => ?_) (fun b z => ?_) fun _ => hk
    · cases q : Hs b with
      | none => exact Or.inl rfl
      | some u =>
        obtain ⟨rfl, rfl⟩ := at_ b u q
        exact Or.inr ⟨_, _, rfl⟩
    · obtain ⟨rfl, rfl⟩ := at_ b u z
      exact ⟨scr, by rw [List.length_map]; exact few, vs, _, rel, scr⟩
    · cases q : Hs b with
      | none => exact absurd q z
      | some u => exact (at_ b u q).1
end
/-- the law's end over a head by facts -/
theorem walk_ofG {l : PySem.W.OpenLaw} {n k : Nat} {q : Program} {loose : List Str} {XP : (Str → Option Value) → Heap → Prop} {YP : World → Heap → Prop} {d : DefRec} {x : Str} (most : l.most = some n) (le : n ≤ sizeLine) (dfl : d.params.defaults = []) (room : RoomG k callerA)
    (F : ∀ (w : World) (mg : Str → Option Value) (fa : Addr) (h : Heap), YP w h → h.Ns mainGlobals mg → mg d.name = some (.ref fa) →
      ∃ (K : PySem.W.Frag) (fd : FuncData), K.In h ∧ (∀ (s : Shared) (u : Value), BindsTo s fd ⟨[u], []⟩ [(x, u)]) ∧ ∀ ns : List Int, ns.length ≤ n → LawOk l.prog w K mg k fa fd x ns) :
    PySem.W.WalkO q loose XP YP l.row.toRowW d [] (fun f vs => PySem.call f vs) := by
  refine Att.attach_call most dfl fun w s₀ st mg mb fa o pm cd doc a vs ns G Y _ _ _ named scr nums short gens => ?_
  obtain ⟨K, fd, inH, bnd, ok⟩ := F w mg fa _ Y G.T.g named
  exact law_callG inH G.T.g G.T.b G.T.builtins G.T.nolimit gens scr nums (Nat.le_trans short le) room (ok ns short) bnd
end Wb

/-! W25: a law's end from its plain law. -/
namespace Wb
open PySem PySem.Spec PyProof.Rows L2
/-- a plain def of the module -/
structure Df.Plain (x : Df) : Prop where
  at_ : x.d.at_.2 = none
  dfl : x.d.dfl = []
  kwd : x.d.kwd = []
theorem law_of {P : Program} {w : World} {K : PySem.W.Frag} {mg : Str → Option Value} {h : Heap} {G : Gm} {dfs : List Df} {F k li n : Nat} {xl : Df} {fa : List He.Fa} {fn : List He.DefD} {script : Str} {f : Addr} (inH : K.In h) (glob : h.Ns mainGlobals mg) (c : He.SaysD fa fn K)
    (hfn : fn = dfs.map (·.d)) {cs : List (Str × Int)} (hfa : fa = (dfs.map fun x => He.Fa.glo x.d.at_.1) ++ G.blt.map He.Fa.free ++ cs.map fun p => He.Fa.int p.1 p.2) (hG : G.fns = dfs.map fun x : Df => x.d.at_.1) (hc : G.cons = cs.map fun p => (p.1, D.int p.2)) (pl : ∀ x ∈ dfs, x.Plain) (ok : ∀ x ∈ dfs, x.Ok G)
    (hl : dfs[li]? = some xl) (hps : xl.ps = [script]) (hmg : mg xl.d.at_.1 = some (.ref f)) (plain : ∀ ns : List Int, ns.length ≤ n → ∃ S, call (dfs.map Df.fn) F k li [.fix (ns.map .int)] [] = .ok (.bl true) S) :
    ∃ fd : FuncData, (∀ (s : Shared) (v : Value), BindsTo s fd ⟨[v], []⟩ [(script, v)]) ∧ ∀ ns : List Int, ns.length ≤ n → LawOk P w K mg k f fd script ns := by
  letI : PWd := ⟨P, w⟩
  have hfun : ∀ (i : Nat) (x : Df), dfs[i]? = some x → ∃ f fd, mg x.d.at_.1 = some (.ref f) ∧ FunD K x.d.name x.d.qual x.d.params x.d.body x.d.scope [] [] f fd := by
    intro i x hx
    have p := pl x (List.mem_of_getElem? hx)
    obtain ⟨fd, hF⟩ := c.def_ i (d := x.d) (by rw [hfn, List.getElem?_map, hx]; rfl)
    have e1 : x.d.dvs K = [] := by unfold He.DefD.dvs; rw [p.dfl]; rfl
    have e2 : x.d.kws K = [] := by unfold He.DefD.kws; rw [p.kwd]; rfl
    have e3 : He.fAd K x.d.at_ = He.ga K x.d.at_.1 := by
      unfold He.fAd
      rw [p.at_]
    rw [e1, e2, e3] at hF
    have fact := c.fact i (f := .glo x.d.at_.1) (by
      rw [hfa, List.append_assoc, List.getElem?_append_left (by rw [List.length_map]; exact (List.getElem?_eq_some_iff.mp hx).1), List.getElem?_map, hx]
      rfl)
    exact ⟨_, fd, He.glo_ok inH glob fact, hF⟩
  have hblt : ∀ x, G.blt.contains x = true → mg x = none := by
    intro x hx
    have hm : He.Fa.free x ∈ fa := by rw [hfa]; exact List.mem_append_left _ (List.mem_append_right _ (List.mem_map.mpr ⟨x, List.contains_iff_mem.mp hx, rfl⟩))
    obtain ⟨i, hi, e⟩ := List.mem_iff_getElem.mp hm
    exact He.free_ok inH glob (c.fact i (f := .free x) (by rw [List.getElem?_eq_getElem hi, e]))
  have hcons : ∀ x d, G.cons.lookup x = some d → ∃ v u, mg x = some u ∧ RelV v u ∧ ∀ φ H, Rep K φ H d v := by
    intro x d hx
    rw [hc] at hx
    have hm : (x, d) ∈ cs.map fun p => (p.1, D.int p.2) := mem_of_lookup hx
    obtain ⟨p, hp, e⟩ := List.mem_map.mp hm
    cases e
    have hm2 : He.Fa.int p.1 p.2 ∈ fa := by rw [hfa]; exact List.mem_append_right _ (List.mem_map.mpr ⟨p, hp, rfl⟩)
    obtain ⟨i, hi, e⟩ := List.mem_iff_getElem.mp hm2
    obtain ⟨t, ht⟩ := He.int_ok inH glob (c.fact i (f := .int p.1 p.2) (by rw [List.getElem?_eq_getElem hi, e]))
    exact ⟨.int p.2, _, ht, ⟨t, rfl⟩, fun φ H => by simp only [Rep]⟩
  obtain ⟨f', fd, m1, hF⟩ := hfun li xl hl
  rw [hmg] at m1
  cases m1
  have okl := ok xl (List.mem_of_getElem? hl)
  refine ⟨fd, fun s v => ?_, fun ns hn base _ _ => ?_⟩
  · have b := FunD.bindsA (ps := xl.ps) hF okl.bd s [v] (by rw [hps]; rfl)
    rw [hps] at b
    exact b
  · obtain ⟨S, e⟩ := plain ns hn
    refine ⟨call (dfs.map Df.fn) F k li, S, ?_, e⟩
    have := all_fng (P := P) (w := w) (base := base) (F := F) rfl rfl hG hfun (fun i x hx => ok x (List.mem_of_getElem? hx)) hblt hcons k li xl f fd hl hmg hF
    rw [hps] at this
    exact this
end Wb

/-! W30: plain data without objects: how it is shown. -/
namespace Wb
open PySem
mutual
/-- none, truths, small whole numbers, tuples of these -/
def D.pl : D → Bool
  | .non => true
  | .bl _ => true
  | .int i => decide (-1000000 < i) && decide (i < 1000000)
  | .tup xs => D.pls xs
  | _ => false
def D.pls : List D → Bool
  | [] => true
  | x :: r => D.pl x && D.pls r
end
mutual
def D.py : D → PyData
  | .non => .none
  | .bl b => .bool b
  | .int i => .int i
  | .tup xs => .tuple (D.pys xs)
  | _ => .none
def D.pys : List D → List PyData
  | [] => []
  | x :: r => D.py x :: D.pys r
end
mutual
/-- how many things -/
def D.nds : D → Nat
  | .tup xs => D.ndss xs + 1
  | _ => 1
def D.ndss : List D → Nat
  | [] => 0
  | x :: r => D.nds x + D.ndss r
end
mutual
def D.dp : D → Nat
  | .tup xs => D.dps xs + 1
  | _ => 0
def D.dps : List D → Nat
  | [] => 0
  | x :: r => max (D.dp x) (D.dps r)
end
mutual
theorem toPy_pl {S : Store} : ∀ (n : Nat) (d : D), d.pl = true → d.dp < n → toPy S n d = some d.py
  | 0, d, _, h => absurd h (Nat.not_lt_zero _)
  | n + 1, .non, _, _ => rfl
  | n + 1, .bl _, _, _ => rfl
  | n + 1, .int _, _, _ => rfl
  | n + 1, .tup xs, h, hd => by
    unfold toPy
    show Option.map PyData.tuple (mapO (toPy S n) xs) = _
    rw [toPys_pl n xs h (by simpa [D.dp] using hd)]
    rfl
  | n + 1, .str _, h, _ => by cases h
  | n + 1, .fix _, h, _ => by cases h
  | n + 1, .ref _, h, _ => by cases h
theorem toPys_pl {S : Store} : ∀ (n : Nat) (xs : List D), D.pls xs = true → D.dps xs < n → mapO (toPy S n) xs = some (D.pys xs)
  | n, [], _, _ => rfl
  | n, x :: r, h, hd => by
    unfold D.pls at h
    unfold D.dps at hd
    simp only [Bool.and_eq_true] at h
    unfold mapO
    rw [toPy_pl n x h.1 (by omega), toPys_pl n r h.2 (by omega)]
    rfl
end
mutual
theorem py_lay : ∀ (d : D), d.pl = true → d.py.canLay0 = true ∧ d.py.depth ≤ d.dp ∧ d.py.showable = true ∧ d.py.leavesShort 8 = true ∧ d.py.weight + 1 ≤ 22 * d.nds
  | .non, _ => ⟨rfl, Nat.le_refl _, rfl, rfl, by show 0 + 1 ≤ 22 * 1; omega⟩
  | .bl b, _ => ⟨rfl, Nat.le_refl _, rfl, rfl, by show 0 + 1 ≤ 22 * 1; omega⟩
  | .int i, h => by
    unfold D.pl at h
    simp only [Bool.and_eq_true, decide_eq_true_eq] at h
    have hn : i.natAbs < 1000000 := by omega
    have hl : i.natAbs.log2 < 20 := by
      by_cases h0 : i.natAbs = 0
      · rw [h0]; decide
      · exact (Nat.log2_lt h0).mpr (by omega)
    refine ⟨rfl, Nat.le_refl _, ?_, ?_, ?_⟩
    · show decide (i.natAbs.log2 < 1920) = true
      exact decide_eq_true (by omega)
    · show decide ((PyData.shown (.int i)).length ≤ 8) = true
      have := int_text_length_le10 (a := i) (k := 6) (by decide) (by omega)
      refine decide_eq_true ?_
      show (Str.ofString (toString i)).length ≤ 8
      have e : (Str.ofString (toString i)).length = (toString i).length := ofString_length _
      omega
    · show (if i == 0 then 0 else i.natAbs.log2 + 1) + 1 ≤ 22 * 1
      split <;> omega
  | .tup xs, h => by
    obtain ⟨h1, h2, h3, h4, h5⟩ := pys_lay xs h
    refine ⟨h1, by show PyData.depthAll _ + 1 ≤ _; unfold D.dp; omega, h3, h4, ?_⟩
    show PyData.weightAll _ + 1 ≤ 22 * (D.ndss xs + 1)
    omega
  | .str _, h => by cases h
  | .fix _, h => by cases h
  | .ref _, h => by cases h
theorem pys_lay : ∀ (xs : List D), D.pls xs = true → PyData.canLayAll0 (D.pys xs) = true ∧ PyData.depthAll (D.pys xs) ≤ D.dps xs ∧ PyData.showableAll (D.pys xs) = true ∧ PyData.leavesShortAll 8 (D.pys xs) = true ∧ PyData.weightAll (D.pys xs) ≤ 22 * D.ndss xs
  | [], _ => ⟨rfl, Nat.le_refl _, rfl, rfl, Nat.zero_le _⟩
  | x :: r, h => by
    unfold D.pls at h
    simp only [Bool.and_eq_true] at h
    obtain ⟨a1, a2, a3, a4, a5⟩ := py_lay x h.1
    obtain ⟨b1, b2, b3, b4, b5⟩ := pys_lay r h.2
    unfold D.pys
    refine ⟨by simp [PyData.canLayAll0, a1, b1], ?_, by simp [PyData.showableAll, a3, b3], by simp [PyData.leavesShortAll, a4, b4], ?_⟩
    · show max _ _ ≤ max _ _
      omega
    · show _ + 1 + _ ≤ 22 * (D.nds x + D.ndss r)
      omega
end
end Wb

/-! W31: running the code, step by step. -/
namespace Wb
open PySem
theorem shown_few {p : PyData} (hl : p.leavesShort 8 = true) (hw : p.weight ≤ 90000) : small p.shown.length = true := by
  have := PyData.shown_le 8 (by decide) p hl
  exact decide_eq_true (by show p.shown.length ≤ 1000000; omega)
theorem reprD_pl {S : Store} {d : D} (h : d.pl = true) (hd : d.dp ≤ 50) (hn : d.nds ≤ 4000) : reprD S d = some (.str d.py.shown) := by
  obtain ⟨a1, a2, a3, a4, a5⟩ := py_lay d h
  unfold reprD pyOk
  rw [toPy_pl 60 d h (by omega)]
  have sh : SeqAt.shaped d.py = true := by
    unfold SeqAt.shaped
    rw [a1, Bool.true_and]
    exact decide_eq_true (by omega)
  simp only [sh, if_true, a3, Bool.true_and]
  rw [if_pos (shown_few a4 (by omega))]
theorem reprD_lst {S : Store} {k : Nat} {xs : List D} (hk : S[k]? = some (.lst xs)) (h : D.pls xs = true) (hd : D.dps xs ≤ 50) (hn : D.ndss xs ≤ 4000) : reprD S (.ref k) = some (.str (PyData.list (D.pys xs)).shown) := by
  obtain ⟨a1, a2, a3, a4, a5⟩ := pys_lay xs h
  have e : toPy S 60 (.ref k) = some (.list (D.pys xs)) := by
    unfold toPy
    show (match S[k]? with
      | some (O.lst xs) => Option.map PyData.list (mapO (toPy S 59) xs)
      | x => none) = _
    rw [hk]
    show Option.map PyData.list (mapO (toPy S 59) xs) = _
    rw [toPys_pl 59 xs h (by omega)]
    rfl
  unfold reprD pyOk
  rw [e]
  have sh : SeqAt.shaped (.list (D.pys xs)) = true := by
    unfold SeqAt.shaped
    have e1 : (PyData.list (D.pys xs)).canLay0 = true := a1
    rw [e1, Bool.true_and]
    refine decide_eq_true ?_
    show PyData.depthAll (D.pys xs) + 1 ≤ 64
    omega
  have e3 : (PyData.list (D.pys xs)).showable = true := a3
  simp only [sh, if_true, e3, Bool.true_and]
  rw [if_pos (shown_few (p := .list (D.pys xs)) a4 (by show PyData.weightAll _ ≤ _; omega))]
theorem pys_ints {S : Store} : ∀ (n : Nat) (cs : List Int), mapO (toPy S (n + 1)) (cs.map D.int) = some (cs.map PyData.int)
  | n, [] => rfl
  | n, c :: r => by
    show mapO _ (D.int c :: r.map D.int) = _
    unfold mapO
    rw [pys_ints n r]
    rfl
theorem lay_ints : ∀ cs : List Int, PyData.canLayAll0 (cs.map PyData.int) = true ∧ PyData.depthAll (cs.map PyData.int) = 0
  | [] => ⟨rfl, rfl⟩
  | c :: r => by
    obtain ⟨h1, h2⟩ := lay_ints r
    exact ⟨by simp [PyData.canLayAll0, PyData.canLay0, h1], by simp [PyData.depthAll, PyData.depth, h2]⟩
theorem eqL_nil {S : Store} (cs : List Int) : eqL S (cs.map D.int) [] = some (decide (cs = [])) := by
  have p : pyOks S (cs.map D.int) = some (cs.map PyData.int) := by
    unfold pyOks
    rw [pys_ints 58 cs]
    obtain ⟨h1, h2⟩ := lay_ints cs
    have sh : SeqAt.shaped (.list (cs.map PyData.int)) = true := by
      unfold SeqAt.shaped
      have e1 : (PyData.list (cs.map PyData.int)).canLay0 = true := h1
      rw [e1, Bool.true_and]
      refine decide_eq_true ?_
      show PyData.depthAll _ + 1 ≤ 64
      omega
    simp only [sh, if_true]
  have p0 : pyOks S [] = some [] := by rfl
  unfold eqL
  rw [p, p0]
  cases cs <;> rfl
/-! ### the calculus -/
def Ok {α : Type} (m : Res α) (Q : α → Store → Prop) : Prop := ∃ a S, m = .ok a S ∧ Q a S
section
variable {α β : Type} {a : α} {S : Store} {m : Res α} {f : α → Store → Res β} {Q Q' : α → Store → Prop} {R : β → Store → Prop}
theorem ok_ok (h : Q a S) : Ok (.ok a S) Q := ⟨a, S, rfl, h⟩
theorem ok_imp (h : Ok m Q') (i : ∀ a S, Q' a S → Q a S) : Ok m Q := let ⟨a, S, e, q⟩ := h; ⟨a, S, e, i a S q⟩
theorem ok_bind (h : Ok m fun a S => Ok (f a S) R) : Ok (m.bind f) R := by
  obtain ⟨a, S, e, b, S', e', q⟩ := h
  exact ⟨b, S', by rw [e]; exact e', q⟩
theorem ok_bindI : Ok (m.bind f) R ↔ Ok m fun a S => Ok (f a S) R := by
  refine ⟨fun ⟨b, S', e, q⟩ => ?_, ok_bind⟩
  obtain ⟨a, S, e1, e2⟩ := bind_ok e
  exact ⟨a, S, e1, b, S', e2, q⟩
theorem ok_okI : Ok (.ok a S) Q ↔ Q a S := by
  refine ⟨fun ⟨b, S', e, q⟩ => ?_, ok_ok⟩
  cases e
  exact q
theorem ok_optI {o : Option α} : Ok (Res.opt S o) Q ↔ ∃ a, o = some a ∧ Q a S := by
  cases o with
  | none => exact ⟨fun h => (by obtain ⟨_, _, e, _⟩ := h; cases e), fun h => (by obtain ⟨_, e, _⟩ := h; cases e)⟩
  | some b => exact ⟨fun h => ⟨b, rfl, ok_okI.mp h⟩, fun ⟨c, e, q⟩ => by cases e; exact ok_ok q⟩
end
section
variable {cl : Nat → List D → Store → Res D} {F : Nat} {r : Env} {s : Store} {rest a b : List Wb.S} {Q : Out → Store → Prop} {e c o i : E}
/-- what is to hold behind a statement, by how it ends -/
def Cont (cl : Nat → List D → Store → Res D) (F : Nat) (rest : List Wb.S) (Q : Out → Store → Prop) : Out → Store → Prop
  | .nx r, s => Ok (evSs cl F rest r s) Q
  | .rt d, s => Q (.rt d) s
  | .bk r, s => Q (.bk r) s
  | .ct r, s => Q (.ct r) s
theorem ok_cons {st : Wb.S} (h : Ok (evS cl F st r s) (Cont cl F rest Q)) : Ok (evSs cl F (st :: rest) r s) Q := by
  rw [evSs]
  refine ok_bind (ok_imp h fun o s h => ?_)
  cases o with
  | nx r => exact h
  | rt d => exact ok_ok h
  | bk r => exact ok_ok h
  | ct r => exact ok_ok h
theorem ok_nil (h : Q (.nx r) s) : Ok (evSs cl F [] r s) Q := by
  rw [evSs]; exact ok_ok h
theorem ok_asg {i : Nat} (h : Ok (evE cl e r s) fun d s1 => Ok (evSs cl F rest (r.set i (some d)) s1) Q) : Ok (evSs cl F (.asg (.name i) e :: rest) r s) Q := by
  refine ok_cons ?_
  rw [evS]
  refine ok_bind (ok_imp h fun d s1 h => ok_bind ?_)
  rw [asT]
  exact ok_ok (ok_ok h)
theorem ok_asub (h : Ok (evE cl e r s) fun d s1 => Ok (evE cl o r s1) fun x s2 => Ok (evE cl i r s2) fun y s3 => ∃ s4, setD s3 x y d = some s4 ∧ Ok (evSs cl F rest r s4) Q) : Ok (evSs cl F (.asg (.sub o i) e :: rest) r s) Q := by
  refine ok_cons ?_
  rw [evS]
  refine ok_bind (ok_imp h fun d s1 h => ok_bind ?_)
  rw [asT]
  refine ok_bind (ok_imp h fun x s2 h => ok_bind (ok_imp h fun y s3 h => ?_))
  obtain ⟨s4, h1, h2⟩ := h
  rw [h1]
  exact ok_ok (ok_ok h2)
theorem ok_ex (h : Ok (evE cl e r s) fun _ s1 => Ok (evSs cl F rest r s1) Q) : Ok (evSs cl F (.ex e :: rest) r s) Q := by
  refine ok_cons ?_
  rw [evS]
  exact ok_bind (ok_imp h fun d s1 h => ok_ok h)
theorem ok_ret (h : Ok (evE cl e r s) fun d s1 => Q (.rt d) s1) : Ok (evSs cl F (.ret e :: rest) r s) Q := by
  refine ok_cons ?_
  rw [evS]
  exact ok_bind (ok_imp h fun d s1 h => ok_ok h)
theorem ok_ite (h : Ok (evT cl c r s) fun k s1 => if k then Ok (evSs cl F a r s1) (Cont cl F rest Q) else Ok (evSs cl F b r s1) (Cont cl F rest Q)) : Ok (evSs cl F (.ite c a b :: rest) r s) Q := by
  refine ok_cons ?_
  rw [evS]
  refine ok_bind (ok_imp h fun k s1 h => ?_)
  cases k <;> exact h
/-- a choice without an else, that goes on either way -/
theorem ok_when (h : Ok (evT cl c r s) fun k s1 => if k then Ok (evSs cl F a r s1) (Cont cl F rest Q) else Ok (evSs cl F rest r s1) Q) : Ok (evSs cl F (.ite c a [] :: rest) r s) Q := by
  refine ok_ite (ok_imp h fun k s1 h => ?_)
  cases k with
  | true => exact h
  | false => exact ok_nil h
theorem ok_for {t : T} {it : It} (h : Ok (evIt cl it r s) fun p s1 => Ok (forGo (fun d r2 s2 => (asT cl t d r2 s2).bind fun r3 s3 => evSs cl F b r3 s3) p.2 p.1 r s1) (Cont cl F rest Q)) : Ok (evSs cl F (.for_ t it b :: rest) r s) Q := by
  refine ok_cons ?_
  rw [evS]
  exact ok_bind h
theorem ok_par {i j : Nat} {x y : E} (h : Ok (evE cl x r s) fun d s1 => Ok (evE cl y r s1) fun e s2 => Ok (evSs cl F rest ((r.set i (some d)).set j (some e)) s2) Q) : Ok (evSs cl F (.par i j x y :: rest) r s) Q := by
  refine ok_cons ?_
  rw [evS]
  exact ok_bind (ok_imp h fun d s1 h => ok_bind (ok_imp h fun e s2 h => ok_ok h))
/-- a loop over things that are laid once -/
theorem ok_loop {body : D → Env → Store → Res Out} (I : Nat → Env → Store → Prop) {ds : List D} {R : Out → Store → Prop} (h0 : I 0 r s) (hs : ∀ i d r s, ds[i]? = some d → I i r s → Ok (body d r s) fun o s1 => match o with
    | .nx r1 => I (i + 1) r1 s1
    | .ct r1 => I (i + 1) r1 s1
    | .bk r1 => R (.nx r1) s1
    | .rt d => R (.rt d) s1) (hd : ∀ r s, I ds.length r s → R (.nx r) s) : Ok (forGo body none ds r s) R := by
  have go : ∀ (n i : Nat) (r : Env) (s : Store), n = ds.length - i → i ≤ ds.length → I i r s → Ok (forGo body none (ds.drop i) r s) R := by
    intro n
    induction n with
    | zero =>
      intro i r s hn hi h
      have : i = ds.length := by omega
      subst this
      rw [List.drop_length]
      unfold forGo
      rw [if_pos (show still _ none = true from rfl)]
      exact ok_ok (hd r s h)
    | succ n ih =>
      intro i r s hn hi h
      have hlt : i < ds.length := by omega
      rw [List.drop_eq_getElem_cons hlt]
      unfold forGo
      rw [if_pos (show still _ none = true from rfl)]
      obtain ⟨o, s1, e, q⟩ := hs i ds[i] r s (List.getElem?_eq_getElem hlt) h
      rw [e]
      cases o with
      | nx r1 => exact ih (i + 1) r1 s1 (by omega) (by omega) q
      | ct r1 => exact ih (i + 1) r1 s1 (by omega) (by omega) q
      | bk r1 => exact ok_ok q
      | rt d => exact ok_ok q
  have := go ds.length 0 r s (by omega) (Nat.zero_le _) h0
  rwa [List.drop_zero] at this
/-- a comprehension over things that are laid once: each turn gives one thing -/
theorem ok_comp {step : D → Store → Res (Option D)} {R : List D → Store → Prop} (I : Nat → List D → Store → Prop) {ds : List D} (hsz : ds.length ≤ 1000000) (h0 : I 0 [] s)
    (hs : ∀ i d acc s, ds[i]? = some d → I i acc s → Ok (step d s) fun o s1 => match o with
      | some v => I (i + 1) (acc ++ [v]) s1
      | none => I (i + 1) acc s1) (hd : ∀ acc s, I ds.length acc s → R acc s) : Ok (compGo step none ds [] s) R := by
  have go : ∀ (n i : Nat) (acc : List D) (s : Store), n = ds.length - i → i ≤ ds.length → acc.length ≤ i → I i acc s → Ok (compGo step none (ds.drop i) acc s) R := by
    intro n
    induction n with
    | zero =>
      intro i acc s hn hi _ h
      have : i = ds.length := by omega
      subst this
      rw [List.drop_length]
      unfold compGo
      rw [if_pos (show still _ none = true from rfl)]
      exact ok_ok (hd acc s h)
    | succ n ih =>
      intro i acc s hn hi ha h
      have hlt : i < ds.length := by omega
      rw [List.drop_eq_getElem_cons hlt]
      unfold compGo
      rw [if_pos (show still _ none = true from rfl)]
      obtain ⟨o, s1, e, q⟩ := hs i ds[i] acc s (List.getElem?_eq_getElem hlt) h
      rw [e]
      cases o with
      | none => exact ih (i + 1) acc s1 (by omega) (by omega) (by omega) q
      | some v =>
        simp only
        rw [if_pos (show small acc.length = true from decide_eq_true (show acc.length ≤ 1000000 by omega))]
        exact ih (i + 1) (acc ++ [v]) s1 (by omega) (by omega) (by simp; omega) q
  have := go ds.length 0 [] s (by omega) (Nat.zero_le _) (Nat.le_refl _) h0
  rwa [List.drop_zero] at this
end
/-! ### a call, and what is forgotten -/
theorem gc_any {s s1 : Store} {d : D} {Q : D → Store → Prop} (hd : d.under s.length = true) (hl : s.length ≤ s1.length) (h : ∀ s2 : Store, s.length ≤ s2.length → (∀ n, n < s.length → s2[n]? = s1[n]?) → Q d s2) : Ok (gc s d s1) Q := by
  unfold gc
  split
  · exact ok_ok (h _ (by rw [List.length_take]; omega) fun n hn => by rw [List.getElem?_take_of_lt hn])
  · exact ok_ok (h _ hl fun n hn => rfl)
theorem ok_call {P : List Fn} {F k f : Nat} {fn : Fn} {ds : List D} {s : Store} {Q : D → Store → Prop} (hf : P[f]? = some fn) (hl : ds.length = fn.np)
    (h : Ok (evSs (call P F k) F fn.body (ds.map some ++ List.replicate (fn.nn - fn.np) none) s) fun o s1 => match o with
      | .rt d => Ok (gc s d s1) Q
      | .nx _ => Ok (gc s .non s1) Q
      | _ => False) : Ok (call P F (k + 1) f ds s) Q := by
  unfold call
  rw [hf]
  simp only
  rw [if_pos hl]
  refine ok_bind (ok_imp h fun o s1 h => ?_)
  cases o with
  | rt d => exact h
  | nx r => exact h
  | bk r => exact h.elim
  | ct r => exact h.elim
end Wb

/-! W32: stores that go on. -/
namespace Wb
open PySem
/-- what stood stands, but for the one at f -/
structure Step (f : Nat) (S S' : Store) : Prop where
  len : S.length ≤ S'.length
  old : ∀ n, n < S.length → n ≠ f → S'[n]? = S[n]?
section
variable {f n : Nat} {S S1 S2 : Store} {o : O}
theorem Step.rfl' : Step f S S := ⟨Nat.le_refl _, fun _ _ _ => rfl⟩
theorem Step.trans (a : Step f S S1) (b : Step f S1 S2) : Step f S S2 := ⟨Nat.le_trans a.len b.len, fun n h e => (b.old n (Nat.lt_of_lt_of_le h a.len) e).trans (a.old n h e)⟩
theorem Step.push : Step f S (S ++ [o]) := ⟨by simp, fun n h _ => List.getElem?_append_left h⟩
theorem Step.put : Step f S (S.set f o) := ⟨by simp, fun n _ e => List.getElem?_set_ne (Ne.symm e)⟩
/-- a younger one is written -/
theorem Step.young (h : S.length ≤ n) (a : Step f S S1) : Step f S (S1.set n o) := ⟨by simpa using a.len, fun m hm e => by rw [List.getElem?_set_ne (by omega)]; exact a.old m hm e⟩
theorem Step.get (a : Step f S S1) (h : S[n]? = some o) (e : n ≠ f) : S1[n]? = some o := (a.old n (List.getElem?_eq_some_iff.mp h).1 e).trans h
theorem set_self (h : S[n]? = some o) {o' : O} : (S.set n o')[n]? = some o' := by
  rw [List.getElem?_set_self (List.getElem?_eq_some_iff.mp h).1]
theorem set_other {m : Nat} (e : m ≠ n) {o' : O} : (S.set n o')[m]? = S[m]? := List.getElem?_set_ne (Ne.symm e)
theorem push_new : (S ++ [o])[S.length]? = some o := by simp
theorem push_old {u : O} (h : S[n]? = some o) : (S ++ [u])[n]? = some o := by
  rw [List.getElem?_append_left (List.getElem?_eq_some_iff.mp h).1]; exact h
theorem at_lt (h : S[n]? = some o) : n < S.length := (List.getElem?_eq_some_iff.mp h).1
end
theorem ix_dik {S : Store} {n : Nat} {kvs : List (L2.Key × D)} {x : Str} {z : D} (h : S[n]? = some (.dik kvs)) (hg : getK kvs (.inr x) = some z) : ixD S (.ref n) (.str x) = some z := by
  simp only [ixD, h, D.key, hg]
theorem set_dik {S : Store} {n : Nat} {kvs : List (L2.Key × D)} {x : Str} {z : D} (h : S[n]? = some (.dik kvs)) (hs : small kvs.length = true) : setD S (.ref n) (.str x) z = some (S.set n (.dik (setK kvs (.inr x) z))) := by
  simp only [setD, h, D.key, hs, if_true]
theorem atD_in {α : Type} {xs : List α} {i : Int} (h0 : 0 ≤ i) (h1 : i < xs.length) : atD xs i = some (xs[i.toNat]'(by omega)) := by
  unfold atD L2.atI L2.ixN
  rw [if_pos h0, if_pos h1]
  simp
theorem okMul_r {i j : Int} (h : -(2 ^ 64) < j ∧ j < 2 ^ 64) : okMul i j = true := by
  simp only [okMul, Bool.or_eq_true, Bool.and_eq_true, decide_eq_true_eq]
  exact .inr h
theorem okMul_l {i j : Int} (h : -(2 ^ 64) < i ∧ i < 2 ^ 64) : okMul i j = true := by
  simp only [okMul, Bool.or_eq_true, Bool.and_eq_true, decide_eq_true_eq]
  exact .inl h
theorem ok_append {cl : Nat → List D → Store → Res D} {F i q : Nat} {r : Env} {s : Store} {rest : List Wb.S} {Q : Out → Store → Prop} {e : E} {xs : List D} (hi : look r i = some (.ref q)) (hq : s[q]? = some (.lst xs))
    (h : Ok (evE cl e r s) fun d s1 => ∃ xs1, s1[q]? = some (.lst xs1) ∧ xs1.length ≤ 1000000 ∧ Ok (evSs cl F rest r (s1.set q (.lst (xs1 ++ [d])))) Q) : Ok (evSs cl F (.ex (.meth .append (.var i) [e]) :: rest) r s) Q := by
  refine ok_ex ?_
  rw [evE, evE]
  simp only [hi, Res.opt_some, Res.bind_ok, lstAt, hq, Option.isSome_some, if_true, evEs]
  refine ok_bind (ok_bind (ok_imp h fun d s1 ⟨xs1, h1, h2, h3⟩ => ok_ok ?_))
  simp only [methD, h1, show small xs1.length = true from decide_eq_true h2, if_true]
  exact ok_ok h3
theorem cut_map {α β : Type} (g : α → β) (l : List α) (lo hi : Option Int) : cut (l.map g) lo hi = (cut l lo hi).map g := by
  unfold cut
  simp only [List.length_map, List.map_take, List.map_drop]
theorem rng_at {a b : Int} {i : Nat} {d : D} (h : (rngL a b)[i]? = some d) : d = .int (a + i) ∧ (i : Int) < b - a := by
  unfold rngL at h
  rw [List.getElem?_map] at h
  obtain ⟨m, hm, rfl⟩ := Option.map_eq_some_iff.mp h
  obtain ⟨h1, h2⟩ := List.getElem?_eq_some_iff.mp hm
  simp only [List.length_range] at h1
  simp only [List.getElem_range] at h2
  subst h2
  exact ⟨rfl, by omega⟩
theorem rng_len {a b : Int} : (rngL a b).length = (b - a).toNat := by unfold rngL; simp
theorem rngOk_of {a b : Int} (h : -1000000 ≤ a ∧ a ≤ 1000000 ∧ -1000000 ≤ b ∧ b ≤ 1000000) : rngOk a b = true := by
  simp only [rngOk, Bool.and_eq_true, decide_eq_true_eq]; omega
theorem asInts_of : ∀ {ns : List Int}, asInts (ns.map .int) = some ns
  | [] => rfl
  | n :: r => by
    have := asInts_of (ns := r)
    unfold asInts at this ⊢
    show mapO asInt (.int n :: r.map .int) = _
    unfold mapO
    rw [this]
    rfl
theorem asPairs_of : ∀ {ps : List (Int × Int)}, asPairs (ps.map ofPair) = some ps
  | [] => rfl
  | n :: r => by
    have := asPairs_of (ps := r)
    unfold asPairs at this ⊢
    show mapO asPair (ofPair n :: r.map ofPair) = _
    unfold mapO
    rw [this]
    rfl
theorem asInts_pairs {p : Int × Int} {ps : List (Int × Int)} : asInts ((p :: ps).map ofPair) = none := by
  unfold asInts
  show mapO asInt (ofPair p :: ps.map ofPair) = _
  unfold mapO
  rfl
/-- pairs that rise -/
def Up (ps : List (Int × Int)) : Prop := ps.Pairwise fun a b => (!lt2 b a) = true
theorem up_srt {ps : List (Int × Int)} : Up (srtP ps) := srt_srt (le := fun a b => !lt2 b a) (fun a b => le2_tot a b) (fun a b c h1 h2 => le2_tr a b c h1 h2) ps
theorem srt_up {ps : List (Int × Int)} (h : Up ps) : srtP ps = ps := (srtP_one (List.Perm.refl _) h).symm
theorem sortD_pairs {ps : List (Int × Int)} : sortD (ps.map ofPair) = some ((srtP ps).map ofPair) := by
  unfold sortD
  cases ps with
  | nil => rfl
  | cons p r => rw [asInts_pairs, asPairs_of]
theorem sortSetD_pairs {ps : List (Int × Int)} (hl : ps.length < 64) (h : ∀ p ∈ ps, (0 ≤ p.1 ∧ p.1 < 1000000) ∧ 0 ≤ p.2 ∧ p.2 < 1000000) : sortSetD (ps.map ofPair) = some ((srtP (dedup ps)).map ofPair) := by
  unfold sortSetD
  rw [asPairs_of]
  simp only
  rw [if_pos]
  simp only [Bool.and_eq_true, decide_eq_true_eq, List.all_eq_true]
  refine ⟨hl, fun p hp => ?_⟩
  have := h p hp
  omega
theorem mem_srtP {ps : List (Int × Int)} {p : Int × Int} : p ∈ srtP ps ↔ p ∈ ps := (srt_perm ps).mem_iff
theorem dedup_len {α : Type} [DecidableEq α] : ∀ l : List α, (dedup l).length ≤ l.length
  | [] => Nat.le_refl _
  | x :: r => by
    have := dedup_len r
    unfold dedup
    split
    · simp; omega
    · simp; omega
theorem small_of {n : Nat} (h : n ≤ 1000000) : small n = true := decide_eq_true h
theorem comp_map {α : Type} {step : D → Store → Res (Option D)} {f g : α → D} {s : Store} {xs : List α} (hsz : xs.length ≤ 1000000) (h : ∀ x ∈ xs, step (f x) s = .ok (some (g x)) s) : compGo step none (xs.map f) [] s = .ok (xs.map g) s := by
  have go : ∀ (l : List α) (acc : List D), (∀ x ∈ l, x ∈ xs) → acc.length + l.length ≤ 1000000 → compGo step none (l.map f) acc s = .ok (acc ++ l.map g) s := by
    intro l
    induction l with
    | nil => intro acc _ _; simp [compGo, still]
    | cons x l ih =>
      intro acc hm hl
      simp only [List.length_cons] at hl
      show compGo step none (f x :: l.map f) acc s = _
      unfold compGo
      rw [if_pos (show still s none = true from rfl), h x (hm x (by simp))]
      simp only
      rw [if_pos (show small acc.length = true from decide_eq_true (show acc.length ≤ 1000000 by omega)), ih (acc ++ [g x]) (fun y hy => hm y (by simp [hy])) (by simp; omega)]
      simp
  have := go xs [] (fun x h => h) (by simpa using hsz)
  simpa using this
structure Keep (S S' : Store) : Prop where
  len : S.length ≤ S'.length
  old : ∀ n, n < S.length → S'[n]? = S[n]?
theorem Keep.step {f : Nat} {S S' : Store} (h : Keep S S') : Step f S S' := ⟨h.len, fun n hn _ => h.old n hn⟩
theorem Keep.rfl' {S : Store} : Keep S S := ⟨Nat.le_refl _, fun _ _ => rfl⟩
theorem Keep.push {S : Store} {o : O} : Keep S (S ++ [o]) := ⟨by simp, fun n h => List.getElem?_append_left h⟩
theorem Keep.trans {S S1 S2 : Store} (a : Keep S S1) (b : Keep S1 S2) : Keep S S2 := ⟨Nat.le_trans a.len b.len, fun n h => (b.old n (Nat.lt_of_lt_of_le h a.len)).trans (a.old n h)⟩
theorem Keep.get {S S1 : Store} {n : Nat} {o : O} (a : Keep S S1) (h : S[n]? = some o) : S1[n]? = some o := (a.old n (at_lt h)).trans h
theorem gc_keep {s s1 : Store} {d : D} {Q : D → Store → Prop} (hd : d.under s.length = true) (hk : Keep s s1) (h : ∀ s2, Keep s s2 → Q d s2) : Ok (gc s d s1) Q :=
  gc_any hd hk.len fun s2 hl ho => h s2 ⟨hl, fun n hn => (ho n hn).trans (hk.old n hn)⟩
mutual
theorem pl_under : ∀ (d : D) (m : Nat), d.pl = true → d.under m = true
  | .non, _, _ => rfl
  | .bl _, _, _ => rfl
  | .int _, _, _ => rfl
  | .tup xs, m, h => pls_under xs m h
  | .str _, _, h => by cases h
  | .fix _, _, h => by cases h
  | .ref _, _, h => by cases h
theorem pls_under : ∀ (xs : List D) (m : Nat), D.pls xs = true → D.unders m xs = true
  | [], _, _ => rfl
  | x :: r, m, h => by
    unfold D.pls at h
    simp only [Bool.and_eq_true] at h
    unfold D.unders
    rw [pl_under x m h.1, pls_under r m h.2]
    rfl
end
theorem pls_app : ∀ {xs ys : List D}, D.pls (xs ++ ys) = (D.pls xs && D.pls ys)
  | [], ys => by simp [D.pls]
  | x :: r, ys => by simp [D.pls, pls_app (xs := r), Bool.and_assoc]
theorem ndss_app : ∀ {xs ys : List D}, D.ndss (xs ++ ys) = D.ndss xs + D.ndss ys
  | [], ys => by simp [D.ndss]
  | x :: r, ys => by simp [D.ndss, ndss_app (xs := r), Nat.add_assoc]
theorem dps_app : ∀ {xs ys : List D}, D.dps (xs ++ ys) = max (D.dps xs) (D.dps ys)
  | [], ys => by simp [D.dps]
  | x :: r, ys => by simp [D.dps, dps_app (xs := r), Nat.max_assoc]
theorem pls_ints {b : Int} (hb : b ≤ 1000000) : ∀ {ns : List Int}, (∀ n ∈ ns, 0 ≤ n ∧ n < b) → D.pls (ns.map .int) = true ∧ D.dps (ns.map .int) = 0 ∧ D.ndss (ns.map .int) = ns.length
  | [], _ => ⟨rfl, rfl, rfl⟩
  | n :: r, h => by
    obtain ⟨h1, h2, h3⟩ := pls_ints hb (ns := r) fun m hm => h m (by simp [hm])
    have := h n (by simp)
    refine ⟨?_, ?_, ?_⟩
    · show (D.pl (.int n) && D.pls (r.map .int)) = true
      rw [h1, Bool.and_true]
      simp only [D.pl, Bool.and_eq_true, decide_eq_true_eq]
      omega
    · show max 0 (D.dps (r.map .int)) = 0
      omega
    · show 1 + D.ndss (r.map .int) = r.length + 1
      omega
theorem pls_pairs {b : Int} (hb : b ≤ 1000000) : ∀ {ps : List (Int × Int)}, (∀ p ∈ ps, (0 ≤ p.1 ∧ p.1 < b) ∧ 0 ≤ p.2 ∧ p.2 < b) → D.pls (ps.map ofPair) = true ∧ D.dps (ps.map ofPair) ≤ 1 ∧ D.ndss (ps.map ofPair) = 3 * ps.length
  | [], _ => ⟨rfl, by decide, rfl⟩
  | p :: r, h => by
    obtain ⟨h1, h2, h3⟩ := pls_pairs hb (ps := r) fun m hm => h m (by simp [hm])
    have := h p (by simp)
    refine ⟨?_, ?_, ?_⟩
    · show (D.pl (.tup [.int p.1, .int p.2]) && D.pls (r.map ofPair)) = true
      rw [h1, Bool.and_true]
      simp [D.pl, D.pls]
      omega
    · show max 1 (D.dps (r.map ofPair)) ≤ 1
      omega
    · show 3 + D.ndss (r.map ofPair) = 3 * (r.length + 1)
      omega
end Wb

/-! W33: more steps: extend, lists handed out, membership of pairs. -/
namespace Wb
open PySem
theorem ok_extend {cl : Nat → List D → Store → Res D} {F i q : Nat} {r : Env} {s : Store} {rest : List Wb.S} {Q : Out → Store → Prop} {l : Ls} {xs : List D} (hi : look r i = some (.ref q)) (hq : s[q]? = some (.lst xs))
    (h : Ok (evL cl l r s) fun ds s1 => ∃ xs1, s1[q]? = some (.lst xs1) ∧ xs1.length + ds.length ≤ 1000000 ∧ Ok (evSs cl F rest r (s1.set q (.lst (xs1 ++ ds)))) Q) : Ok (evSs cl F (.ex (.ext (.var i) l) :: rest) r s) Q := by
  refine ok_ex ?_
  rw [evE, evE]
  simp only [hi, Res.opt_some, Res.bind_ok, lstAt, hq, Option.isSome_some, if_true]
  refine ok_bind (ok_imp h fun d s1 ⟨xs1, h1, h2, h3⟩ => ?_)
  simp only [h1, small_of h2, if_true]
  exact ok_ok h3
theorem gc_ref {s s1 : Store} {q : Nat} {o : O} {Q : D → Store → Prop} (hq : s1[q]? = some o) (ho : o.under s.length = true) (hk : Keep s s1) (h0 : s.length ≤ q) (h : ∀ q2 s2, Keep s s2 → s.length ≤ q2 → s2[q2]? = some o → Q (.ref q2) s2) : Ok (gc s (.ref q) s1) Q := by
  unfold gc
  split
  · rw [if_neg (by simp [D.under]; omega)]
    simp only [hq, ho, if_true]
    refine ok_ok (h s.length _ ⟨by have := hk.len; simp [List.length_take]; omega, fun n hn => ?_⟩ (Nat.le_refl _) ?_)
    · have hl := hk.len
      rw [List.getElem?_append_left (by rw [List.length_take]; omega), List.getElem?_take_of_lt hn]
      exact hk.old n hn
    · have hl := hk.len
      have e : (s1.take s.length).length = s.length := by rw [List.length_take]; omega
      have : (s1.take s.length ++ [o])[(s1.take s.length).length]? = some o := by simp
      rw [e] at this
      exact this
  · exact ok_ok (h q s1 hk h0 hq)
theorem pyOk_pl {S : Store} {d : D} (h : d.pl = true) (hd : d.dp ≤ 50) : pyOk S d = some d.py := by
  obtain ⟨a1, a2, a3, a4, a5⟩ := py_lay d h
  unfold pyOk
  rw [toPy_pl 60 d h (by omega)]
  have sh : SeqAt.shaped d.py = true := by
    unfold SeqAt.shaped
    rw [a1, Bool.true_and]
    exact decide_eq_true (by omega)
  simp only [sh, if_true]
theorem pyOks_pl {S : Store} {xs : List D} (h : D.pls xs = true) (hd : D.dps xs ≤ 50) : pyOks S xs = some (D.pys xs) := by
  obtain ⟨a1, a2, a3, a4, a5⟩ := pys_lay xs h
  unfold pyOks
  rw [toPys_pl 59 xs h (by omega)]
  have sh : SeqAt.shaped (.list (D.pys xs)) = true := by
    unfold SeqAt.shaped
    have e1 : (PyData.list (D.pys xs)).canLay0 = true := a1
    rw [e1, Bool.true_and]
    refine decide_eq_true ?_
    show PyData.depthAll (D.pys xs) + 1 ≤ 64
    omega
  simp only [sh, if_true]
theorem eqL_none {S : Store} {xs : List D} (h : D.pls xs = true) (hd : D.dps xs ≤ 50) : eqL S xs [] = some (decide (xs = [])) := by
  have p0 : pyOks S [] = some [] := by rfl
  unfold eqL
  rw [pyOks_pl h hd, p0]
  cases xs <;> rfl
theorem any_pairs (p : Int × Int) : ∀ ps : List (Int × Int), ((D.pys (ps.map ofPair)).any fun z => PyData.eqv z (ofPair p).py) = decide (p ∈ ps)
  | [] => rfl
  | q :: r => by
    show (PyData.eqv (ofPair q).py (ofPair p).py || (D.pys (r.map ofPair)).any fun z => PyData.eqv z (ofPair p).py) = _
    rw [any_pairs p r]
    have e : PyData.eqv (ofPair q).py (ofPair p).py = decide (p = q) := by
      show (q.1 == p.1 && (q.2 == p.2 && true)) = decide (p = q)
      obtain ⟨a, b⟩ := p
      obtain ⟨c, d⟩ := q
      by_cases h1 : c = a
      · by_cases h2 : d = b
        · subst h1; subst h2; simp
        · simp [h1, h2, Ne.symm h2]
      · simp [h1, Ne.symm h1]
    rw [e]
    simp only [List.mem_cons, Bool.decide_or]
theorem inD_pairs {S : Store} {b : Int} (hb : b ≤ 1000000) {p : Int × Int} {ps : List (Int × Int)} (hp : (0 ≤ p.1 ∧ p.1 < b) ∧ 0 ≤ p.2 ∧ p.2 < b) (hps : ∀ p ∈ ps, (0 ≤ p.1 ∧ p.1 < b) ∧ 0 ≤ p.2 ∧ p.2 < b) : inD S (ofPair p) (ps.map ofPair) = some (decide (p ∈ ps)) := by
  obtain ⟨h1, h2, _⟩ := pls_pairs hb hps
  obtain ⟨g1, g2, _⟩ := pls_pairs (ps := [p]) hb (by intro q hq; rw [List.mem_singleton.mp hq]; exact hp)
  have k1 : (ofPair p).pl = true := by
    have : (D.pl (ofPair p) && true) = true := g1
    simpa using this
  unfold inD
  rw [pyOk_pl k1 (by show 1 ≤ 50; omega), pyOks_pl h1 (by omega)]
  exact congrArg some (any_pairs p ps)
theorem comp_mapG {α : Type} {step : D → Store → Res (Option D)} {gd : Option (Nat × List D)} {f g : α → D} {s : Store} {xs : List α} (hg : still s gd = true) (hsz : xs.length ≤ 1000000) (h : ∀ x ∈ xs, step (f x) s = .ok (some (g x)) s) : compGo step gd (xs.map f) [] s = .ok (xs.map g) s := by
  have go : ∀ (l : List α) (acc : List D), (∀ x ∈ l, x ∈ xs) → acc.length + l.length ≤ 1000000 → compGo step gd (l.map f) acc s = .ok (acc ++ l.map g) s := by
    intro l
    induction l with
    | nil => intro acc _ _; simp [compGo, hg]
    | cons x l ih =>
      intro acc hm hl
      simp only [List.length_cons] at hl
      show compGo step gd (f x :: l.map f) acc s = _
      unfold compGo
      rw [if_pos hg, h x (hm x (by simp))]
      simp only
      rw [if_pos (small_of (n := acc.length) (by omega)), ih (acc ++ [g x]) (fun y hy => hm y (by simp [hy])) (by simp; omega)]
      simp
  have := go xs [] (fun x h => h) (by simpa using hsz)
  simpa using this
theorem still_of {s : Store} {p : Nat} {xs : List D} (h : s[p]? = some (.lst xs)) : still s (some (p, xs)) = true := decide_eq_true h
theorem zipL_map {α : Type} {f g : α → D} : ∀ xs : List α, zipL (xs.map f) (xs.map g) = xs.map fun x => .tup [f x, g x]
  | [] => rfl
  | x :: xs => by show D.tup [f x, g x] :: zipL (xs.map f) (xs.map g) = _; rw [zipL_map xs]; rfl
theorem gc_refS {s s1 : Store} {q : Nat} {o : O} {Q : D → Store → Prop} (hq : s1[q]? = some o) (ho : o.under s.length = true) (hl : s.length ≤ s1.length) (h0 : s.length ≤ q) (h : ∀ q2 s2, s.length ≤ s2.length → (∀ n, n < s.length → s2[n]? = s1[n]?) → s.length ≤ q2 → s2[q2]? = some o → Q (.ref q2) s2) : Ok (gc s (.ref q) s1) Q := by
  unfold gc
  split
  · rw [if_neg (by simp [D.under]; omega)]
    simp only [hq, ho, if_true]
    refine ok_ok (h s.length _ (by simp [List.length_take]; omega) (fun n hn => ?_) (Nat.le_refl _) ?_)
    · rw [List.getElem?_append_left (by rw [List.length_take]; omega), List.getElem?_take_of_lt hn]
    · have e : (s1.take s.length).length = s.length := by rw [List.length_take]; omega
      have : (s1.take s.length ++ [o])[(s1.take s.length).length]? = some o := by simp
      rw [e] at this
      exact this
  · exact ok_ok (h q s1 hl (fun _ _ => rfl) h0 hq)
theorem eqD_pairs {S : Store} {b : Int} (hb : b ≤ 1000000) {p q : Int × Int} (hp : (0 ≤ p.1 ∧ p.1 < b) ∧ 0 ≤ p.2 ∧ p.2 < b) (hq : (0 ≤ q.1 ∧ q.1 < b) ∧ 0 ≤ q.2 ∧ q.2 < b) : eqD S (ofPair p) (ofPair q) = some (decide (p = q)) := by
  have pl : ∀ p : Int × Int, (0 ≤ p.1 ∧ p.1 < b) ∧ 0 ≤ p.2 ∧ p.2 < b → (ofPair p).pl = true := fun p hp => by
    obtain ⟨g1, g2, _⟩ := pls_pairs (ps := [p]) hb (by intro q hq; rw [List.mem_singleton.mp hq]; exact hp)
    have : (D.pl (ofPair p) && true) = true := g1
    simpa using this
  show (match pyOk S (ofPair p), pyOk S (ofPair q) with
    | some a, some b => some (PyData.eqv a b)
    | _, _ => none) = _
  rw [pyOk_pl (pl p hp) (by show 1 ≤ 50; omega), pyOk_pl (pl q hq) (by show 1 ≤ 50; omega)]
  refine congrArg some ?_
  show (p.1 == q.1 && (p.2 == q.2 && true)) = decide (p = q)
  obtain ⟨a, b⟩ := p
  obtain ⟨c, d⟩ := q
  by_cases h1 : a = c
  · by_cases h2 : b = d
    · subst h1; subst h2; simp
    · simp [h1, h2]
  · simp [h1]
theorem ok_compG {step : D → Store → Res (Option D)} {gd : Option (Nat × List D)} {s : Store} {R : List D → Store → Prop} (hg : still s gd = true) (I : Nat → List D → Prop) {ds : List D} (hsz : ds.length ≤ 1000000) (h0 : I 0 [])
    (hs : ∀ i d acc, ds[i]? = some d → I i acc → ∃ o, step d s = .ok o s ∧ match o with
      | some v => I (i + 1) (acc ++ [v])
      | none => I (i + 1) acc) (hd : ∀ acc, I ds.length acc → R acc s) : Ok (compGo step gd ds [] s) R := by
  have go : ∀ (n i : Nat) (acc : List D), n = ds.length - i → i ≤ ds.length → acc.length ≤ i → I i acc → Ok (compGo step gd (ds.drop i) acc s) R := by
    intro n
    induction n with
    | zero =>
      intro i acc hn hi _ h
      have : i = ds.length := by omega
      subst this
      rw [List.drop_length]
      unfold compGo
      rw [if_pos hg]
      exact ok_ok (hd acc h)
    | succ n ih =>
      intro i acc hn hi ha h
      have hlt : i < ds.length := by omega
      rw [List.drop_eq_getElem_cons hlt]
      unfold compGo
      rw [if_pos hg]
      obtain ⟨o, e, q⟩ := hs i ds[i] acc (List.getElem?_eq_getElem hlt) h
      rw [e]
      cases o with
      | none => exact ih (i + 1) acc (by omega) (by omega) (by omega) q
      | some v =>
        simp only
        rw [if_pos (small_of (n := acc.length) (by omega))]
        exact ih (i + 1) (acc ++ [v]) (by omega) (by omega) (by simp; omega) q
  have := go ds.length 0 [] (by omega) (Nat.zero_le _) (Nat.le_refl _) h0
  rwa [List.drop_zero] at this
end Wb

/-! W34: lists that rise strictly. -/
namespace Wb
open PySem
theorem inc_eq {l m : List Int} (hl : l.Pairwise (· < ·)) (hm : m.Pairwise (· < ·)) (h : ∀ x, x ∈ l ↔ x ∈ m) : l = m := by
  have p : l.Perm m := perm_of_nodup (hl.imp fun h e => by omega) (hm.imp fun h e => by omega) h
  have e1 := srtI_one p (hl.imp fun h => by omega)
  have e2 := srtI_one (List.Perm.refl m) (hm.imp fun h => by omega)
  rw [e1]
  exact e2.symm
theorem up_strict {ts : List (Int × Int)} (h : Up ts) (nd : ts.Nodup) : ts.Pairwise fun a b => lt2 a b = true := by
  refine (h.and nd).imp fun {a b} ⟨h1, h2⟩ => ?_
  have := le2_iff.mp h1
  refine lt2_iff.mpr ?_
  by_cases e : a.1 = b.1
  · refine .inr ⟨e, ?_⟩
    have : a.2 ≠ b.2 := fun e2 => h2 (Prod.ext e e2)
    omega
  · omega
theorem inc_snd {ts : List (Int × Int)} {a : Int} (h : ts.Pairwise fun a b => lt2 a b = true) : ((ts.filter fun p => decide (p.1 = a)).map (·.2)).Pairwise (· < ·) := by
  refine List.pairwise_map.mpr (List.pairwise_filter.mpr (h.imp fun {p q} hpq hp hq => ?_))
  have := lt2_iff.mp hpq
  have e1 : p.1 = a := of_decide_eq_true hp
  have e2 : q.1 = a := of_decide_eq_true hq
  omega
theorem inc_fst {ts : List (Int × Int)} {a : Int} (h : ts.Pairwise fun a b => lt2 a b = true) : ((ts.filter fun p => decide (p.2 = a)).map (·.1)).Pairwise (· < ·) := by
  refine List.pairwise_map.mpr (List.pairwise_filter.mpr (h.imp fun {p q} hpq hp hq => ?_))
  have := lt2_iff.mp hpq
  have e1 : p.2 = a := of_decide_eq_true hp
  have e2 : q.2 = a := of_decide_eq_true hq
  omega
theorem inc_own {ts : List (Int × Int)} (h : ts.Pairwise fun a b => lt2 a b = true) : ((ts.filter fun p => decide (p.1 = p.2)).map (·.1)).Pairwise (· < ·) := by
  refine List.pairwise_map.mpr (List.pairwise_filter.mpr (h.imp fun {p q} hpq hp hq => ?_))
  have := lt2_iff.mp hpq
  have e1 : p.1 = p.2 := of_decide_eq_true hp
  have e2 : q.1 = q.2 := of_decide_eq_true hq
  omega
/-- the places, as they rise, that a look takes -/
def taken (c : Int → Bool) (i : Nat) : List Int := ((List.range i).map fun b : Nat => (b : Int)).filter c
theorem taken_succ {c : Int → Bool} {i : Nat} : taken c (i + 1) = taken c i ++ (if c i then [(i : Int)] else []) := by
  unfold taken
  rw [List.range_succ, List.map_append, List.filter_append]
  simp [List.filter_cons]
theorem taken_inc {c : Int → Bool} {i : Nat} : (taken c i).Pairwise (· < ·) := by
  refine List.Pairwise.filter _ (List.pairwise_map.mpr (List.pairwise_lt_range.imp fun h => by omega))
theorem mem_taken {c : Int → Bool} {i : Nat} {x : Int} : x ∈ taken c i ↔ (0 ≤ x ∧ x < i) ∧ c x = true := by
  unfold taken
  rw [List.mem_filter, List.mem_map]
  refine ⟨fun ⟨⟨b, hb, e⟩, h⟩ => ?_, fun ⟨h, hc⟩ => ⟨⟨x.toNat, List.mem_range.mpr (by omega), by omega⟩, hc⟩⟩
  have := List.mem_range.mp hb
  exact ⟨by omega, h⟩
end Wb

/-! A1: an abstract reading of code that draws: what kinds and bounds its results have. -/
namespace Wb
open PySem
inductive AV where
  | int (lo hi : Int)
  | ints
  | bl (b : Option Bool)
  | non
  | strs (xs : List Str)
  | tup (as : List AV)
  | tupO (es : List (Bool × AV))
  | seq (a : AV) (lo hi o : Nat)
  | alt (as : List AV)
/-- how the ints or pairs of a list stand: 0 nothing is said, 1 as they rise, 2 each once too -/
def ordB (o : Nat) (ds : List D) : Bool := match o with
  | 0 => true
  | 1 => match asPairs ds with
    | some ps => decide (srtP ps = ps)
    | none => match asInts ds with
      | some ns => decide (srtI ns = ns)
      | none => false
  | _ => match asPairs ds with
    | some ps => decide (srtP (dedup ps) = ps)
    | none => match asInts ds with
      | some ns => decide (srtI (dedup ns) = ns)
      | none => false
mutual
def mem : AV → D → Bool
  | .int lo hi, d => match d with
    | .int i => decide (lo ≤ i) && decide (i ≤ hi)
    | _ => false
  | .ints, d => match d with
    | .int _ => true
    | _ => false
  | .bl b, d => match d with
    | .bl c => match b with
      | none => true
      | some x => x == c
    | _ => false
  | .non, d => match d with
    | .non => true
    | _ => false
  | .strs xs, d => match d with
    | .str x => decide (x ∈ xs)
    | _ => false
  | .tup as, d => match d with
    | .tup ds => mems as ds
    | _ => false
  | .tupO es, d => match d with
    | .tup ds => memO es ds
    | _ => false
  | .seq a lo hi o, d => match d with
    | .tup ds => ds.all (mem a) && decide (lo ≤ ds.length) && decide (ds.length ≤ hi) && ordB o ds
    | _ => false
  | .alt as, d => memA as d
def mems : List AV → List D → Bool
  | [], ds => match ds with
    | [] => true
    | _ => false
  | a :: as, ds => match ds with
    | [] => false
    | d :: r => mem a d && mems as r
def memO : List (Bool × AV) → List D → Bool
  | [], ds => match ds with
    | [] => true
    | _ => false
  | (m, a) :: es, ds => (match ds with
    | [] => false
    | d :: r => mem a d && memO es r) || (!m && memO es ds)
def memA : List AV → D → Bool
  | [], _ => false
  | a :: as, d => mem a d || memA as d
end
/-- what a list holds -/
inductive Ct where
  | os (es : List (Bool × AV))
  | sm (a : AV) (lo hi o : Nat)
def Ct.ok : Ct → List D → Bool
  | .os es, ds => memO es ds
  | .sm a lo hi o, ds => ds.all (mem a) && decide (lo ≤ ds.length) && decide (ds.length ≤ hi) && ordB o ds
inductive XV where
  | fl (a : AV)
  | ls (c : Ct) (fr : Bool)
  | feed
abbrev AEnv := List (Option XV)
structure ASt where
  g : AEnv
  t : Nat
/-! ### joins -/
mutual
def AV.beq : AV → AV → Bool
  | .int a b, y => match y with
    | .int c d => decide (a = c) && decide (b = d)
    | _ => false
  | .ints, y => match y with
    | .ints => true
    | _ => false
  | .bl a, y => match y with
    | .bl b => decide (a = b)
    | _ => false
  | .non, y => match y with
    | .non => true
    | _ => false
  | .strs xs, y => match y with
    | .strs ys => decide (xs = ys)
    | _ => false
  | .tup xs, y => match y with
    | .tup ys => AV.beqs xs ys
    | _ => false
  | .tupO xs, y => match y with
    | .tupO ys => AV.beqo xs ys
    | _ => false
  | .seq a lo hi o, y => match y with
    | .seq b lo2 hi2 o2 => AV.beq a b && decide (lo = lo2) && decide (hi = hi2) && decide (o = o2)
    | _ => false
  | .alt xs, y => match y with
    | .alt ys => AV.beqs xs ys
    | _ => false
def AV.beqs : List AV → List AV → Bool
  | [], y => match y with
    | [] => true
    | _ => false
  | x :: xs, y => match y with
    | [] => false
    | y :: ys => AV.beq x y && AV.beqs xs ys
def AV.beqo : List (Bool × AV) → List (Bool × AV) → Bool
  | [], y => match y with
    | [] => true
    | _ => false
  | (m, x) :: xs, y => match y with
    | [] => false
    | (k, y) :: ys => decide (m = k) && AV.beq x y && AV.beqo xs ys
end
def AV.alts : AV → List AV
  | .alt xs => xs
  | a => [a]
/-- either of both -/
def joinA (a b : AV) : AV := if AV.beq a b then a else match a, b with
  | .int l h, .int l2 h2 => .int (min l l2) (max h h2)
  | .ints, .int _ _ => .ints
  | .int _ _, .ints => .ints
  | .bl _, .bl _ => .bl none
  | .strs xs, .strs ys => .strs (xs ++ ys)
  | .seq x l h o, .seq y l2 h2 o2 => if AV.beq x y then .seq x (min l l2) (max h h2) (min o o2) else .alt [a, b]
  | a, b => .alt (a.alts ++ b.alts)
def hull : List AV → Option AV
  | [] => none
  | [a] => some a
  | a :: r => match hull r with
    | some b => some (joinHull a b)
    | none => none
where
  joinHull (a b : AV) : AV := match a, b with
    | .tup xs, .tup ys => if xs.length = ys.length then .tup (List.zipWith joinA xs ys) else joinA a b
    | a, b => joinA a b
def musts : List (Bool × AV) → Nat
  | [] => 0
  | (m, _) :: r => (if m then 1 else 0) + musts r
def Ct.hull : Ct → Option AV
  | .os es => Wb.hull (es.map (·.2))
  | .sm a _ _ _ => some a
def Ct.lo : Ct → Nat
  | .os es => musts es
  | .sm _ lo _ _ => lo
def Ct.hi : Ct → Nat
  | .os es => es.length
  | .sm _ _ hi _ => hi
/-- said by hull and lengths alone -/
def Ct.sum : Ct → Ct
  | .os es => match Wb.hull (es.map (·.2)) with
    | some a => .sm a (musts es) es.length 0
    | none => .sm .non 0 0 0
  | .sm a lo hi o => .sm a lo hi o
def isPre : List (Bool × AV) → List (Bool × AV) → Option (List (Bool × AV))
  | [], ys => some ys
  | (m, x) :: xs, (k, y) :: ys => if decide (m = k) && AV.beq x y then isPre xs ys else none
  | _, _ => none
def optl (es : List (Bool × AV)) : List (Bool × AV) := es.map fun e => (false, e.2)
def joinC (c d : Ct) : Ct := match c, d with
  | .os xs, .os ys => match isPre xs ys with
    | some r => .os (xs ++ optl r)
    | none => match isPre ys xs with
      | some r => .os (ys ++ optl r)
      | none => if xs.length ≤ ys.length then (match isPre (optl xs) (optl ys) with
        | some r => .os (optl ys)
        | none => joinS (Ct.os xs).sum (Ct.os ys).sum) else joinS (Ct.os xs).sum (Ct.os ys).sum
  | c, d => joinS c.sum d.sum
where
  joinS : Ct → Ct → Ct
    | .sm a l h o, .sm b l2 h2 o2 => if h = 0 then .sm b (min l l2) h2 (if l2 = 0 then 0 else 0) else if h2 = 0 then .sm a (min l l2) h 0 else .sm (hull.joinHull a b) (min l l2) (max h h2) 0
    | c, _ => c
def joinX (x y : Option XV) : Option XV := match x, y with
  | some (.fl a), some (.fl b) => some (.fl (joinA a b))
  | some (.ls c f), some (.ls d g) => some (.ls (joinC c d) (f && g))
  | some .feed, some .feed => some .feed
  | _, _ => none
def joinG (g h : AEnv) : AEnv := List.zipWith joinX g h
/-! ### operations -/
def ofD : D → Option AV
  | .int i => some (.int i i)
  | .bl b => some (.bl (some b))
  | .non => some .non
  | .str x => some (.strs [x])
  | .tup [] => some (.tup [])
  | _ => none
def big : Int := 2 ^ 62
def inBig (l h : Int) : Bool := decide (-big < l) && decide (h < big)
def opA (o : Op) (x y : AV) : Option AV := match o, x, y with
  | .add, .int l h, .int l2 h2 => some (.int (l + l2) (h + h2))
  | .sub, .int l h, .int l2 h2 => some (.int (l - h2) (h - l2))
  | .mul, .int l h, .int l2 h2 => if inBig l h && decide (0 ≤ l) && decide (0 ≤ l2) then some (.int (l * l2) (h * h2)) else none
  | .mod, .int l h, .int l2 h2 => if decide (0 < l2) then (if decide (0 ≤ l) && decide (h < l2) then some (.int l h) else if decide (l = h) && decide (l2 = h2) then some (.int (l % l2) (l % l2)) else some (.int 0 (h2 - 1))) else none
  | .fdiv, .int l h, .int l2 h2 => if decide (l2 = h2) && decide (0 < l2) && decide (l2 < 1073741824) then some (.int (l / l2) (h / l2)) else none
  | .shl, .int l h, .int l2 h2 => if decide (l = h) && decide (0 ≤ l) && decide (l < 1000) && decide (l2 = h2) && decide (0 ≤ l2) && decide (l2 ≤ 100) then some (.int (l * 2 ^ l2.toNat) (l * 2 ^ l2.toNat)) else none
  | .shr, .int _ _, .int l2 _ => if decide (0 ≤ l2) then some .ints else none
  | .shr, .ints, .int l2 _ => if decide (0 ≤ l2) then some .ints else none
  | .band, .int _ _, .int _ _ => some .ints
  | .band, .ints, .int _ _ => some .ints
  | .band, .int _ _, .ints => some .ints
  | .add, .seq a l h _, .seq b l2 h2 _ => if h + h2 ≤ 1000 then some (.seq (if h = 0 then b else if h2 = 0 then a else hull.joinHull a b) (l + l2) (h + h2) 0) else none
  | .add, .tup xs, .tup ys => if xs.length + ys.length ≤ 1000 then some (.tup (xs ++ ys)) else none
  | .add, .tupO xs, .tupO ys => if xs.length + ys.length ≤ 1000 then some (.tupO (xs ++ ys)) else none
  | .add, .tupO xs, .tup ys => if xs.length + ys.length ≤ 1000 then some (.tupO (xs ++ ys.map fun y => (true, y))) else none
  | _, _, _ => none
/-- deep enough to be compared -/
def dpA : Nat → AV → Bool
  | 0, _ => false
  | n + 1, a => match a with
    | .tup as => as.all (dpA n)
    | .tupO es => es.all fun e => dpA n e.2
    | .seq a _ _ _ => dpA n a
    | .alt as => as.all (dpA n)
    | .strs xs => xs.all fun x => PyData.canLay0 (.str x)
    | _ => true
def oneInt : AV → Option Int
  | .int l h => if l = h then some l else none
  | _ => none
def cpA (c : Cp) (x y : AV) : Option (Option Bool) := match c, x, y with
  | .lt, .int l h, .int l2 h2 => some (if h < l2 then some true else if h2 ≤ l then some false else none)
  | .gt, .int l h, .int l2 h2 => some (if h2 < l then some true else if h ≤ l2 then some false else none)
  | .le, .int l h, .int l2 h2 => some (if h ≤ l2 then some true else if h2 < l then some false else none)
  | .ge, .int l h, .int l2 h2 => some (if h2 ≤ l then some true else if h < l2 then some false else none)
  | .eq, .int l h, .int l2 h2 => some (if l = h ∧ l2 = h2 ∧ l = l2 then some true else if h < l2 ∨ h2 < l then some false else none)
  | .ne, .int l h, .int l2 h2 => some (if l = h ∧ l2 = h2 ∧ l = l2 then some false else if h < l2 ∨ h2 < l then some true else none)
  | .lt, .ints, .int _ _ => some none
  | .lt, .int _ _, .ints => some none
  | .gt, .ints, .int _ _ => some none
  | .le, .ints, .int _ _ => some none
  | .ge, .ints, .int _ _ => some none
  | .eq, a, b => if dpA 20 a && dpA 20 b then some none else none
  | .ne, a, b => if dpA 20 a && dpA 20 b then some none else none
  | .isin, a, .seq b l h o => if dpA 20 a && dpA 20 (.seq b l h o) then some none else none
  | .notin, a, .seq b l h o => if dpA 20 a && dpA 20 (.seq b l h o) then some none else none
  | .isin, a, .tupO es => if dpA 20 a && dpA 20 (.tupO es) then some none else none
  | .notin, a, .tupO es => if dpA 20 a && dpA 20 (.tupO es) then some none else none
  | .isin, .int l h, .tup es => if l = h then (match allOne es with
      | some ns => some (some (decide (l ∈ ns)))
      | none => if dpA 20 (.tup es) then some none else none) else if dpA 20 (.tup es) then some none else none
  | .isin, a, .tup es => if dpA 20 a && dpA 20 (.tup es) then some none else none
  | .notin, a, .tup es => if dpA 20 a && dpA 20 (.tup es) then some none else none
  | _, _, _ => none
where
  allOne : List AV → Option (List Int)
    | [] => some []
    | a :: r => match oneInt a, allOne r with
      | some i, some is => some (i :: is)
      | _, _ => none
/-- what stands at a place -/
def ixA (x : AV) (l h : Int) : Option AV := match x with
  | .tup as => if decide (0 ≤ l) && decide (h < as.length) then hull ((as.drop l.toNat).take (h - l + 1).toNat) else none
  | .seq a lo _ _ => if decide (0 ≤ l) && decide (h < lo) then some a else if decide (l = -1) && decide (h = -1) && decide (0 < lo) then some a else none
  | .tupO es => if decide (0 ≤ l) && decide (h < (musts es : Nat)) || (decide (l = -1) && decide (h = -1) && decide (0 < musts es)) then hull (es.map (·.2)) else none
  | _ => none
def ixC (c : Ct) (l h : Int) : Option AV := match c with
  | .os es => if es.all (·.1) then ixA (.tup (es.map (·.2))) l h else ixA (.tupO es) l h
  | .sm a lo hi o => ixA (.seq a lo hi o) l h
/-- a tuple's things -/
def ctOf : AV → Option Ct
  | .tup as => some (.os (as.map fun a => (true, a)))
  | .tupO es => some (.os es)
  | .seq a lo hi o => some (.sm a lo hi o)
  | _ => none
def tupOf : Ct → AV
  | .os es => if es.all (·.1) then .tup (es.map (·.2)) else .tupO es
  | .sm a lo hi o => .seq a lo hi o
def lenA : AV → Option (Int × Int)
  | .tup as => some (as.length, as.length)
  | .tupO es => some ((musts es : Nat), es.length)
  | .seq _ lo hi _ => some (lo, hi)
  | .strs [x] => if small x.length then some (x.length, x.length) else none
  | _ => none
def bltA (b : B) (xs : List AV) : Option AV := match b, xs with
  | .len, [a] => (lenA a).map fun p => .int p.1 p.2
  | .int, [.bl b] => some (match b with
    | some true => .int 1 1
    | some false => .int 0 0
    | none => .int 0 1)
  | .int, [.int l h] => some (.int l h)
  | .min2, [.int l h, .int l2 h2] => some (.int (min l l2) (min h h2))
  | .max2, [.int l h, .int l2 h2] => some (.int (max l l2) (max h h2))
  | _, _ => none
def cutC (c : Ct) (lo hi : Option (Int × Int)) : Option Ct := match lo, hi with
  | none, none => some c
  | none, some (l, h) => if decide (0 ≤ l) then (match c.hull with
    | some a => some (.sm a 0 (min c.hi h.toNat) 0)
    | none => some (.os [])) else (match c.hull with
    | some a => some (.sm a 0 c.hi 0)
    | none => some (.os []))
  | some _, _ => match c.hull with
    | some a => some (.sm a 0 c.hi 0)
    | none => some (.os [])
/-- an int of bounds -/
def asI : AV → Option (Int × Int)
  | .int l h => some (l, h)
  | _ => none
def rngC (l h l2 h2 : Int) : Option Ct :=
  if decide (-100000 ≤ l) && decide (h ≤ 100000) && decide (-100000 ≤ l2) && decide (h2 ≤ 100000) then
    if decide (l = h) && decide (l2 = h2) && decide (l2 - l ≤ 100) then some (.os ((List.range (l2 - l).toNat).map fun i => (true, .int (l + (i : Nat)) (l + (i : Nat)))))
    else some (.sm (.int l (h2 - 1)) (l2 - h).toNat (h2 - l).toNat 0)
  else none
def pairB : AV → Bool
  | .tup [.int l h, .int l2 h2] => decide (0 ≤ l) && decide (h < 1000000) && decide (0 ≤ l2) && decide (h2 < 1000000)
  | _ => false
def pairA : AV → Bool
  | .tup [.int _ _, .int _ _] => true
  | _ => false
def intA : AV → Bool
  | .int _ _ => true
  | _ => false
def sortSetC (c : Ct) : Option Ct := match c.sum with
  | .sm a lo hi _ => if hi = 0 then some (.os []) else if (pairB a || intA a) && decide (hi < 64) then some (.sm a (if lo = 0 then 0 else 1) hi 2) else none
  | _ => none
def sortC (c : Ct) : Option Ct := match c.sum with
  | .sm a lo hi _ => if hi = 0 then some (.os []) else if pairA a || intA a then some (.sm a lo hi 1) else none
  | _ => none
def catC (c d : Ct) : Option Ct := match c, d with
  | .os xs, .os ys => if xs.length + ys.length ≤ 1000 then some (.os (xs ++ ys)) else none
  | c, d => match c.sum, d.sum with
    | .sm a l h _, .sm b l2 h2 _ => if h + h2 ≤ 1000 then some (.sm (if h = 0 then b else if h2 = 0 then a else hull.joinHull a b) (l + l2) (h + h2) 0) else none
    | _, _ => none
def repC (c : Ct) (l h : Int) : Option Ct := if decide (0 ≤ l) && decide (h ≤ 60) && decide (c.hi ≤ 60) then (match c with
  | .os es => if l = h then some (.os (List.replicate l.toNat es).flatten) else if decide (l = 0) && decide (h = 1) then some (.os (optl es)) else (match (Ct.os es).sum with
    | .sm a lo hi _ => some (.sm a (lo * l.toNat) (hi * h.toNat) 0)
    | _ => none)
  | .sm a lo hi _ => some (.sm a (lo * l.toNat) (hi * h.toNat) 0)) else none
mutual
/-- 0: the store stays; 1: a draw, new things; 2: a name's list is written -/
def effE : E → Nat
  | .var _ => 0
  | .lit _ => 0
  | .tup es => effEs es
  | .op _ a b => max (effE a) (effE b)
  | .cp _ a b => max (effE a) (effE b)
  | .cpL _ a b => max (effL a) (effL b)
  | .chain _ _ a b c => max (effE a) (max (effE b) (effE c))
  | .neg a => effE a
  | .rev a => max 1 (effE a)
  | .not a => effE a
  | .and a b => max (effE a) (effE b)
  | .or a b => max (effE a) (effE b)
  | .ite c a b => max (effE c) (max (effE a) (effE b))
  | .ix a i => max (effE a) (effE i)
  | .sl a lo hi => max 1 (max (effE a) (max (effO lo) (effO hi)))
  | .call _ es => max 1 (effEs es)
  | .blt _ es => effEs es
  | .con _ l => effL l
  | .tupRng a b => max (effE a) (effE b)
  | .newL l => max 1 (effL l)
  | _ => 2
def effEs : List E → Nat
  | [] => 0
  | e :: es => max (effE e) (effEs es)
def effO : Option E → Nat
  | none => 0
  | some e => effE e
def effL : Ls → Nat
  | .of e => effE e
  | .ofl e => effE e
  | .disp es => effEs es
  | .comp _ _ it c e => max (effIt it) (max (effO c) (effE e))
  | .list l => effL l
  | .rng a b => max (effE a) (effE b)
  | .sorted l => effL l
  | .sortedSet l => effL l
  | .cat a b => max (effL a) (effL b)
  | .rep a n => max (effL a) (effE n)
  | .sl a lo hi => max (effE a) (max (effO lo) (effO hi))
def effIt : It → Nat
  | .of e => effE e
  | .ofL l => effL l
  | .rng a b => max (effE a) (effE b)
  | _ => 2
end
/-- what was read ahead of it stands behind it -/
def heldA (a : Ls) (k : Nat) : Bool := decide (a.kd = 2) || decide (k = 0)
end Wb

/-! A2: the abstract reading. -/
namespace Wb
open PySem
def Ct.beq : Ct → Ct → Bool
  | .os a, .os b => AV.beqo a b
  | .sm a l h o, .sm b l2 h2 o2 => AV.beq a b && decide (l = l2) && decide (h = h2) && decide (o = o2)
  | _, _ => false
def XV.beq : XV → XV → Bool
  | .fl a, .fl b => AV.beq a b
  | .ls c f, .ls d g => c.beq d && decide (f = g)
  | .feed, .feed => true
  | _, _ => false
def oBeq : Option XV → Option XV → Bool
  | none, none => true
  | some a, some b => XV.beq a b
  | _, _ => false
def gBeq : AEnv → AEnv → Bool
  | [], [] => true
  | a :: r, b :: t => oBeq a b && gBeq r t
  | _, _ => false
def aVar (g : AEnv) (i : Nat) : Option XV := match g[i]? with
  | some (some x) => some (match x with
    | .ls c _ => .ls c false
    | x => x)
  | _ => none
def flat : XV → Option AV
  | .fl a => some a
  | _ => none
def flats : List XV → Option (List AV)
  | [] => some []
  | x :: r => match flat x, flats r with
    | some a, some b => some (a :: b)
    | _, _ => none
def fresh : List XV → Option (List Ct)
  | [] => some []
  | .ls c true :: r => match fresh r with
    | some b => some (c :: b)
    | none => none
  | _ :: _ => none
def joinCs : List Ct → Option Ct
  | [] => none
  | [c] => some c
  | c :: r => match joinCs r with
    | some d => some (joinC c d)
    | none => none
/-- a map over what it may be -/
def overA (f : AV → Option AV) : AV → Option AV
  | .alt as => match mapO f as with
    | some bs => hull bs
    | none => none
  | a => f a
def over2 (f : AV → AV → Option AV) (x y : AV) : Option AV := overA (fun a => overA (fun b => f a b) y) x
def joinB : Option (Option Bool) → Option (Option Bool) → Option (Option Bool)
  | some a, some b => some (if a = b then a else none)
  | _, _ => none
def cpAs (c : Cp) (x : AV) : List AV → Option (Option Bool)
  | [] => none
  | [y] => cpA c x y
  | y :: r => joinB (cpA c x y) (cpAs c x r)
def cpAA (c : Cp) : List AV → AV → Option (Option Bool)
  | [], _ => none
  | [x], y => cpAs c x y.alts
  | x :: r, y => joinB (cpAs c x y.alts) (cpAA c r y)
def lim : Nat := 1000000
def okArg : XV → Bool
  | .ls _ f => f
  | _ => true
/-- the comprehension's slots behind it -/
def backG (g g' : AEnv) (own : List Nat) : AEnv := (List.range g.length).map fun i => if own.contains i then (match g[i]? with
  | some (some (.fl a)) => some (.fl a)
  | some (some .feed) => some .feed
  | _ => none) else (match g'[i]? with
  | some x => x
  | none => none)
def wipeG (g : AEnv) : List Nat → AEnv
  | [] => g
  | v :: vs => (wipeG g vs).set v none
mutual
def aTg : T → AV → AEnv → Option AEnv
  | .name i, a, g => some (g.set i (some (.fl a)))
  | .tup ts, a, g => match a with
    | .tup as => if as.length = ts.length then aTgs ts as g else none
    | _ => none
  | .sub _ _, _, _ => none
def aTgs : List T → List AV → AEnv → Option AEnv
  | [], _, g => some g
  | t :: ts, as, g => match as with
    | [] => none
    | a :: as => match aTg t a g with
      | some g1 => aTgs ts as g1
      | none => none
end
/-- of all that it may be, in one -/
def flatten : AV → AV
  | .alt as => match hull as with
    | some a => a
    | none => .alt as
  | .seq a lo hi o => if lo = hi ∧ lo ≤ 10 then .tup (List.replicate lo a) else .seq a lo hi o
  | a => a
def optC (es : List (Bool × AV)) (o : Option (Bool × AV)) : List (Bool × AV) := match o with
  | some e => es ++ [e]
  | none => es
def optF (acc : List (Bool × AV)) (o : Option (Bool × AV)) : List (Bool × AV) := match o with
  | some e => acc ++ [(false, e.2)]
  | none => acc
def tgA (t : T) (a : AV) : AV := match t with
  | .tup _ => flatten a
  | _ => a
structure AOut where
  rts : List XV
  nx : List AEnv
  t : Nat
def truthA : AV → Option (Option Bool)
  | .bl b => some b
  | .int l h => some (if 0 < l ∨ h < 0 then some true else if l = 0 ∧ h = 0 then some false else none)
  | .non => some (some false)
  | _ => none
def notB : Option Bool → Option Bool
  | some b => some (!b)
  | none => none
def ASt.join (a b : ASt) : ASt := ⟨joinG a.g b.g, max a.t b.t⟩
def joinO : Option ASt → Option ASt → Option ASt
  | some a, some b => some (a.join b)
  | some a, none => some a
  | none, b => b
/-- the state of either answer -/
abbrev TF := Option ASt × Option ASt
def tfOf (b : Option Bool) (st : ASt) : TF := match b with
  | some true => (some st, none)
  | some false => (none, some st)
  | none => (some st, some st)
/-- a list's content that holds something -/
def someC (c : Ct) : Ct := match c.sum with
  | .sm a lo hi o => .sm a (max lo 1) hi o
  | c => c
/-- the bounds where it is so, and where it is not -/
def bnd (l h : Int) : Option (Int × Int) := if l ≤ h then some (l, h) else none
def refI (o : Cp) (k l h : Int) : Option (Option (Int × Int) × Option (Int × Int)) := match o with
  | .lt => some (bnd l (min h (k - 1)), bnd (max l k) h)
  | .le => some (bnd l (min h k), bnd (max l (k + 1)) h)
  | .gt => some (bnd (max l (k + 1)) h, bnd l (min h k))
  | .ge => some (bnd (max l k) h, bnd l (min h (k - 1)))
  | .eq => some (bnd (max l k) (min h k), if l = k then bnd (l + 1) h else if h = k then bnd l (h - 1) else some (l, h))
  | .ne => some (if l = k then bnd (l + 1) h else if h = k then bnd l (h - 1) else some (l, h), bnd (max l k) (min h k))
  | _ => none
def setI (st : ASt) (i : Nat) : Option (Int × Int) → Option ASt
  | some (l, h) => some ⟨st.g.set i (some (.fl (.int l h))), st.t⟩
  | none => none
def eqNil (neg : Bool) (c : Ct) : Option Bool := if 0 < c.lo then some neg else if c.hi = 0 then some (!neg) else none
section
variable (DR : Nat) (cl : Nat → List XV → Option (XV × Nat))
/-- one round of a comprehension -/
def compStep (aT' : Option E → ASt → Option TF) (aE' : E → ASt → Option (XV × ASt)) (own : List Nat) (t : T) (c : Option E) (e : E) (a : AV) (st : ASt) : Option (Option (Bool × AV) × ASt) :=
  if (t.ids.all fun j => own.contains j) = false then none else match aTg t (tgA t a) (wipeG st.g own) with
  | none => none
  | some g1 => match aT' c ⟨g1, st.t⟩ with
    | none => none
    | some (none, none) => none
    | some (none, some st2) => some (none, ⟨backG st.g st2.g own, st2.t⟩)
    | some (some st2, fo) => match aE' e st2 with
      | some (.fl v, st3) => match fo with
        | none => some (some (true, v), ⟨backG st.g st3.g own, st3.t⟩)
        | some st4 => some (some (false, v), ⟨joinG (backG st.g st4.g own) (backG st.g st3.g own), max st4.t st3.t⟩)
      | _ => none
def compAll (step : AV → ASt → Option (Option (Bool × AV) × ASt)) : List (Bool × AV) → List (Bool × AV) → ASt → Option (List (Bool × AV) × ASt)
  | [], acc, st => some (acc, st)
  | (m, a) :: es, acc, st => match step a st with
    | none => none
    | some (o, st1) => if m then compAll step es (optC acc o) st1 else compAll step es (optF acc o) ⟨joinG st.g st1.g, max st.t st1.t⟩
mutual
def aE : Nat → E → ASt → Option (XV × ASt)
  | 0, _, _ => none
  | n + 1, e, st => match e with
    | .var i => (aVar st.g i).map fun x => (x, st)
    | .lit d => (ofD d).map fun a => (.fl a, st)
    | .tup es => match aEs n es st with
      | some (xs, st1) => match flats xs with
        | some as => if as.length ≤ 1000 then some (.fl (.tup as), st1) else none
        | none => none
      | none => none
    | .op o a b => match aE n a st with
      | some (.fl x, st1) => match aE n b st1 with
        | some (.fl y, st2) => (over2 (opA o) x y).map fun z => (.fl z, st2)
        | _ => none
      | _ => none
    | .cp .isin a b => aIn n .isin a b st
    | .cp .notin a b => aIn n .notin a b st
    | .cp o a b => match aE n a st with
      | some (.fl x, st1) => match aE n b st1 with
        | some (.fl y, st2) => (cpAA o x.alts y).map fun z => (.fl (.bl z), st2)
        | _ => none
      | _ => none
    | .cpL neg a (.disp []) => match aL n a st with
      | some (c, st1) => match c.hull with
        | some h => if dpA 20 h then some (.fl (.bl (eqNil neg c)), st1) else none
        | none => some (.fl (.bl (eqNil neg c)), st1)
      | none => none
    | .not a => match aE n a st with
      | some (.fl (.bl b), st1) => some (.fl (.bl (notB b)), st1)
      | _ => none
    | .neg a => match aE n a st with
      | some (.fl (.int l h), st1) => some (.fl (.int (-h) (-l)), st1)
      | _ => none
    | .rev a => match aE n a st with
      | some (.fl (.tup as), st1) => some (.fl (.tup as.reverse), st1)
      | _ => none
    | .ite c a b => match aT n c st with
      | none => none
      | some (none, none) => none
      | some (some st1, none) => aE n a st1
      | some (none, some st1) => aE n b st1
      | some (some st1, some st4) => match aE n a st1, aE n b st4 with
        | some (.fl x, st2), some (.fl y, st3) => some (.fl (joinA x y), st2.join st3)
        | _, _ => none
    | .ix (.newL (.disp es)) i => match aEs n es st with
      | some (xs, st1) => match aE n i st1 with
        | some (.fl (.int l h), st2) => match flats xs with
          | some as => if as.length ≤ 1000 then (ixA (.tup as) l h).map fun z => (.fl z, st2) else none
          | none => match fresh xs with
            | some cs => if decide (0 ≤ l) && decide (h < cs.length) && decide (cs.length ≤ 1000) then (joinCs ((cs.drop l.toNat).take (h - l + 1).toNat)).map fun c => (.ls c true, st2) else none
            | none => none
        | _ => none
      | none => none
    | .ix (.var i) (.call f [.var j, .blt .len [.var k]]) => if f = DR ∧ i = k then (match aVar st.g j, aVar st.g i with
        | some .feed, some (.ls c _) => if decide (0 < c.lo) && decide (c.hi < 1000000) && decide (st.t < lim) then c.hull.map fun a => (.fl a, ⟨st.g, st.t + 1⟩) else none
        | some .feed, some (.fl x) => match ctOf (flatten x) with
          | some c => if decide (0 < c.lo) && decide (c.hi < 1000000) && decide (st.t < lim) then c.hull.map fun a => (.fl a, ⟨st.g, st.t + 1⟩) else none
          | none => none
        | _, _ => none) else none
    | .ix a i => match aE n a st with
      | some (.fl x, st1) => match aE n i st1 with
        | some (.fl (.int l h), st2) => (overA (fun x => ixA x l h) x).map fun z => (.fl z, st2)
        | _ => none
      | some (.ls c f, st1) => match aE n i st1 with
        | some (.fl (.int l h), st2) => if f then none else match a with
          | .var j => match aVar st2.g j with
            | some (.ls c2 _) => (ixC c2 l h).map fun z => (.fl z, st2)
            | _ => none
          | _ => none
        | _ => none
      | _ => none
    | .sl a lo hi => match aE n a st with
      | some (.fl x, st1) => match aO n lo st1 with
        | some (l, st2) => match aO n hi st2 with
          | some (h, st3) => match ctOf (flatten x) with
            | some c => (cutC c l h).map fun c => (.fl (tupOf c), st3)
            | none => none
          | none => none
        | none => none
      | some (.ls c f, st1) => if f || decide (max (effO lo) (effO hi) ≤ 1) then (match aO n lo st1 with
        | some (l, st2) => match aO n hi st2 with
          | some (h, st3) => (cutC c l h).map fun c => (.ls c true, st3)
          | none => none
        | none => none) else none
      | _ => none
    | .call f es => if f = DR then (match es with
      | [a, m] => match aE n a st with
        | some (.feed, st1) => match aE n m st1 with
          | some (.fl (.int l h), st2) => if decide (0 < l) && decide (h < 1000000) && decide (st2.t < lim) then some (.fl (.int 0 (h - 1)), ⟨st2.g, st2.t + 1⟩) else none
          | _ => none
        | _ => none
      | _ => none)
      else match aEs n es st with
        | some (xs, st1) => if xs.all (fun x => match x with | .ls _ _ => false | _ => true) && decide (st1.t < lim) then (match cl f xs with
          | some (x, t) => some (x, ⟨st1.g, st1.t + t⟩)
          | none => none) else none
        | none => none
    | .blt .len [.var i] => match aVar st.g i with
      | some (.ls c _) => some (.fl (.int (c.lo : Nat) (c.hi : Nat)), st)
      | some (.fl x) => (overA (fun x => bltA .len [x]) x).map fun z => (.fl z, st)
      | _ => none
    | .blt b es => match aEs n es st with
      | some (xs, st1) => match flats xs with
        | some [x] => (overA (fun x => bltA b [x]) x).map fun z => (.fl z, st1)
        | some [x, y] => (over2 (fun x y => bltA b [x, y]) x y).map fun z => (.fl z, st1)
        | _ => none
      | none => none
    | .con .tup l => match aL n l st with
      | some (c, st1) => some (.fl (tupOf c), st1)
      | none => none
    | .con .len l => match aL n l st with
      | some (c, st1) => some (.fl (.int (c.lo : Nat) (c.hi : Nat)), st1)
      | none => none
    | .tupRng a b => match aE n a st with
      | some (.fl (.int l h), st1) => match aE n b st1 with
        | some (.fl (.int l2 h2), st2) => (rngC l h l2 h2).map fun c => (.fl (tupOf c), st2)
        | _ => none
      | _ => none
    | .newL l => match aL n l st with
      | some (c, st1) => some (.ls c true, st1)
      | none => none
    | .meth .append (.var i) [e] => match aVar st.g i with
      | some (.ls _ _) => match aE n e st with
        | some (.fl x, st1) => match aVar st1.g i with
          | some (.ls c _) => if c.hi ≤ 5000 then some (.fl .non, ⟨st1.g.set i (some (.ls (match c with
            | .os es => .os (es ++ [(true, x)])
            | .sm a lo hi _ => .sm (if hi = 0 then x else hull.joinHull a x) (lo + 1) (hi + 1) 0) false)), st1.t⟩) else none
          | _ => none
        | _ => none
      | _ => none
    | .meth .popAt (.var i) [.call f [.var j, .blt .len [.var k]]] => if f = DR ∧ i = k then (match aVar st.g j, aVar st.g i with
        | some .feed, some (.ls c _) => match c.sum with
          | .sm a lo hi _ => if decide (0 < lo) && decide (hi ≤ 5000) && decide (st.t < lim) then some (.fl a, ⟨st.g.set i (some (.ls (.sm a (lo - 1) (hi - 1) 0) false)), st.t + 1⟩) else none
          | _ => none
        | _, _ => none) else none
    | .meth .popAt (.var i) [e] => match aVar st.g i with
      | some (.ls _ _) => match aE n e st with
        | some (.fl (.int l h), st1) => match aVar st1.g i with
          | some (.ls c _) => match c.sum with
            | .sm a lo hi _ => if decide (0 ≤ l) && decide (h < (lo : Nat)) && decide (hi ≤ 5000) then some (.fl a, ⟨st1.g.set i (some (.ls (.sm a (lo - 1) (hi - 1) 0) false)), st1.t⟩) else none
            | _ => none
          | _ => none
        | _ => none
      | _ => none
    | .ext (.var i) l => match aVar st.g i with
      | some (.ls _ _) => match aL n l st with
        | some (d, st1) => match aVar st1.g i with
          | some (.ls c _) => if c.hi ≤ 5000 then (catC c d).map fun c => (.fl .non, ⟨st1.g.set i (some (.ls c false)), st1.t⟩) else none
          | _ => none
        | none => none
      | _ => none
    | _ => none
def aIn : Nat → Cp → E → E → ASt → Option (XV × ASt)
  | 0, _, _, _, _ => none
  | n + 1, o, a, b, st => match aE n a st with
    | some (.fl x, st1) => match aE n b st1 with
      | some (.fl y, st2) => (cpAA o x.alts y).map fun z => (.fl (.bl z), st2)
      | some (.ls c _, st2) => match c.hull with
        | some h => if dpA 20 x && dpA 20 h then some (.fl (.bl none), st2) else none
        | none => if dpA 20 x then some (.fl (.bl none), st2) else none
      | _ => none
    | _ => none
def aEs : Nat → List E → ASt → Option (List XV × ASt)
  | 0, _, _ => none
  | n + 1, es, st => match es with
    | [] => some ([], st)
    | e :: es => match aE n e st with
      | some (x, st1) => match aEs n es st1 with
        | some (xs, st2) => if okArg x then some (x :: xs, st2) else none
        | none => none
      | none => none
def aO : Nat → Option E → ASt → Option (Option (Int × Int) × ASt)
  | 0, _, _ => none
  | n + 1, e, st => match e with
    | none => some (none, st)
    | some e => match aE n e st with
      | some (.fl (.int l h), st1) => some (some (l, h), st1)
      | _ => none
def aT : Nat → E → ASt → Option TF
  | 0, _, _ => none
  | n + 1, e, st => match e with
    | .not a => match aT n a st with
      | some (x, y) => some (y, x)
      | none => none
    | .and a b => match aT n a st with
      | none => none
      | some (none, f) => some (none, f)
      | some (some st1, f) => match aT n b st1 with
        | some (x, y) => some (x, joinO f y)
        | none => none
    | .or a b => match aT n a st with
      | none => none
      | some (x, none) => some (x, none)
      | some (x, some st1) => match aT n b st1 with
        | some (z, y) => some (joinO x z, y)
        | none => none
    | .cp o (.var i) (.lit (.int k)) => match aVar st.g i with
      | some (.fl (.int l h)) => match refI o k l h with
        | some (x, y) => some (setI st i x, setI st i y)
        | none => none
      | _ => match aE n (.cp o (.var i) (.lit (.int k))) st with
        | some (.fl (.bl b), st1) => some (tfOf b st1)
        | _ => none
    | .cp o a b => match aE n (.cp o a b) st with
      | some (.fl (.bl b), st1) => some (tfOf b st1)
      | _ => none
    | .cpL neg (.ofl (.var i)) (.disp []) => match aVar st.g i with
      | some (.ls c _) => match c.hull with
        | some h => if dpA 20 h then (match eqNil true c with
          | none => some (if neg then (some ⟨st.g.set i (some (.ls (someC c) false)), st.t⟩, some st) else (some st, some ⟨st.g.set i (some (.ls (someC c) false)), st.t⟩))
          | some b => some (tfOf (some (if neg then b else !b)) st)) else none
        | none => some (tfOf (some (!neg)) st)
      | _ => none
    | .cpL o a b => match aE n (.cpL o a b) st with
      | some (.fl (.bl b), st1) => some (tfOf b st1)
      | _ => none
    | .var i => match aVar st.g i with
      | some (.fl (.bl b)) => some (tfOf b st)
      | some (.fl (.int l h)) => (truthA (.int l h)).map fun b => tfOf b st
      | _ => none
    | _ => none
def aL : Nat → Ls → ASt → Option (Ct × ASt)
  | 0, _, _ => none
  | n + 1, l, st => match l with
    | .of e => match aE n e st with
      | some (.fl a, st1) => (ctOf (flatten a)).map fun c => (c, st1)
      | some (.ls c _, st1) => some (c, st1)
      | _ => none
    | .ofl e => match aE n e st with
      | some (.ls c _, st1) => some (c, st1)
      | _ => none
    | .disp es => match aEs n es st with
      | some (xs, st1) => match flats xs with
        | some as => if as.length ≤ 1000 then some (.os (as.map fun a => (true, a)), st1) else none
        | none => none
      | none => none
    | .comp own t it c e => match aIt n it st with
      | some (.os es, gd, st1) => if decide (es.length ≤ 1000) && (!gd || decide (max (effO c) (effE e) ≤ 1)) then (match compAll (compStep (aC n) (aE n) own t c e) es [] st1 with
        | some (r, st2) => some (.os r, st2)
        | none => none) else none
      | some (.sm a lo hi _, gd, st1) => if decide (hi ≤ 1000) && decide (st1.t < lim) && (!gd || decide (max (effO c) (effE e) ≤ 1)) then (match compStep (aC n) (aE n) own t c e a ⟨st1.g, 0⟩ with
        | some (some (m, v), st2) => if gBeq st2.g st1.g && decide (hi * st2.t < lim) then some (.sm v (if m then lo else 0) hi 0, ⟨st1.g, st1.t + hi * st2.t⟩) else (match compStep (aC n) (aE n) own t c e a ⟨joinG st1.g st2.g, 0⟩ with
          | some (some (m, v), st3) => if gBeq st3.g (joinG st1.g st2.g) && decide (hi * st3.t < lim) then some (.sm v (if m then lo else 0) hi 0, ⟨joinG st1.g st2.g, st1.t + hi * st3.t⟩) else none
          | _ => none)
        | _ => if hi ≤ 40 then (match compAll (compStep (aC n) (aE n) own t c e) (List.replicate hi (false, a)) [] st1 with
          | some (r, st2) => some (.os r, st2)
          | none => none) else none) else none
      | none => none
    | .list l => aL n l st
    | .rng a b => match aE n a st with
      | some (.fl (.int l h), st1) => match aE n b st1 with
        | some (.fl (.int l2 h2), st2) => (rngC l h l2 h2).map fun c => (c, st2)
        | _ => none
      | _ => none
    | .sorted l => match aL n l st with
      | some (c, st1) => (sortC c).map fun c => (c, st1)
      | none => none
    | .sortedSet l => match aL n l st with
      | some (c, st1) => (sortSetC c).map fun c => (c, st1)
      | none => none
    | .cat a b => match aL n a st with
      | some (c, st1) => match aL n b st1 with
        | some (d, st2) => if heldA a (effL b) then (catC c d).map fun c => (c, st2) else none
        | none => none
      | none => none
    | .rep a m => match aL n a st with
      | some (c, st1) => match aE n m st1 with
        | some (.fl (.int l h), st2) => if heldA a (effE m) then (repC c l h).map fun c => (c, st2) else none
        | _ => none
      | none => none
    | .sl a lo hi => match aE n a st with
      | some (.fl x, st1) => match aO n lo st1 with
        | some (l, st2) => match aO n hi st2 with
          | some (h, st3) => match ctOf (flatten x) with
            | some c => (cutC c l h).map fun c => (c, st3)
            | none => none
          | none => none
        | none => none
      | some (.ls c f, st1) => if f || decide (max (effO lo) (effO hi) ≤ 1) then (match aO n lo st1 with
        | some (l, st2) => match aO n hi st2 with
          | some (h, st3) => (cutC c l h).map fun c => (c, st3)
          | none => none
        | none => none) else none
      | _ => none
def aIt : Nat → It → ASt → Option (Ct × Bool × ASt)
  | 0, _, _ => none
  | n + 1, it, st => match it with
    | .of e => match aE n e st with
      | some (.fl a, st1) => (ctOf (flatten a)).map fun c => (c, false, st1)
      | some (.ls c _, st1) => some (c, true, st1)
      | _ => none
    | .ofL l => match aL n l st with
      | some (c, st1) => some (c, false, st1)
      | none => none
    | .rng a b => match aE n a st with
      | some (.fl (.int l h), st1) => match aE n b st1 with
        | some (.fl (.int l2 h2), st2) => (rngC l h l2 h2).map fun c => (c, false, st2)
        | _ => none
      | _ => none
    | _ => none
def aC : Nat → Option E → ASt → Option TF
  | 0, _, _ => none
  | n + 1, e, st => match e with
    | none => some (some st, none)
    | some e => aT n e st
end
variable (sp : List Nat)
def intAs (l : Int) : Nat → List AV
  | 0 => []
  | n + 1 => .int l l :: intAs (l + 1) n
def splitAt (g : AEnv) (i : Nat) : List AEnv := match g[i]? with
  | some (some (.fl (.int l h))) => if l < h ∧ h - l ≤ 70 then (intAs l (h - l + 1).toNat).map fun a => g.set i (some (.fl a)) else [g]
  | some (some (.fl (.alt as))) => as.map fun a => g.set i (some (.fl a))
  | _ => [g]
def splitG (g : AEnv) : List Nat → List AEnv
  | [] => [g]
  | i :: is => (splitAt g i).flatMap fun g => splitG g is
def joinGs : List AEnv → List AEnv
  | [] => []
  | g :: gs => [gs.foldl joinG g]
def AOut.plus (a b : AOut) : AOut := ⟨a.rts ++ b.rts, a.nx ++ b.nx, max a.t b.t⟩
def stored : XV → Option XV
  | .fl a => some (.fl a)
  | .ls c true => some (.ls c false)
  | _ => none
def given : XV → Option XV
  | .fl a => some (.fl a)
  | .ls c _ => some (.ls c true)
  | _ => none
/-- for each of the ways so far -/
def eachG (f : AEnv → Nat → Option AOut) (t : Nat) : List AEnv → Option AOut
  | [] => some ⟨[], [], t⟩
  | g :: gs => match f g t, eachG f t gs with
    | some a, some b => some (a.plus b)
    | _, _ => none
def forAll (body : AV → AEnv → Nat → Option AOut) : List (Bool × AV) → AEnv → Nat → Option AOut
  | [], g, t => some ⟨[], [g], t⟩
  | (m, a) :: es, g, t => match body a g t with
    | none => none
    | some o => match joinGs (if m then o.nx else g :: o.nx) with
      | [g1] => match forAll body es g1 (max t o.t) with
        | some o2 => some ⟨o.rts ++ o2.rts, o2.nx, max (max t o.t) o2.t⟩
        | none => none
      | _ => some ⟨o.rts, [], max t o.t⟩
mutual
def aS : Nat → S → AEnv → Nat → Option AOut
  | 0, _, _, _ => none
  | n + 1, st, g, t => match st with
    | .asg (.name i) e => match aE DR cl n e ⟨g, t⟩ with
      | some (x, st1) => (stored x).map fun x => ⟨[], splitG (st1.g.set i (some x)) (sp.filter fun j => j == i), st1.t⟩
      | none => none
    | .asg (.tup ts) e => match aE DR cl n e ⟨g, t⟩ with
      | some (.fl a, st1) => (mapO (fun a => aTg (.tup ts) (flatten a) st1.g) a.alts).map fun gs => ⟨[], gs.flatMap fun g => splitG g (sp.filter fun j => (T.idss ts).contains j), st1.t⟩
      | _ => none
    | .ex e => match aE DR cl n e ⟨g, t⟩ with
      | some (_, st1) => some ⟨[], [st1.g], st1.t⟩
      | none => none
    | .ret e => match aE DR cl n e ⟨g, t⟩ with
      | some (x, st1) => (given x).map fun x => ⟨[x], [], st1.t⟩
      | none => none
    | .retN => some ⟨[.fl .non], [], t⟩
    | .ite c a b => match aT DR cl n c ⟨g, t⟩ with
      | none => none
      | some (none, none) => none
      | some (some st1, none) => aSs n a st1.g st1.t
      | some (none, some st1) => aSs n b st1.g st1.t
      | some (some st1, some st2) => match aSs n a st1.g st1.t, aSs n b st2.g st2.t with
        | some o, some o2 => some ⟨o.rts ++ o2.rts, (joinGs (o.nx ++ o2.nx)).flatMap fun g => splitG g sp, max o.t o2.t⟩
        | _, _ => none
    | .for_ tg it b => match aIt DR cl n it ⟨g, t⟩ with
        | some (_, true, _) => none
        | some (.os es, false, st1) => forAll (fun a g t => match aTg tg (tgA tg a) g with
          | some g1 => aSs n b g1 t
          | none => none) es st1.g st1.t
        | some (.sm a _ hi _, false, st1) => if hi ≤ 40 then forAll (fun a g t => match aTg tg (tgA tg a) g with
          | some g1 => aSs n b g1 t
          | none => none) (List.replicate hi (false, a)) st1.g st1.t else none
        | none => none
    | .par i j a b => match aE DR cl n a ⟨g, t⟩ with
      | some (x, st1) => match aE DR cl n b st1 with
        | some (y, st2) => match stored x, stored y with
          | some x, some y => if i = j then none else some ⟨[], splitG ((st2.g.set i (some x)).set j (some y)) (sp.filter fun k => k == i || k == j), st2.t⟩
          | _, _ => none
        | none => none
      | none => none
    | .pass => some ⟨[], [g], t⟩
    | _ => none
def aSs : Nat → List S → AEnv → Nat → Option AOut
  | 0, _, _, _ => none
  | n + 1, sts, g, t => match sts with
    | [] => some ⟨[], [g], t⟩
    | st :: sts => match aS n st g t with
      | none => none
      | some o => match eachG (fun g t => aSs n sts g t) o.t o.nx with
        | some o2 => some ⟨o.rts ++ o2.rts, o2.nx, o2.t⟩
        | none => none
end
end
def addAlt (a : AV) : List AV → List AV
  | [] => [a]
  | b :: r => if AV.beq a b then b :: r else b :: addAlt a r
def joinRs : List XV → Option XV
  | [] => none
  | [x] => some x
  | x :: r => match x, joinRs r with
    | .fl a, some (.fl b) => some (.fl (match a.alts.foldr addAlt b.alts with
      | [c] => c
      | cs => .alt cs))
    | .ls c _, some (.ls d _) => some (.ls (joinC c d) true)
    | _, _ => none
def spOf (sp : List (Nat × Nat)) (f : Nat) : List Nat := sp.filterMap fun p => if p.1 = f then some p.2 else none
def acall (P : List Fn) (DR N : Nat) (sp : List (Nat × Nat)) : Nat → Nat → List XV → Option (XV × Nat)
  | 0, _, _ => none
  | 1, _, _ => none
  | k + 2, f, xs => match P[f]? with
    | none => none
    | some fn => if xs.length = fn.np then (match eachG (fun g t => aSs DR (acall P DR N sp (k + 1)) (spOf sp f) N fn.body g t) 0 (splitG (xs.map some ++ List.replicate (fn.nn - fn.np) none) (spOf sp f)) with
      | some o => (joinRs (o.rts ++ (if o.nx.isEmpty then [] else [.fl .non]))).map fun x => (x, o.t)
      | none => none) else none
/-! ### to be looked at -/
end Wb

/-! A3: what the abstract values hold, and their joins. -/
namespace Wb
open PySem
mutual
/-- no objects within -/
def D.nr : D → Bool
  | .tup xs => D.nrs xs
  | .fix _ => false
  | .ref _ => false
  | _ => true
def D.nrs : List D → Bool
  | [] => true
  | x :: r => D.nr x && D.nrs r
end
theorem nrs_all : ∀ {xs : List D}, D.nrs xs = true ↔ ∀ x ∈ xs, x.nr = true
  | [] => by simp [D.nrs]
  | x :: r => by simp [D.nrs, nrs_all (xs := r)]
mutual
theorem nr_under : ∀ (d : D) (m : Nat), d.nr = true → d.under m = true
  | .non, _, _ => rfl
  | .bl _, _, _ => rfl
  | .int _, _, _ => rfl
  | .str _, _, _ => rfl
  | .tup xs, m, h => nrs_under xs m h
  | .fix _, _, h => by cases h
  | .ref _, _, h => by cases h
theorem nrs_under : ∀ (xs : List D) (m : Nat), D.nrs xs = true → D.unders m xs = true
  | [], _, _ => rfl
  | x :: r, m, h => by
    unfold D.nrs at h
    simp only [Bool.and_eq_true] at h
    unfold D.unders
    rw [nr_under x m h.1, nrs_under r m h.2]
    rfl
end
theorem beqN {p : Prop} [Decidable p] (h : decide p = true) : p := of_decide_eq_true h
mutual
theorem AV.beq_eq : ∀ (a b : AV), AV.beq a b = true → a = b
  | .int _ _, b, h => by
    cases b <;> simp [AV.beq] at h
    rw [h.1, h.2]
  | .ints, b, h => by cases b <;> simp [AV.beq] at h; rfl
  | .bl _, b, h => by cases b <;> simp [AV.beq] at h; rw [h]
  | .non, b, h => by cases b <;> simp [AV.beq] at h; rfl
  | .strs _, b, h => by cases b <;> simp [AV.beq] at h; rw [h]
  | .tup xs, b, h => by
    cases b <;> simp [AV.beq] at h
    rw [AV.beqs_eq xs _ h]
  | .tupO xs, b, h => by
    cases b <;> simp [AV.beq] at h
    rw [AV.beqo_eq xs _ h]
  | .seq a l h o, b, h2 => by
    cases b <;> simp [AV.beq] at h2
    obtain ⟨⟨⟨h1, h2⟩, h3⟩, h4⟩ := h2
    rw [AV.beq_eq a _ h1, h2, h3, h4]
  | .alt xs, b, h => by
    cases b <;> simp [AV.beq] at h
    rw [AV.beqs_eq xs _ h]
theorem AV.beqs_eq : ∀ (a b : List AV), AV.beqs a b = true → a = b
  | [], b, h => by cases b <;> simp [AV.beqs] at h; rfl
  | x :: r, b, h => by
    cases b <;> simp [AV.beqs] at h
    rw [AV.beq_eq x _ h.1, AV.beqs_eq r _ h.2]
theorem AV.beqo_eq : ∀ (a b : List (Bool × AV)), AV.beqo a b = true → a = b
  | [], b, h => by cases b <;> simp [AV.beqo] at h; rfl
  | (m, x) :: r, b, h => by
    cases b with
    | nil => simp [AV.beqo] at h
    | cons q t =>
      obtain ⟨k, y⟩ := q
      simp [AV.beqo] at h
      rw [h.1.1, AV.beq_eq x _ h.1.2, AV.beqo_eq r _ h.2]
end
theorem Ct.beq_eq {c d : Ct} (h : c.beq d = true) : c = d := by
  cases c <;> cases d <;> simp [Ct.beq] at h
  · rw [AV.beqo_eq _ _ h]
  · rw [AV.beq_eq _ _ h.1.1.1, h.1.1.2, h.1.2, h.2]
theorem XV.beq_eq {x y : XV} (h : x.beq y = true) : x = y := by
  cases x <;> cases y <;> simp [XV.beq] at h
  · rw [AV.beq_eq _ _ h]
  · rw [Ct.beq_eq h.1, h.2]
  · rfl
theorem gBeq_eq : ∀ {g h : AEnv}, gBeq g h = true → g = h
  | [], [], _ => rfl
  | [], _ :: _, e => by simp [gBeq] at e
  | _ :: _, [], e => by simp [gBeq] at e
  | a :: r, b :: t, e => by
    simp only [gBeq, Bool.and_eq_true] at e
    have : a = b := by
      cases a <;> cases b <;> simp [oBeq] at e
      · rfl
      · rw [XV.beq_eq e.1]
    rw [this, gBeq_eq e.2]
/-! ### how they hold -/
theorem memA_iff : ∀ {as : List AV} {d : D}, memA as d = true ↔ ∃ a ∈ as, mem a d = true
  | [], d => by simp [memA]
  | a :: as, d => by simp [memA, memA_iff (as := as)]
theorem memA_of {as : List AV} {a : AV} {d : D} (h : a ∈ as) (m : mem a d = true) : mem (.alt as) d = true := by
  simp only [mem]; exact memA_iff.mpr ⟨a, h, m⟩
theorem alts_mem {a : AV} {d : D} (h : mem a d = true) : ∃ b ∈ a.alts, mem b d = true := by
  cases a <;> simp only [AV.alts, List.mem_singleton, exists_eq_left] <;> first | exact h | skip
  simp only [mem] at h
  exact memA_iff.mp h
theorem mem_alts {a b : AV} {d : D} (hb : b ∈ a.alts) (h : mem b d = true) : mem a d = true := by
  cases a <;> simp only [AV.alts, List.mem_singleton] at hb <;> first | (subst hb; exact h) | skip
  exact memA_of hb h
mutual
theorem mem_nr : ∀ (a : AV) (d : D), mem a d = true → d.nr = true
  | .int _ _, d, h => by cases d <;> simp [mem] at h <;> rfl
  | .ints, d, h => by cases d <;> simp [mem] at h <;> rfl
  | .bl _, d, h => by cases d <;> simp [mem] at h <;> rfl
  | .non, d, h => by cases d <;> simp [mem] at h <;> rfl
  | .strs _, d, h => by cases d <;> simp [mem] at h <;> rfl
  | .tup as, d, h => by
    cases d <;> simp only [mem] at h <;> first | (cases h; done) | skip
    exact mems_nr as _ h
  | .tupO es, d, h => by
    cases d <;> simp only [mem] at h <;> first | (cases h; done) | skip
    exact memO_nr es _ h
  | .seq a _ _ _, d, h => by
    cases d <;> simp only [mem] at h <;> first | (cases h; done) | skip
    simp only [Bool.and_eq_true, List.all_eq_true] at h
    exact nrs_all.mpr fun x hx => mem_nr a x (h.1.1.1 x hx)
  | .alt as, d, h => by simp only [mem] at h; exact memA_nr as d h
theorem mems_nr : ∀ (as : List AV) (ds : List D), mems as ds = true → D.nrs ds = true
  | [], ds, h => by cases ds <;> simp [mems] at h; rfl
  | a :: as, ds, h => by
    cases ds with
    | nil => simp [mems] at h
    | cons d r =>
      simp only [mems, Bool.and_eq_true] at h
      simp only [D.nrs, Bool.and_eq_true]
      exact ⟨mem_nr a d h.1, mems_nr as r h.2⟩
theorem memO_nr : ∀ (es : List (Bool × AV)) (ds : List D), memO es ds = true → D.nrs ds = true
  | [], ds, h => by cases ds <;> simp [memO] at h; rfl
  | (m, a) :: es, ds, h => by
    simp only [memO, Bool.or_eq_true, Bool.and_eq_true] at h
    rcases h with h | h
    · cases ds with
      | nil => simp at h
      | cons d r =>
        simp only [Bool.and_eq_true] at h
        simp only [D.nrs, Bool.and_eq_true]
        exact ⟨mem_nr a d h.1, memO_nr es r h.2⟩
    · exact memO_nr es ds h.2
theorem memA_nr : ∀ (as : List AV) (d : D), memA as d = true → d.nr = true
  | [], d, h => by simp [memA] at h
  | a :: as, d, h => by
    simp only [memA, Bool.or_eq_true] at h
    exact h.elim (mem_nr a d) (memA_nr as d)
end
theorem Ct.ok_nr {c : Ct} {ds : List D} (h : c.ok ds = true) : D.nrs ds = true := by
  cases c with
  | os es => exact memO_nr es ds h
  | sm a lo hi o =>
    simp only [Ct.ok, Bool.and_eq_true, List.all_eq_true] at h
    exact nrs_all.mpr fun x hx => mem_nr a x (h.1.1.1 x hx)
/-! ### order -/
theorem srtI_up (ns : List Int) : (srtI ns).Pairwise (· ≤ ·) := by
  have := srt_srt (le := fun a b : Int => decide (a ≤ b)) (fun a b => by simp only [decide_eq_true_eq]; omega) (fun a b c h1 h2 => by simp only [decide_eq_true_eq] at *; omega) ns
  exact this.imp fun h => of_decide_eq_true h
theorem ord_less {ds : List D} (h : ordB 2 ds = true) : ordB 1 ds = true := by
  simp only [ordB] at h ⊢
  split at h
  · next ps hp =>
    have h := of_decide_eq_true h
    have u : Up ps := by rw [← h]; exact up_srt
    exact decide_eq_true (srt_up u)
  · split at h
    · next ns hn =>
      have h := of_decide_eq_true h
      have u : ns.Pairwise (· ≤ ·) := by rw [← h]; exact srtI_up _
      exact decide_eq_true (srtI_one (List.Perm.refl _) u).symm
    · cases h
theorem ord_le {o o' : Nat} {ds : List D} (ho : o' ≤ o) (h : ordB o ds = true) : ordB o' ds = true := by
  match o', o, ho, h with
  | 0, _, _, _ => rfl
  | 1, 1, _, h => exact h
  | 1, n + 2, _, h => exact ord_less h
  | n + 2, m + 2, _, h => exact h
  | n + 2, 0, ho, _ => omega
  | n + 2, 1, ho, _ => omega
/-! ### joins -/
theorem joinA_alt {a b : AV} {d : D} (h : mem a d = true ∨ mem b d = true) : mem (.alt (a.alts ++ b.alts)) d = true := by
  rcases h with h | h
  · obtain ⟨c, hc, m⟩ := alts_mem h
    exact memA_of (List.mem_append_left _ hc) m
  · obtain ⟨c, hc, m⟩ := alts_mem h
    exact memA_of (List.mem_append_right _ hc) m
theorem joinA_ok {a b : AV} {d : D} (h : mem a d = true ∨ mem b d = true) : mem (joinA a b) d = true := by
  unfold joinA
  split
  · next e =>
    rcases h with h | h
    · exact h
    · rw [AV.beq_eq _ _ e]; exact h
  · split
    · cases d <;> simp [mem] at h ⊢
      omega
    · cases d <;> simp [mem] at h ⊢
    · cases d <;> simp [mem] at h ⊢
    · cases d <;> simp [mem] at h ⊢
    · cases d <;> simp [mem] at h ⊢
      exact h
    · split
      · next x l h1 o y l2 h2 o2 _ e =>
        have e := AV.beq_eq _ _ e
        subst e
        cases d <;> simp only [mem, Bool.false_eq_true, or_self] at h ⊢
        simp only [Bool.and_eq_true, decide_eq_true_eq] at h ⊢
        rcases h with h | h
        · exact ⟨⟨⟨h.1.1.1, by omega⟩, by omega⟩, ord_le (Nat.min_le_left _ _) h.2⟩
        · exact ⟨⟨⟨h.1.1.1, by omega⟩, by omega⟩, ord_le (Nat.min_le_right _ _) h.2⟩
      · rcases h with h | h
        · exact memA_of (by simp) h
        · exact memA_of (List.mem_cons_of_mem _ (List.mem_cons_self ..)) h
    · exact joinA_alt h
theorem zip_join : ∀ {xs ys : List AV} {ds : List D}, xs.length = ys.length → mems xs ds = true ∨ mems ys ds = true → mems (List.zipWith joinA xs ys) ds = true
  | [], [], ds, _, h => by simpa using h
  | [], _ :: _, _, e, _ => by simp at e
  | _ :: _, [], _, e, _ => by simp at e
  | x :: xs, y :: ys, ds, e, h => by
    cases ds with
    | nil => simp [mems] at h
    | cons d r =>
      simp only [List.zipWith_cons_cons, mems, Bool.and_eq_true] at h ⊢
      exact ⟨joinA_ok (h.imp And.left And.left), zip_join (by simpa using e) (h.imp And.right And.right)⟩
theorem joinHull_ok {a b : AV} {d : D} (h : mem a d = true ∨ mem b d = true) : mem (hull.joinHull a b) d = true := by
  unfold hull.joinHull
  split
  · split
    · next xs ys e =>
      cases d <;> simp only [mem, Bool.false_eq_true, or_self] at h ⊢
      exact zip_join e h
    · exact joinA_ok h
  · exact joinA_ok h
theorem hull_ok : ∀ {as : List AV} {h a : AV} {d : D}, hull as = some h → a ∈ as → mem a d = true → mem h d = true
  | [], _, _, _, e, _, _ => by cases e
  | [x], h, a, d, e, ha, m => by
    simp only [hull, Option.some.injEq] at e
    simp only [List.mem_singleton] at ha
    rw [← e, ← ha]; exact m
  | x :: y :: r, h, a, d, e, ha, m => by
    unfold hull at e
    split at e
    · next b hb =>
      cases e
      rcases List.mem_cons.mp ha with z | z
      · subst z; exact joinHull_ok (.inl m)
      · exact joinHull_ok (.inr (hull_ok hb z m))
    · cases e
/-! ### lists of maybes -/
theorem memO_all : ∀ {es : List (Bool × AV)} {ds : List D}, memO es ds = true → ∀ d ∈ ds, ∃ e ∈ es, mem e.2 d = true
  | [], ds, h => by cases ds <;> simp [memO] at h; simp
  | (m, a) :: es, ds, h => by
    simp only [memO, Bool.or_eq_true, Bool.and_eq_true] at h
    rcases h with h | h
    · cases ds with
      | nil => simp at h
      | cons d r =>
        simp only [Bool.and_eq_true] at h
        intro x hx
        rcases List.mem_cons.mp hx with z | z
        · subst z; exact ⟨_, List.mem_cons_self .., h.1⟩
        · obtain ⟨e, he, me⟩ := memO_all h.2 x z
          exact ⟨e, List.mem_cons_of_mem _ he, me⟩
    · intro x hx
      obtain ⟨e, he, me⟩ := memO_all h.2 x hx
      exact ⟨e, List.mem_cons_of_mem _ he, me⟩
theorem memO_len : ∀ {es : List (Bool × AV)} {ds : List D}, memO es ds = true → musts es ≤ ds.length ∧ ds.length ≤ es.length
  | [], ds, h => by cases ds <;> simp [memO] at h; simp [musts]
  | (m, a) :: es, ds, h => by
    simp only [memO, Bool.or_eq_true, Bool.and_eq_true] at h
    rcases h with h | h
    · cases ds with
      | nil => simp at h
      | cons d r =>
        simp only [Bool.and_eq_true] at h
        have := memO_len h.2
        simp only [musts, List.length_cons]
        cases m <;> simp <;> omega
    · have := memO_len h.2
      have hm : m = false := by simpa using h.1
      subst hm
      simp only [musts, List.length_cons]
      simp; omega
theorem memO_optl : ∀ {es : List (Bool × AV)} {ds : List D}, memO es ds = true → memO (optl es) ds = true
  | [], ds, h => h
  | (m, a) :: es, ds, h => by
    simp only [memO, Bool.or_eq_true, Bool.and_eq_true] at h
    show memO ((false, a) :: optl es) ds = true
    simp only [memO, Bool.or_eq_true, Bool.and_eq_true]
    rcases h with h | h
    · cases ds with
      | nil => simp at h
      | cons d r =>
        simp only [Bool.and_eq_true] at h
        left
        simp only [Bool.and_eq_true]
        exact ⟨h.1, memO_optl h.2⟩
    · exact .inr ⟨rfl, memO_optl h.2⟩
theorem memO_nilO : ∀ (es : List (Bool × AV)), memO (optl es) [] = true
  | [] => rfl
  | (m, a) :: es => by
    show memO ((false, a) :: optl es) [] = true
    simp only [memO, Bool.not_false, Bool.true_and, Bool.or_eq_true]
    exact .inr (memO_nilO es)
theorem memO_app : ∀ {es fs : List (Bool × AV)} {ds gs : List D}, memO es ds = true → memO fs gs = true → memO (es ++ fs) (ds ++ gs) = true
  | [], fs, ds, gs, h, g => by cases ds <;> simp [memO] at h; simpa using g
  | (m, a) :: es, fs, ds, gs, h, g => by
    simp only [memO, Bool.or_eq_true, Bool.and_eq_true] at h
    show memO ((m, a) :: (es ++ fs)) (ds ++ gs) = true
    simp only [memO, Bool.or_eq_true, Bool.and_eq_true]
    rcases h with h | h
    · cases ds with
      | nil => simp at h
      | cons d r =>
        simp only [Bool.and_eq_true] at h
        left
        simp only [List.cons_append, Bool.and_eq_true]
        exact ⟨h.1, memO_app h.2 g⟩
    · exact .inr ⟨h.1, memO_app h.2 g⟩
theorem memO_must : ∀ {as : List AV} {ds : List D}, mems as ds = true ↔ memO (as.map fun a => (true, a)) ds = true
  | [], ds => by cases ds <;> simp [mems, memO]
  | a :: as, ds => by
    cases ds with
    | nil => simp [mems, memO]
    | cons d r => simp [mems, memO, memO_must (as := as)]
theorem all_must : ∀ {es : List (Bool × AV)}, es.all (·.1) = true → es = (es.map (·.2)).map fun a => (true, a)
  | [], _ => rfl
  | (m, a) :: es, h => by
    simp only [List.all_cons, Bool.and_eq_true] at h
    have hm : m = true := h.1
    subst hm
    simp only [List.map_cons]
    rw [← all_must h.2]
theorem Ct.len {c : Ct} {ds : List D} (h : c.ok ds = true) : c.lo ≤ ds.length ∧ ds.length ≤ c.hi := by
  cases c with
  | os es => exact memO_len h
  | sm a lo hi o =>
    simp only [Ct.ok, Bool.and_eq_true, decide_eq_true_eq] at h
    exact ⟨h.1.1.2, h.1.2⟩
theorem Ct.hullMem {c : Ct} {ds : List D} {a : AV} (h : c.ok ds = true) (e : c.hull = some a) : ∀ d ∈ ds, mem a d = true := by
  cases c with
  | os es =>
    intro d hd
    obtain ⟨x, hx, m⟩ := memO_all h d hd
    exact hull_ok e (List.mem_map_of_mem hx) m
  | sm b lo hi o =>
    cases e
    simp only [Ct.ok, Bool.and_eq_true, List.all_eq_true] at h
    exact h.1.1.1
theorem Ct.hull_none {c : Ct} {ds : List D} (h : c.ok ds = true) (e : c.hull = none) : ds = [] := by
  cases c with
  | sm b lo hi o => cases e
  | os es =>
    cases es with
    | nil => cases ds <;> simp [Ct.ok, memO] at h; rfl
    | cons x r =>
      exfalso
      have : ∀ (l : List AV), l ≠ [] → Wb.hull l ≠ none := by
        intro l
        induction l with
        | nil => simp
        | cons a l ih =>
          intro _
          cases l with
          | nil => simp [Wb.hull]
          | cons b l =>
            unfold Wb.hull
            cases h : Wb.hull (b :: l) with
            | none => exact absurd h (ih (by simp))
            | some c => simp
      exact this _ (by simp) e
theorem sm_ok {a : AV} {lo hi o : Nat} {ds : List D} : (Ct.sm a lo hi o).ok ds = true ↔ (∀ d ∈ ds, mem a d = true) ∧ lo ≤ ds.length ∧ ds.length ≤ hi ∧ ordB o ds = true := by
  simp only [Ct.ok, Bool.and_eq_true, List.all_eq_true, decide_eq_true_eq]
  exact ⟨fun h => ⟨h.1.1.1, h.1.1.2, h.1.2, h.2⟩, fun h => ⟨⟨⟨h.1, h.2.1⟩, h.2.2.1⟩, h.2.2.2⟩⟩
theorem Ct.sum_ok {c : Ct} {ds : List D} (h : c.ok ds = true) : c.sum.ok ds = true := by
  cases c with
  | sm a lo hi o => exact h
  | os es =>
    simp only [Ct.sum]
    split
    · next a ha =>
      have hl := memO_len h
      exact sm_ok.mpr ⟨Ct.hullMem (c := .os es) h ha, hl.1, hl.2, rfl⟩
    · next ha =>
      have := Ct.hull_none (c := .os es) h ha
      subst this
      rfl
theorem isPre_ok : ∀ {xs ys r : List (Bool × AV)}, isPre xs ys = some r → ys = xs ++ r
  | [], ys, r, h => by simpa [isPre] using h
  | (m, x) :: xs, ys, r, h => by
    cases ys with
    | nil => simp [isPre] at h
    | cons q t =>
      obtain ⟨k, y⟩ := q
      unfold isPre at h
      split at h
      · next e =>
        simp only [Bool.and_eq_true, decide_eq_true_eq] at e
        rw [e.1, AV.beq_eq _ _ e.2, isPre_ok h]
        rfl
      · cases h
theorem optl_id : ∀ {r : List (Bool × AV)}, (∀ e ∈ r, e.1 = false) → optl r = r
  | [], _ => rfl
  | (m, a) :: r, h => by
    have : m = false := h (m, a) (List.mem_cons_self ..)
    subst this
    show (false, a) :: optl r = _
    rw [optl_id fun z hz => h z (List.mem_cons_of_mem _ hz)]
theorem joinC_ok {c d : Ct} {ds : List D} (h : c.ok ds = true ∨ d.ok ds = true) : (joinC c d).ok ds = true := by
  have js : ∀ (a b : Ct), (∃ x l h o, a = .sm x l h o) → (∃ x l h o, b = .sm x l h o) → a.ok ds = true ∨ b.ok ds = true → (joinC.joinS a b).ok ds = true := by
    rintro _ _ ⟨x, l, h1, o, rfl⟩ ⟨y, l2, h2, o2, rfl⟩ hh
    simp only [joinC.joinS]
    simp only [sm_ok] at hh
    split
    · next e =>
      rcases hh with hh | hh
      · have : ds = [] := List.eq_nil_of_length_eq_zero (by omega)
        subst this
        refine sm_ok.mpr ⟨(fun _ h => nomatch h), by simp at hh ⊢; omega, Nat.zero_le _, ?_⟩
        split <;> rfl
      · refine sm_ok.mpr ⟨hh.1, by omega, hh.2.2.1, ?_⟩
        split <;> rfl
    · split
      · rcases hh with hh | hh
        · exact sm_ok.mpr ⟨hh.1, by omega, hh.2.2.1, rfl⟩
        · have : ds = [] := List.eq_nil_of_length_eq_zero (by omega)
          subst this
          exact sm_ok.mpr ⟨(fun _ h => nomatch h), by simp at hh ⊢; omega, Nat.zero_le _, rfl⟩
      · rcases hh with hh | hh
        · exact sm_ok.mpr ⟨fun z hz => joinHull_ok (.inl (hh.1 z hz)), by omega, by omega, rfl⟩
        · exact sm_ok.mpr ⟨fun z hz => joinHull_ok (.inr (hh.1 z hz)), by omega, by omega, rfl⟩
  have sms : ∀ c : Ct, ∃ x l h o, c.sum = .sm x l h o := by
    intro c
    cases c with
    | sm a l h o => exact ⟨_, _, _, _, rfl⟩
    | os es =>
      simp only [Ct.sum]
      split
      · exact ⟨_, _, _, _, rfl⟩
      · exact ⟨_, _, _, _, rfl⟩
  have last : ∀ c d : Ct, c.ok ds = true ∨ d.ok ds = true → (joinC.joinS c.sum d.sum).ok ds = true := fun c d h =>
    js _ _ (sms c) (sms d) (h.imp Ct.sum_ok Ct.sum_ok)
  cases c with
  | sm a l h1 o => exact last _ _ h
  | os xs =>
    cases d with
    | sm a l h1 o => exact last _ _ h
    | os ys =>
      simp only [joinC]
      simp only [Ct.ok] at h
      have pre : ∀ {xs ys r : List (Bool × AV)}, ys = xs ++ r → memO xs ds = true ∨ memO ys ds = true → memO (xs ++ optl r) ds = true := by
        intro xs ys r e h
        subst e
        rcases h with h | h
        · have := memO_app h (memO_nilO r)
          simpa using this
        · have key : ∀ (xs : List (Bool × AV)) (ds : List D), memO (xs ++ r) ds = true → memO (xs ++ optl r) ds = true := by
            intro xs
            induction xs with
            | nil => intro ds h; exact memO_optl h
            | cons p xs ih =>
              obtain ⟨m, a⟩ := p
              intro ds h
              simp only [List.cons_append, memO, Bool.or_eq_true, Bool.and_eq_true] at h ⊢
              rcases h with h | h
              · cases ds with
                | nil => simp at h
                | cons d r2 =>
                  simp only [Bool.and_eq_true] at h
                  exact .inl (by simp only [Bool.and_eq_true]; exact ⟨h.1, ih _ h.2⟩)
              · exact .inr ⟨h.1, ih _ h.2⟩
          exact key xs ds h
      split
      · next r hr => exact pre (isPre_ok hr) h
      · split
        · next r hr => exact pre (isPre_ok hr) h.symm
        · split
          · split
            · next r hr =>
              have e := isPre_ok hr
              show memO (optl ys) ds = true
              rcases h with h | h
              · rw [e]
                have h2 := memO_optl h
                have key : memO (optl xs ++ optl r) (ds ++ []) = true := memO_app h2 (memO_nilO r)
                have oo : optl r = r := by
                  have hy : ∀ e ∈ optl ys, e.1 = false := fun e he => by
                    obtain ⟨x, _, rfl⟩ := List.mem_map.mp he
                    rfl
                  have hr' : ∀ e ∈ r, e.1 = false := fun z hz => hy z (by rw [e]; exact List.mem_append_right _ hz)
                  exact optl_id hr'
                rw [oo] at key
                simpa using key
              · exact memO_optl h
            · exact last (.os xs) (.os ys) h
          · exact last (.os xs) (.os ys) h
theorem ctOf_ok {a : AV} {c : Ct} {xs : List D} (h : ctOf a = some c) (m : mem a (.tup xs) = true) : c.ok xs = true := by
  cases a <;> simp only [ctOf, Option.some.injEq] at h <;> first | (cases h; done) | skip
  · subst h
    simp only [mem] at m
    exact memO_must.mp m
  · subst h
    simp only [mem] at m
    exact m
  · subst h
    simp only [mem] at m
    exact m
theorem ctOf_tup {a : AV} {c : Ct} {d : D} (h : ctOf a = some c) (m : mem a d = true) : ∃ xs, d = .tup xs := by
  cases a <;> simp only [ctOf] at h <;> first | (cases h; done) | skip
  all_goals cases d <;> simp only [mem] at m <;> first | (cases m; done) | exact ⟨_, rfl⟩
theorem tupOf_ok {c : Ct} {xs : List D} (h : c.ok xs = true) : mem (tupOf c) (.tup xs) = true := by
  cases c with
  | os es =>
    unfold tupOf
    simp only
    split
    · next e =>
      have h : memO es xs = true := h
      rw [all_must e] at h
      simp only [mem]
      exact memO_must.mpr h
    · simp only [mem]; exact h
  | sm a lo hi o => simp only [tupOf, mem]; exact h
end Wb

/-! A4: the operations on abstract values. -/
namespace Wb
open PySem
mutual
/-- its texts can be compared -/
def D.so : D → Bool
  | .tup xs => D.sos xs
  | .str x => PyData.canLay0 (.str x)
  | _ => true
def D.sos : List D → Bool
  | [] => true
  | x :: r => D.so x && D.sos r
end
theorem sos_all : ∀ {xs : List D}, D.sos xs = true ↔ ∀ x ∈ xs, x.so = true
  | [] => by simp [D.sos]
  | x :: r => by simp [D.sos, sos_all (xs := r)]
mutual
theorem toPy_nr {S : Store} : ∀ (n : Nat) (d : D), d.nr = true → d.so = true → d.dp < n → ∃ p, toPy S n d = some p ∧ p.canLay0 = true ∧ p.depth ≤ d.dp
  | 0, d, _, _, h => absurd h (Nat.not_lt_zero _)
  | n + 1, .non, _, _, _ => ⟨_, rfl, rfl, Nat.le_refl _⟩
  | n + 1, .bl _, _, _, _ => ⟨_, rfl, rfl, Nat.le_refl _⟩
  | n + 1, .int _, _, _, _ => ⟨_, rfl, rfl, Nat.le_refl _⟩
  | n + 1, .str _, _, so, _ => ⟨_, rfl, so, Nat.le_refl _⟩
  | n + 1, .tup xs, h, so, hd => by
    obtain ⟨ps, h1, h2, h3⟩ := toPys_nr (S := S) n xs h so (by simpa [D.dp] using hd)
    refine ⟨.tuple ps, ?_, h2, ?_⟩
    · unfold toPy
      show Option.map PyData.tuple (mapO (toPy S n) xs) = _
      rw [h1]; rfl
    · show PyData.depthAll ps + 1 ≤ D.dps xs + 1
      omega
  | n + 1, .fix _, h, _, _ => by cases h
  | n + 1, .ref _, h, _, _ => by cases h
theorem toPys_nr {S : Store} : ∀ (n : Nat) (xs : List D), D.nrs xs = true → D.sos xs = true → D.dps xs < n → ∃ ps, mapO (toPy S n) xs = some ps ∧ PyData.canLayAll0 ps = true ∧ PyData.depthAll ps ≤ D.dps xs
  | n, [], _, _, _ => ⟨[], rfl, rfl, Nat.le_refl _⟩
  | n, x :: r, h, so, hd => by
    unfold D.nrs at h
    unfold D.sos at so
    unfold D.dps at hd
    simp only [Bool.and_eq_true] at h so
    obtain ⟨p, h1, h2, h3⟩ := toPy_nr (S := S) n x h.1 so.1 (by omega)
    obtain ⟨ps, g1, g2, g3⟩ := toPys_nr (S := S) n r h.2 so.2 (by omega)
    refine ⟨p :: ps, ?_, by simp [PyData.canLayAll0, h2, g2], ?_⟩
    · unfold mapO
      rw [h1, g1]
    · show max _ _ ≤ max _ _
      omega
end
theorem pyOk_nr {S : Store} {d : D} (h : d.nr = true) (so : d.so = true) (hd : d.dp ≤ 50) : ∃ p, pyOk S d = some p := by
  obtain ⟨p, h1, h2, h3⟩ := toPy_nr (S := S) 60 d h so (by omega)
  refine ⟨p, ?_⟩
  unfold pyOk
  rw [h1]
  have sh : SeqAt.shaped p = true := by
    unfold SeqAt.shaped
    rw [h2, Bool.true_and]
    exact decide_eq_true (by omega)
  simp only [sh, if_true]
theorem pyOks_nr {S : Store} {xs : List D} (h : D.nrs xs = true) (so : D.sos xs = true) (hd : D.dps xs ≤ 50) : ∃ ps, pyOks S xs = some ps := by
  obtain ⟨ps, h1, h2, h3⟩ := toPys_nr (S := S) 59 xs h so (by omega)
  refine ⟨ps, ?_⟩
  unfold pyOks
  rw [h1]
  have sh : SeqAt.shaped (.list ps) = true := by
    unfold SeqAt.shaped
    have e1 : (PyData.list ps).canLay0 = true := h2
    rw [e1, Bool.true_and]
    refine decide_eq_true ?_
    show PyData.depthAll ps + 1 ≤ 64
    omega
  simp only [sh, if_true]
theorem eqD_nr {S : Store} {d e : D} (h : d.nr = true) (so : d.so = true) (hd : d.dp ≤ 50) (g : e.nr = true) (so2 : e.so = true) (ge : e.dp ≤ 50) : ∃ b, eqD S d e = some b := by
  obtain ⟨p, hp⟩ := pyOk_nr (S := S) h so hd
  obtain ⟨q, hq⟩ := pyOk_nr (S := S) g so2 ge
  unfold eqD
  split
  · exact ⟨_, rfl⟩
  · exact ⟨_, rfl⟩
  · exact ⟨_, rfl⟩
  · rw [hp, hq]; exact ⟨_, rfl⟩
theorem inD_nr {S : Store} {d : D} {xs : List D} (h : d.nr = true) (so : d.so = true) (hd : d.dp ≤ 50) (g : D.nrs xs = true) (so2 : D.sos xs = true) (ge : D.dps xs ≤ 50) : ∃ b, inD S d xs = some b := by
  obtain ⟨p, hp⟩ := pyOk_nr (S := S) h so hd
  obtain ⟨q, hq⟩ := pyOks_nr (S := S) g so2 ge
  unfold inD
  rw [hp, hq]; exact ⟨_, rfl⟩
theorem dps_lt {n : Nat} : ∀ {xs : List D}, (∀ x ∈ xs, x.dp < n) → 0 < n → D.dps xs < n
  | [], _, h => h
  | x :: r, h, h0 => by
    have h1 := h x (List.mem_cons_self ..)
    have h2 := dps_lt (xs := r) (fun y hy => h y (List.mem_cons_of_mem _ hy)) h0
    show max _ _ < n
    omega
theorem mems_at : ∀ {as : List AV} {ds : List D}, mems as ds = true → ds.length = as.length ∧ ∀ (i : Nat) (d : D), ds[i]? = some d → ∃ a, as[i]? = some a ∧ mem a d = true
  | [], ds, h => by cases ds <;> simp [mems] at h; simp
  | a :: as, ds, h => by
    cases ds with
    | nil => simp [mems] at h
    | cons d r =>
      simp only [mems, Bool.and_eq_true] at h
      obtain ⟨h1, h2⟩ := mems_at h.2
      refine ⟨by simp [h1], fun i x hx => ?_⟩
      cases i with
      | zero => simp at hx; subst hx; exact ⟨a, rfl, h.1⟩
      | succ i => simpa using h2 i x (by simpa using hx)
theorem dpA_dp : ∀ (n : Nat) (a : AV) (d : D), dpA n a = true → mem a d = true → d.dp < n + 1
  | 0, a, d, h, _ => by simp [dpA] at h
  | n + 1, a, d, h, m => by
    cases a <;> simp only [dpA] at h
    case tup as =>
      cases d <;> simp only [mem] at m <;> first | (cases m; done) | skip
      rename_i ds
      obtain ⟨m1, m2⟩ := mems_at m
      show D.dps ds + 1 < n + 1 + 1
      have := dps_lt (n := n + 1) (xs := ds) (fun x hx => by
        obtain ⟨i, hi, rfl⟩ := List.mem_iff_getElem.mp hx
        obtain ⟨b, hb, mb⟩ := m2 i _ (List.getElem?_eq_getElem hi)
        exact dpA_dp n b _ (List.all_eq_true.mp h b (List.mem_of_getElem? hb)) mb) (by omega)
      omega
    case tupO es =>
      cases d <;> simp only [mem] at m <;> first | (cases m; done) | skip
      rename_i ds
      show D.dps ds + 1 < n + 1 + 1
      have := dps_lt (n := n + 1) (xs := ds) (fun x hx => by
        obtain ⟨e, he, me⟩ := memO_all m x hx
        exact dpA_dp n _ _ (List.all_eq_true.mp h e he) me) (by omega)
      omega
    case seq b lo hi o =>
      cases d <;> simp only [mem] at m <;> first | (cases m; done) | skip
      rename_i ds
      simp only [Bool.and_eq_true, List.all_eq_true] at m
      show D.dps ds + 1 < n + 1 + 1
      have := dps_lt (n := n + 1) (xs := ds) (fun x hx => dpA_dp n b _ h (m.1.1.1 x hx)) (by omega)
      omega
    case alt as =>
      simp only [mem] at m
      obtain ⟨b, hb, mb⟩ := memA_iff.mp m
      have := dpA_dp n b d (List.all_eq_true.mp h b hb) mb
      omega
    all_goals
      cases d <;> simp only [mem] at m <;> first | (cases m; done) | (show 0 < n + 1 + 1; omega)
theorem dpA_so : ∀ (n : Nat) (a : AV) (d : D), dpA n a = true → mem a d = true → d.so = true
  | 0, a, d, h, _ => by simp [dpA] at h
  | n + 1, a, d, h, m => by
    cases a <;> simp only [dpA] at h
    case tup as =>
      cases d <;> simp only [mem] at m <;> first | (cases m; done) | skip
      rename_i ds
      obtain ⟨m1, m2⟩ := mems_at m
      exact sos_all.mpr fun x hx => by
        obtain ⟨i, hi, rfl⟩ := List.mem_iff_getElem.mp hx
        obtain ⟨b, hb, mb⟩ := m2 i _ (List.getElem?_eq_getElem hi)
        exact dpA_so n b _ (List.all_eq_true.mp h b (List.mem_of_getElem? hb)) mb
    case tupO es =>
      cases d <;> simp only [mem] at m <;> first | (cases m; done) | skip
      exact sos_all.mpr fun x hx => by
        obtain ⟨e, he, me⟩ := memO_all m x hx
        exact dpA_so n _ _ (List.all_eq_true.mp h e he) me
    case seq b lo hi o =>
      cases d <;> simp only [mem] at m <;> first | (cases m; done) | skip
      simp only [Bool.and_eq_true, List.all_eq_true] at m
      exact sos_all.mpr fun x hx => dpA_so n b _ h (m.1.1.1 x hx)
    case alt as =>
      simp only [mem] at m
      obtain ⟨b, hb, mb⟩ := memA_iff.mp m
      exact dpA_so n b d (List.all_eq_true.mp h b hb) mb
    case «strs» xs =>
      cases d <;> simp only [mem] at m <;> first | (cases m; done) | skip
      exact List.all_eq_true.mp h _ (of_decide_eq_true m)
    all_goals
      cases d <;> simp only [mem] at m <;> first | (cases m; done) | rfl
theorem so20 {a : AV} {d : D} (h : dpA 20 a = true) (m : mem a d = true) : d.so = true := dpA_so 20 a d h m
theorem dp20 {a : AV} {d : D} (h : dpA 20 a = true) (m : mem a d = true) : d.dp ≤ 50 := by
  have := dpA_dp 20 a d h m
  omega
theorem int_in {l h : Int} {d : D} (m : mem (.int l h) d = true) : ∃ i, d = .int i ∧ l ≤ i ∧ i ≤ h := by
  cases d <;> simp only [mem] at m <;> first | (cases m; done) | skip
  simp only [Bool.and_eq_true, decide_eq_true_eq] at m
  exact ⟨_, rfl, m.1, m.2⟩
theorem in_int {l h i : Int} (h1 : l ≤ i) (h2 : i ≤ h) : mem (.int l h) (.int i) = true := by
  simp only [mem, Bool.and_eq_true, decide_eq_true_eq]; exact ⟨h1, h2⟩
theorem ints_in {d : D} (m : mem .ints d = true) : ∃ i, d = .int i := by
  cases d <;> simp only [mem] at m <;> first | (cases m; done) | exact ⟨_, rfl⟩
theorem bl_in {b : Option Bool} {d : D} (m : mem (.bl b) d = true) : ∃ c, d = .bl c ∧ ∀ x, b = some x → c = x := by
  cases d <;> simp only [mem] at m <;> first | (cases m; done) | skip
  refine ⟨_, rfl, fun x hx => ?_⟩
  subst hx
  simpa using Eq.symm (by simpa using m)
theorem in_bl {b : Option Bool} {c : Bool} (h : ∀ x, b = some x → c = x) : mem (.bl b) (.bl c) = true := by
  simp only [mem]
  cases b with
  | none => rfl
  | some x => simp [h x rfl]
theorem sq_in {a : AV} {lo hi o : Nat} {d : D} (m : mem (.seq a lo hi o) d = true) : ∃ xs, d = .tup xs ∧ (∀ d ∈ xs, mem a d = true) ∧ lo ≤ xs.length ∧ xs.length ≤ hi ∧ ordB o xs = true := by
  obtain ⟨xs, rfl⟩ := ctOf_tup (a := .seq a lo hi o) rfl m
  have := ctOf_ok (a := .seq a lo hi o) rfl m
  exact ⟨xs, rfl, sm_ok.mp this⟩
theorem in_sq {a : AV} {lo hi o : Nat} {xs : List D} (h : (∀ d ∈ xs, mem a d = true) ∧ lo ≤ xs.length ∧ xs.length ≤ hi ∧ ordB o xs = true) : mem (.seq a lo hi o) (.tup xs) = true := tupOf_ok (c := .sm a lo hi o) (sm_ok.mpr h)
theorem hullJ {a b : AV} {xs ys : List D} {h h2 : Nat} (hx : ∀ d ∈ xs, mem a d = true) (hy : ∀ d ∈ ys, mem b d = true) (lx : xs.length ≤ h) (ly : ys.length ≤ h2) : ∀ d ∈ xs ++ ys, mem (if h = 0 then b else if h2 = 0 then a else hull.joinHull a b) d = true := by
  intro d hd
  split
  · have : xs = [] := List.eq_nil_of_length_eq_zero (by omega)
    subst this
    exact hy d (by simpa using hd)
  · split
    · have : ys = [] := List.eq_nil_of_length_eq_zero (by omega)
      subst this
      exact hx d (by simpa using hd)
    · rcases List.mem_append.mp hd with z | z
      · exact joinHull_ok (.inl (hx d z))
      · exact joinHull_ok (.inr (hy d z))
theorem mems_app : ∀ {as bs : List AV} {ds es : List D}, mems as ds = true → mems bs es = true → mems (as ++ bs) (ds ++ es) = true
  | [], bs, ds, es, h, g => by cases ds <;> simp [mems] at h; simpa using g
  | a :: as, bs, ds, es, h, g => by
    cases ds with
    | nil => simp [mems] at h
    | cons d r =>
      simp only [mems, Bool.and_eq_true] at h
      simp only [List.cons_append, mems, Bool.and_eq_true]
      exact ⟨h.1, mems_app h.2 g⟩
theorem mems_rev : ∀ {as : List AV} {ds : List D}, mems as ds = true → mems as.reverse ds.reverse = true
  | [], ds, h => by
    cases ds with
    | nil => rfl
    | cons _ _ => simp [mems] at h
  | a :: as, ds, h => by
    cases ds with
    | nil => simp [mems] at h
    | cons d ds =>
      simp only [mems, Bool.and_eq_true] at h
      rw [List.reverse_cons, List.reverse_cons]
      exact mems_app (mems_rev h.2) (by simp [mems, h.1])
theorem mul_le {a b c d : Int} (h1 : 0 ≤ a) (h2 : a ≤ b) (h3 : 0 ≤ c) (h4 : c ≤ d) : a * c ≤ b * d := by
  have e1 : a * c ≤ b * c := Int.mul_le_mul_of_nonneg_right h2 h3
  have e2 : b * c ≤ b * d := Int.mul_le_mul_of_nonneg_left h4 (by omega)
  omega
theorem opA_ok {S : Store} {o : Op} {x y r : AV} {d e : D} (h : opA o x y = some r) (mx : mem x d = true) (my : mem y e = true) : ∃ z, opD S o d e = some (z, S) ∧ mem r z = true := by
  unfold opA at h
  split at h
  · cases h
    obtain ⟨i, rfl, h1, h2⟩ := int_in mx
    obtain ⟨j, rfl, h3, h4⟩ := int_in my
    exact ⟨_, rfl, in_int (by omega) (by omega)⟩
  · cases h
    obtain ⟨i, rfl, h1, h2⟩ := int_in mx
    obtain ⟨j, rfl, h3, h4⟩ := int_in my
    exact ⟨_, rfl, in_int (by omega) (by omega)⟩
  · split at h
    · next hc =>
      cases h
      obtain ⟨i, rfl, h1, h2⟩ := int_in mx
      obtain ⟨j, rfl, h3, h4⟩ := int_in my
      simp only [inBig, Bool.and_eq_true, decide_eq_true_eq] at hc
      have hb : big = 4611686018427387904 := by decide
      rw [hb] at hc
      refine ⟨.int (i * j), ?_, in_int (mul_le hc.1.2 h1 hc.2 h3) (mul_le (by omega) h2 (by omega) h4)⟩
      simp only [opD, okMul_l (i := i) (j := j) (by omega), if_true]
    · cases h
  · split at h
    · next hc =>
      have hc := of_decide_eq_true hc
      obtain ⟨i, rfl, h1, h2⟩ := int_in mx
      obtain ⟨j, rfl, h3, h4⟩ := int_in my
      have hj : 0 < j := by omega
      have op : opD S .mod (.int i) (.int j) = some (.int (i % j), S) := by simp only [opD, decide_eq_true hj, if_true]
      refine ⟨_, op, ?_⟩
      split at h
      · next c2 =>
        cases h
        simp only [Bool.and_eq_true, decide_eq_true_eq] at c2
        rw [Int.emod_eq_of_lt (by omega) (by omega)]
        exact in_int h1 h2
      · split at h
        · next c3 =>
          cases h
          simp only [Bool.and_eq_true, decide_eq_true_eq] at c3
          have e1 : i = _ := Int.le_antisymm (by omega) h1
          have e2 : j = _ := Int.le_antisymm (by omega) h3
          rw [e1, e2]
          exact in_int (Int.le_refl _) (Int.le_refl _)
        · cases h
          have g1 := Int.emod_nonneg i (b := j) (by omega)
          have g2 := Int.emod_lt_of_pos i hj
          exact in_int g1 (by omega)
    · cases h
  · split at h
    · next hc =>
      cases h
      simp only [Bool.and_eq_true, decide_eq_true_eq] at hc
      obtain ⟨i, rfl, h1, h2⟩ := int_in mx
      obtain ⟨j, rfl, h3, h4⟩ := int_in my
      have ej : j = _ := Int.le_antisymm (by omega) h3
      refine ⟨.int (i / j), ?_, ?_⟩
      · simp only [opD]
        rw [if_pos]
        simp only [Bool.and_eq_true, decide_eq_true_eq]
        omega
      · rw [ej]
        exact in_int (Int.ediv_le_ediv hc.1.2 h1) (Int.ediv_le_ediv hc.1.2 h2)
    · cases h
  · split at h
    · next hc =>
      cases h
      simp only [Bool.and_eq_true, decide_eq_true_eq] at hc
      obtain ⟨i, rfl, h1, h2⟩ := int_in mx
      obtain ⟨j, rfl, h3, h4⟩ := int_in my
      have ei : i = _ := Int.le_antisymm (by omega) h1
      have ej : j = _ := Int.le_antisymm (by omega) h3
      refine ⟨.int (i * 2 ^ j.toNat), ?_, ?_⟩
      · simp only [opD]
        rw [if_pos]
        simp only [Bool.and_eq_true, decide_eq_true_eq]
        omega
      · rw [ei, ej]
        exact in_int (Int.le_refl _) (Int.le_refl _)
    · cases h
  · split at h
    · next hc =>
      cases h
      have hc := of_decide_eq_true hc
      obtain ⟨i, rfl, h1, h2⟩ := int_in mx
      obtain ⟨j, rfl, h3, h4⟩ := int_in my
      refine ⟨.int (i / 2 ^ j.toNat), by simp only [opD, decide_eq_true (show 0 ≤ j by omega), if_true], rfl⟩
    · cases h
  · split at h
    · next hc =>
      cases h
      have hc := of_decide_eq_true hc
      obtain ⟨i, rfl⟩ := ints_in mx
      obtain ⟨j, rfl, h3, h4⟩ := int_in my
      refine ⟨.int (i / 2 ^ j.toNat), by simp only [opD, decide_eq_true (show 0 ≤ j by omega), if_true], rfl⟩
    · cases h
  · cases h
    obtain ⟨i, rfl, h1, h2⟩ := int_in mx
    obtain ⟨j, rfl, h3, h4⟩ := int_in my
    exact ⟨_, rfl, rfl⟩
  · cases h
    obtain ⟨i, rfl⟩ := ints_in mx
    obtain ⟨j, rfl, h3, h4⟩ := int_in my
    exact ⟨_, rfl, rfl⟩
  · cases h
    obtain ⟨i, rfl, h1, h2⟩ := int_in mx
    obtain ⟨j, rfl⟩ := ints_in my
    exact ⟨_, rfl, rfl⟩
  · split at h
    · next hc =>
      cases h
      obtain ⟨xs, rfl, h1, h2, h3, _⟩ := sq_in mx
      obtain ⟨ys, rfl, g1, g2, g3, _⟩ := sq_in my
      refine ⟨.tup (xs ++ ys), by simp only [opD, small_of (n := xs.length + ys.length) (by omega), if_true], in_sq ⟨hullJ h1 g1 h3 g3, by simp; omega, by simp; omega, rfl⟩⟩
    · cases h
  · split at h
    · next hc =>
      cases h
      cases d <;> simp only [mem] at mx <;> first | (cases mx; done) | skip
      cases e <;> simp only [mem] at my <;> first | (cases my; done) | skip
      rename_i xs ys
      have l1 := (mems_at mx).1
      have l2 := (mems_at my).1
      refine ⟨.tup (xs ++ ys), by simp only [opD, small_of (n := xs.length + ys.length) (by omega), if_true], by simp only [mem]; exact mems_app mx my⟩
    · cases h
  · split at h
    · next hc =>
      cases h
      cases d <;> simp only [mem] at mx <;> first | (cases mx; done) | skip
      cases e <;> simp only [mem] at my <;> first | (cases my; done) | skip
      rename_i xs ys
      have l1 := (memO_len mx).2
      have l2 := (memO_len my).2
      refine ⟨.tup (xs ++ ys), by simp only [opD, small_of (n := xs.length + ys.length) (by omega), if_true], by simp only [mem]; exact memO_app mx my⟩
    · cases h
  · split at h
    · next hc =>
      cases h
      cases d <;> simp only [mem] at mx <;> first | (cases mx; done) | skip
      cases e <;> simp only [mem] at my <;> first | (cases my; done) | skip
      rename_i xs ys
      have l1 := (memO_len mx).2
      have l2 := (mems_at my).1
      refine ⟨.tup (xs ++ ys), by simp only [opD, small_of (n := xs.length + ys.length) (by omega), if_true], by simp only [mem]; exact memO_app mx (memO_must.mp my)⟩
    · cases h
  · cases h
theorem mapO_at {α β : Type} {f : α → Option β} : ∀ {l : List α} {r : List β}, mapO f l = some r → ∀ a ∈ l, ∃ b ∈ r, f a = some b
  | [], r, h, a, ha => nomatch ha
  | x :: l, r, h, a, ha => by
    unfold mapO at h
    split at h
    · next y ys h1 h2 =>
      cases h
      rcases List.mem_cons.mp ha with z | z
      · subst z; exact ⟨y, List.mem_cons_self .., h1⟩
      · obtain ⟨b, hb, e⟩ := mapO_at h2 a z
        exact ⟨b, List.mem_cons_of_mem _ hb, e⟩
    · cases h
theorem overA_ok {f : AV → Option AV} {a r : AV} {d : D} {R : D → Prop} (hf : ∀ a r, f a = some r → mem a d = true → ∃ z, R z ∧ mem r z = true) (h : overA f a = some r) (m : mem a d = true) : ∃ z, R z ∧ mem r z = true := by
  unfold overA at h
  split at h
  · split at h
    · next as bs hb =>
      simp only [mem] at m
      obtain ⟨x, hx, mx⟩ := memA_iff.mp m
      obtain ⟨b, hbm, e⟩ := mapO_at hb x hx
      obtain ⟨z, hz, mz⟩ := hf x b e mx
      exact ⟨z, hz, hull_ok h hbm mz⟩
    · cases h
  · exact hf _ _ h m
theorem over2_ok {f : AV → AV → Option AV} {a b r : AV} {d e : D} {R : D → Prop} (hf : ∀ a b r, f a b = some r → mem a d = true → mem b e = true → ∃ z, R z ∧ mem r z = true) (h : over2 f a b = some r) (m : mem a d = true) (n : mem b e = true) : ∃ z, R z ∧ mem r z = true :=
  overA_ok (fun a r h m => overA_ok (fun b r h n => hf a b r h m n) h n) h m
theorem mem_must {es : List AV} {l : Int} {d : D} : ∀ {ns : List Int}, cpA.allOne es = some ns → ∀ {ds : List D}, mems es ds = true → ds = ns.map D.int := by
  induction es with
  | nil => intro ns h ds m; cases h; cases ds <;> simp [mems] at m; rfl
  | cons a r ih =>
    intro ns h ds m
    unfold cpA.allOne at h
    split at h
    · next i is h1 h2 =>
      cases h
      cases ds with
      | nil => simp [mems] at m
      | cons x t =>
        simp only [mems, Bool.and_eq_true] at m
        rw [ih h2 m.2]
        unfold oneInt at h1
        split at h1
        · split at h1
          · next e =>
            cases h1
            obtain ⟨j, rfl, g1, g2⟩ := int_in m.1
            have : j = i := by omega
            rw [this]; rfl
          · cases h1
        · cases h1
    · cases h
theorem eqD_ok {S : Store} {a b : AV} {d e : D} (h : dpA 20 a = true) (g : dpA 20 b = true) (ma : mem a d = true) (mb : mem b e = true) : ∃ c, eqD S d e = some c :=
  eqD_nr (mem_nr _ _ ma) (so20 h ma) (dp20 h ma) (mem_nr _ _ mb) (so20 g mb) (dp20 g mb)
/-- what a comparison of two abstract values says -/
def Says (r : Option Bool) (b : Bool) : Prop := ∀ c, r = some c → b = c
theorem says_none {b : Bool} : Says none b := fun _ h => nomatch h
theorem says_some {b : Bool} : Says (some b) b := fun _ h => Option.some.inj h
theorem in_tup {S : Store} {a b : AV} {d e : D} {xs : List D} (h : dpA 20 a = true) (g : dpA 20 b = true) (ma : mem a d = true) (mb : mem b (.tup xs) = true) : ∃ c, inD S d xs = some c := by
  have n := mem_nr _ _ mb
  have s := so20 g mb
  have p := dp20 g mb
  have p : D.dps xs + 1 ≤ 50 := p
  exact inD_nr (mem_nr _ _ ma) (so20 h ma) (dp20 h ma) n s (by omega)
theorem cp_isin {S : Store} {d : D} {xs : List D} {b : Bool} (h : inD S d xs = some b) : cpD S .isin d (.tup xs) = some (.bl b) := by
  cases d <;> simp only [cpD, h, Option.map_some]
theorem cp_notin {S : Store} {d : D} {xs : List D} {b : Bool} (h : inD S d xs = some b) : cpD S .notin d (.tup xs) = some (.bl (!b)) := by
  cases d <;> simp only [cpD, h, Option.map_some, noB]
theorem isIn {S : Store} {a b : AV} {d e : D} {xs : List D} (h : dpA 20 a = true) (g : dpA 20 b = true) (ma : mem a d = true) (mb : mem b (.tup xs) = true) : ∃ c, cpD S .isin d (.tup xs) = some (.bl c) := by
  obtain ⟨c, hc⟩ := in_tup (S := S) (e := d) h g ma mb
  exact ⟨c, cp_isin hc⟩
theorem notIn {S : Store} {a b : AV} {d e : D} {xs : List D} (h : dpA 20 a = true) (g : dpA 20 b = true) (ma : mem a d = true) (mb : mem b (.tup xs) = true) : ∃ c, cpD S .notin d (.tup xs) = some (.bl c) := by
  obtain ⟨c, hc⟩ := in_tup (S := S) (e := d) h g ma mb
  exact ⟨!c, cp_notin hc⟩
theorem any_ints (i : Int) : ∀ ns : List Int, ((ns.map PyData.int).any fun z => PyData.eqv z (.int i)) = decide (i ∈ ns)
  | [] => rfl
  | n :: r => by
    rw [List.map_cons, List.any_cons, any_ints i r]
    have e : PyData.eqv (.int n) (.int i) = decide (i = n) := by
      show (n == i) = _
      by_cases h : n = i
      · subst h; simp
      · simp [h, Ne.symm h]
    rw [e]
    simp only [List.mem_cons, Bool.decide_or]
theorem in_ints {S : Store} {i : Int} {ns : List Int} : inD S (.int i) (ns.map .int) = some (decide (i ∈ ns)) := by
  have p0 : pyOk S (.int i) = some (.int i) := by
    unfold pyOk
    rw [show toPy S 60 (.int i) = some (.int i) from rfl]
    rfl
  have p : pyOks S (ns.map D.int) = some (ns.map PyData.int) := by
    unfold pyOks
    rw [pys_ints 58 ns]
    obtain ⟨h1, h2⟩ := lay_ints ns
    have sh : SeqAt.shaped (.list (ns.map PyData.int)) = true := by
      unfold SeqAt.shaped
      have e1 : (PyData.list (ns.map PyData.int)).canLay0 = true := h1
      rw [e1, Bool.true_and]
      refine decide_eq_true ?_
      show PyData.depthAll _ + 1 ≤ 64
      omega
    simp only [sh, if_true]
  unfold inD
  rw [p0, p]
  exact congrArg some (any_ints i ns)
theorem cpA_ok {S : Store} {c : Cp} {x y : AV} {r : Option Bool} {d e : D} (h : cpA c x y = some r) (mx : mem x d = true) (my : mem y e = true) : ∃ b, cpD S c d e = some (.bl b) ∧ Says r b := by
  have two : ∀ {l h' l2 h2 : Int}, mem (.int l h') d = true → mem (.int l2 h2) e = true → ∃ i j, d = .int i ∧ e = .int j ∧ l ≤ i ∧ i ≤ h' ∧ l2 ≤ j ∧ j ≤ h2 := fun m n => by
    obtain ⟨i, rfl, h1, h2⟩ := int_in m
    obtain ⟨j, rfl, h3, h4⟩ := int_in n
    exact ⟨i, j, rfl, rfl, h1, h2, h3, h4⟩
  have fin : ∀ {p : Prop} [Decidable p] {r : Option Bool} {P Q : Prop} [Decidable P] [Decidable Q] {u v : Bool}, (if P then some u else if Q then some v else none) = r → (P → decide p = u) → (Q → decide p = v) → Says r (decide p) := by
    intro p _ r P Q _ _ u v e h1 h2 c hc
    subst e
    split at hc
    · cases hc; exact h1 ‹_›
    · split at hc
      · cases hc; exact h2 ‹_›
      · cases hc
  unfold cpA at h
  split at h
  · cases h
    obtain ⟨i, j, rfl, rfl, h1, h2, h3, h4⟩ := two mx my
    exact ⟨_, rfl, fin rfl (fun z => decide_eq_true (by omega)) (fun z => decide_eq_false (by omega))⟩
  · cases h
    obtain ⟨i, j, rfl, rfl, h1, h2, h3, h4⟩ := two mx my
    exact ⟨_, rfl, fin rfl (fun z => decide_eq_true (by omega)) (fun z => decide_eq_false (by omega))⟩
  · cases h
    obtain ⟨i, j, rfl, rfl, h1, h2, h3, h4⟩ := two mx my
    exact ⟨_, rfl, fin rfl (fun z => decide_eq_true (by omega)) (fun z => decide_eq_false (by omega))⟩
  · cases h
    obtain ⟨i, j, rfl, rfl, h1, h2, h3, h4⟩ := two mx my
    exact ⟨_, rfl, fin rfl (fun z => decide_eq_true (by omega)) (fun z => decide_eq_false (by omega))⟩
  · cases h
    obtain ⟨i, j, rfl, rfl, h1, h2, h3, h4⟩ := two mx my
    exact ⟨_, rfl, fin rfl (fun z => decide_eq_true (by omega)) (fun z => decide_eq_false (by omega))⟩
  · cases h
    obtain ⟨i, j, rfl, rfl, h1, h2, h3, h4⟩ := two mx my
    refine ⟨!decide (i = j), rfl, ?_⟩
    intro c hc
    split at hc
    · cases hc; simp; omega
    · split at hc
      · cases hc; simp; omega
      · cases hc
  · cases h
    obtain ⟨i, rfl⟩ := ints_in mx
    obtain ⟨j, rfl, _⟩ := int_in my
    exact ⟨_, rfl, says_none⟩
  · cases h
    obtain ⟨i, rfl, _⟩ := int_in mx
    obtain ⟨j, rfl⟩ := ints_in my
    exact ⟨_, rfl, says_none⟩
  · cases h
    obtain ⟨i, rfl⟩ := ints_in mx
    obtain ⟨j, rfl, _⟩ := int_in my
    exact ⟨_, rfl, says_none⟩
  · cases h
    obtain ⟨i, rfl⟩ := ints_in mx
    obtain ⟨j, rfl, _⟩ := int_in my
    exact ⟨_, rfl, says_none⟩
  · cases h
    obtain ⟨i, rfl⟩ := ints_in mx
    obtain ⟨j, rfl, _⟩ := int_in my
    exact ⟨_, rfl, says_none⟩
  · split at h
    · next hc =>
      cases h
      simp only [Bool.and_eq_true] at hc
      obtain ⟨b, hb⟩ := eqD_ok (S := S) hc.1 hc.2 mx my
      exact ⟨b, by simp only [cpD, hb, Option.map_some], says_none⟩
    · cases h
  · split at h
    · next hc =>
      cases h
      simp only [Bool.and_eq_true] at hc
      obtain ⟨b, hb⟩ := eqD_ok (S := S) hc.1 hc.2 mx my
      exact ⟨!b, by simp only [cpD, hb, Option.map_some, noB], says_none⟩
    · cases h
  · split at h
    · next hc =>
      cases h
      simp only [Bool.and_eq_true] at hc
      obtain ⟨xs, rfl⟩ := ctOf_tup rfl my
      obtain ⟨b, hb⟩ := isIn (S := S) (e := d) hc.1 hc.2 mx my
      exact ⟨b, hb, says_none⟩
    · cases h
  · split at h
    · next hc =>
      cases h
      simp only [Bool.and_eq_true] at hc
      obtain ⟨xs, rfl⟩ := ctOf_tup rfl my
      obtain ⟨b, hb⟩ := notIn (S := S) (e := d) hc.1 hc.2 mx my
      exact ⟨b, hb, says_none⟩
    · cases h
  · split at h
    · next hc =>
      cases h
      simp only [Bool.and_eq_true] at hc
      obtain ⟨xs, rfl⟩ := ctOf_tup rfl my
      obtain ⟨b, hb⟩ := isIn (S := S) (e := d) hc.1 hc.2 mx my
      exact ⟨b, hb, says_none⟩
    · cases h
  · split at h
    · next hc =>
      cases h
      simp only [Bool.and_eq_true] at hc
      obtain ⟨xs, rfl⟩ := ctOf_tup rfl my
      obtain ⟨b, hb⟩ := notIn (S := S) (e := d) hc.1 hc.2 mx my
      exact ⟨b, hb, says_none⟩
    · cases h
  · next l h' es =>
    have big : ∀ {r : Option Bool}, (if dpA 20 (.tup es) = true then some none else none) = some r → ∃ b, cpD S .isin d e = some (.bl b) ∧ Says r b := fun {r} h => by
      split at h
      · next hc =>
        cases h
        obtain ⟨xs, rfl⟩ := ctOf_tup rfl my
        obtain ⟨b, hb⟩ := isIn (S := S) (e := d) (a := .int l h') rfl hc mx my
        exact ⟨b, hb, says_none⟩
      · cases h
    split at h
    · next e0 =>
      split at h
      · next ns hn =>
        cases h
        obtain ⟨i, rfl, h1, h2⟩ := int_in mx
        obtain ⟨xs, rfl⟩ := ctOf_tup rfl my
        have ei : i = l := by omega
        subst ei
        have my : mems es xs = true := by simpa only [mem] using my
        rw [mem_must (l := 0) (d := .non) hn my]
        exact ⟨_, cp_isin in_ints, says_some⟩
      · exact big h
    · exact big h
  · split at h
    · next hc =>
      cases h
      simp only [Bool.and_eq_true] at hc
      obtain ⟨xs, rfl⟩ := ctOf_tup rfl my
      obtain ⟨b, hb⟩ := isIn (S := S) (e := d) hc.1 hc.2 mx my
      exact ⟨b, hb, says_none⟩
    · cases h
  · split at h
    · next hc =>
      cases h
      simp only [Bool.and_eq_true] at hc
      obtain ⟨xs, rfl⟩ := ctOf_tup rfl my
      obtain ⟨b, hb⟩ := notIn (S := S) (e := d) hc.1 hc.2 mx my
      exact ⟨b, hb, says_none⟩
    · cases h
  · cases h
theorem joinB_some {x y : Option (Option Bool)} {r : Option Bool} (h : joinB x y = some r) : ∃ a b, x = some a ∧ y = some b ∧ ∀ c, r = some c → a = some c ∧ b = some c := by
  unfold joinB at h
  split at h
  · next a b =>
    cases h
    refine ⟨a, b, rfl, rfl, fun c hc => ?_⟩
    split at hc
    · next e => subst e; exact ⟨hc, hc⟩
    · cases hc
  · cases h
theorem cpAs_ok {S : Store} {c : Cp} {x : AV} {d e : D} (mx : mem x d = true) : ∀ {ys : List AV} {r : Option Bool}, cpAs c x ys = some r → memA ys e = true → ∃ b, cpD S c d e = some (.bl b) ∧ Says r b
  | [], r, h, my => by cases h
  | [y], r, h, my => cpA_ok h mx (by simpa [memA] using my)
  | y :: y2 :: ys, r, h, my => by
    obtain ⟨a, b, h1, h2, h3⟩ := joinB_some h
    simp only [memA, Bool.or_eq_true] at my
    rcases my with my | my
    · obtain ⟨u, g1, g2⟩ := cpA_ok (S := S) h1 mx my
      exact ⟨u, g1, fun c hc => g2 c (h3 c hc).1⟩
    · obtain ⟨u, g1, g2⟩ := cpAs_ok (S := S) (c := c) mx h2 (by simpa only [memA, Bool.or_eq_true] using my)
      exact ⟨u, g1, fun c hc => g2 c (h3 c hc).2⟩
theorem alts_memA {a : AV} {d : D} (h : mem a d = true) : memA a.alts d = true := memA_iff.mpr (alts_mem h)
theorem cpAA_ok {S : Store} {c : Cp} {y : AV} {d e : D} (my : mem y e = true) : ∀ {xs : List AV} {r : Option Bool}, cpAA c xs y = some r → memA xs d = true → ∃ b, cpD S c d e = some (.bl b) ∧ Says r b
  | [], r, h, mx => by cases h
  | [x], r, h, mx => cpAs_ok (by simpa [memA] using mx) h (alts_memA my)
  | x :: x2 :: xs, r, h, mx => by
    obtain ⟨a, b, h1, h2, h3⟩ := joinB_some h
    simp only [memA, Bool.or_eq_true] at mx
    rcases mx with mx | mx
    · obtain ⟨u, g1, g2⟩ := cpAs_ok (S := S) mx h1 (alts_memA my)
      exact ⟨u, g1, fun c hc => g2 c (h3 c hc).1⟩
    · obtain ⟨u, g1, g2⟩ := cpAA_ok (S := S) (c := c) my h2 (by simpa only [memA, Bool.or_eq_true] using mx)
      exact ⟨u, g1, fun c hc => g2 c (h3 c hc).2⟩
end Wb

/-! A5: places, lengths, lists. -/
namespace Wb
open PySem
theorem mem_drop_take {as : List AV} {l h : Int} {i : Nat} {a : AV} (hi : as[i]? = some a) (h1 : l ≤ i) (h0 : 0 ≤ l) (h2 : (i : Int) ≤ h) : a ∈ (as.drop l.toNat).take (h - l + 1).toNat := by
  have e : ((as.drop l.toNat).take (h - l + 1).toNat)[i - l.toNat]? = some a := by
    rw [List.getElem?_take, if_pos (by omega), List.getElem?_drop]
    rw [show l.toNat + (i - l.toNat) = i by omega]
    exact hi
  exact List.mem_of_getElem? e
theorem atD_nat {α : Type} {xs : List α} {i : Int} (h0 : 0 ≤ i) (h1 : i < xs.length) : ∃ x, atD xs i = some x ∧ xs[i.toNat]? = some x :=
  ⟨_, atD_in h0 h1, List.getElem?_eq_getElem (by omega)⟩
theorem atD_last {α : Type} {xs : List α} (h : 0 < xs.length) : ∃ x ∈ xs, atD xs (-1) = some x := by
  refine ⟨xs[xs.length - 1]'(by omega), List.getElem_mem _, ?_⟩
  show L2.atI xs (-1) = _
  unfold L2.atI L2.ixN
  rw [if_neg (by decide), if_pos (by omega)]
  simp only [Option.bind_some]
  rw [show ((-1 : Int) + (xs.length : Int)).toNat = xs.length - 1 by omega]
  exact List.getElem?_eq_getElem (by omega)
/-- what a list of such a content has at a place -/
theorem ixA_at {x r : AV} {l h i : Int} {xs : List D} (e : ixA x l h = some r) (m : mem x (.tup xs) = true) (h1 : l ≤ i) (h2 : i ≤ h) : ∃ z, atD xs i = some z ∧ mem r z = true := by
  cases x <;> simp only [ixA] at e <;> first | (cases e; done) | skip
  case tup as =>
    split at e
    · next hc =>
      simp only [Bool.and_eq_true, decide_eq_true_eq] at hc
      simp only [mem] at m
      obtain ⟨m1, m2⟩ := mems_at m
      obtain ⟨z, hz, hz2⟩ := atD_nat (xs := xs) (i := i) (by omega) (by omega)
      obtain ⟨a, ha, ma⟩ := m2 _ _ hz2
      exact ⟨z, hz, hull_ok e (mem_drop_take ha (by omega) hc.1 (by omega)) ma⟩
    · cases e
  case tupO es =>
    split at e
    · next hc =>
      simp only [Bool.or_eq_true, Bool.and_eq_true, decide_eq_true_eq] at hc
      simp only [mem] at m
      have hl := (memO_len m).1
      have fin : ∀ z ∈ xs, mem r z = true := fun z hz => by
        obtain ⟨e', he, me⟩ := memO_all m z hz
        exact hull_ok e (List.mem_map_of_mem he) me
      rcases hc with hc | hc
      · obtain ⟨z, hz, hz2⟩ := atD_nat (xs := xs) (i := i) (by omega) (by omega)
        exact ⟨z, hz, fin z (List.mem_of_getElem? hz2)⟩
      · have : i = -1 := by omega
        subst this
        obtain ⟨z, hz, hz2⟩ := atD_last (xs := xs) (by omega)
        exact ⟨z, hz2, fin z hz⟩
    · cases e
  case seq a lo hi o =>
    obtain ⟨xs', ex, g1, g2, g3, _⟩ := sq_in m
    cases ex
    split at e
    · next hc =>
      cases e
      simp only [Bool.and_eq_true, decide_eq_true_eq] at hc
      obtain ⟨z, hz, hz2⟩ := atD_nat (xs := xs) (i := i) (by omega) (by omega)
      exact ⟨z, hz, g1 z (List.mem_of_getElem? hz2)⟩
    · split at e
      · next hc =>
        cases e
        simp only [Bool.and_eq_true, decide_eq_true_eq] at hc
        have : i = -1 := by omega
        subst this
        obtain ⟨z, hz, hz2⟩ := atD_last (xs := xs) (by omega)
        exact ⟨z, hz2, g1 z hz⟩
      · cases e
theorem ixA_tup {x r : AV} {l h : Int} {d : D} (e : ixA x l h = some r) (m : mem x d = true) : ∃ xs, d = .tup xs := by
  cases x <;> simp only [ixA] at e <;> first | (cases e; done) | skip
  all_goals cases d <;> simp only [mem] at m <;> first | (cases m; done) | exact ⟨_, rfl⟩
theorem ixA_ok {S : Store} {x r : AV} {l h i : Int} {d : D} (e : ixA x l h = some r) (m : mem x d = true) (h1 : l ≤ i) (h2 : i ≤ h) : ∃ z, ixD S d (.int i) = some z ∧ mem r z = true := by
  obtain ⟨xs, rfl⟩ := ixA_tup e m
  exact ixA_at e m h1 h2
theorem ixC_ok {c : Ct} {r : AV} {l h i : Int} {xs : List D} (e : ixC c l h = some r) (m : c.ok xs = true) (h1 : l ≤ i) (h2 : i ≤ h) : ∃ z, atD xs i = some z ∧ mem r z = true := by
  cases c with
  | os es =>
    simp only [ixC] at e
    have m : memO es xs = true := m
    split at e
    · next ha =>
      rw [all_must ha] at m
      exact ixA_at e (by simp only [mem]; exact memO_must.mpr m) h1 h2
    · exact ixA_at e (by simp only [mem]; exact m) h1 h2
  | sm a lo hi o =>
    simp only [ixC] at e
    exact ixA_at e (in_sq (sm_ok.mp m)) h1 h2
theorem lenA_ok {S : Store} {a : AV} {p : Int × Int} {d : D} (e : lenA a = some p) (m : mem a d = true) : ∃ z, bltD S .len [d] = some z ∧ mem (.int p.1 p.2) z = true := by
  unfold lenA at e
  split at e
  · cases e
    cases d <;> simp only [mem] at m <;> first | (cases m; done) | skip
    have := (mems_at m).1
    exact ⟨_, rfl, in_int (by omega) (by omega)⟩
  · cases e
    cases d <;> simp only [mem] at m <;> first | (cases m; done) | skip
    have := memO_len m
    exact ⟨_, rfl, in_int (by show ((musts _ : Nat) : Int) ≤ _; omega) (by omega)⟩
  · cases e
    obtain ⟨xs, rfl, _, h1, h2, _⟩ := sq_in m
    exact ⟨_, rfl, in_int (by omega) (by omega)⟩
  · split at e
    · next hz =>
      cases e
      cases d <;> simp only [mem] at m <;> first | (cases m; done) | skip
      have := of_decide_eq_true m
      simp only [List.mem_singleton] at this
      subst this
      exact ⟨_, by simp only [bltD, hz, if_true], in_int (Int.le_refl _) (Int.le_refl _)⟩
    · cases e
  · cases e
theorem blt1_ok {S : Store} {b : B} {a r : AV} {d : D} (e : bltA b [a] = some r) (m : mem a d = true) : ∃ z, bltD S b [d] = some z ∧ mem r z = true := by
  unfold bltA at e
  split at e
  · next x hx =>
    cases hx
    obtain ⟨p, hp, rfl⟩ := Option.map_eq_some_iff.mp e
    exact lenA_ok hp m
  · next b hx =>
    cases hx
    obtain ⟨c, rfl, hc⟩ := bl_in m
    cases e
    refine ⟨_, rfl, ?_⟩
    split
    · rw [hc _ rfl]; rfl
    · rw [hc _ rfl]; rfl
    · cases c <;> rfl
  · next l h hx =>
    cases hx
    cases e
    obtain ⟨i, rfl, h1, h2⟩ := int_in m
    exact ⟨_, rfl, in_int h1 h2⟩
  · next hx => cases hx
  · next hx => cases hx
  · cases e
theorem blt2_ok {S : Store} {b : B} {a a2 r : AV} {d d2 : D} (e : bltA b [a, a2] = some r) (m : mem a d = true) (n : mem a2 d2 = true) : ∃ z, bltD S b [d, d2] = some z ∧ mem r z = true := by
  unfold bltA at e
  split at e
  · next hx => cases hx
  · next hx => cases hx
  · next hx => cases hx
  · next hx =>
    cases hx
    cases e
    obtain ⟨i, rfl, h1, h2⟩ := int_in m
    obtain ⟨j, rfl, h3, h4⟩ := int_in n
    refine ⟨_, rfl, in_int ?_ ?_⟩ <;> split <;> omega
  · next hx =>
    cases hx
    cases e
    obtain ⟨i, rfl, h1, h2⟩ := int_in m
    obtain ⟨j, rfl, h3, h4⟩ := int_in n
    refine ⟨_, rfl, in_int ?_ ?_⟩ <;> split <;> omega
  · cases e
theorem memO_ints : ∀ (n : Nat) (l : Int), memO ((List.range n).map fun i => (true, AV.int (l + (i : Nat)) (l + (i : Nat)))) ((List.range n).map fun i => .int (l + (i : Nat))) = true := by
  intro n l
  have := memO_must (as := (List.range n).map fun i => AV.int (l + (i : Nat)) (l + (i : Nat))) (ds := (List.range n).map fun i => D.int (l + (i : Nat)))
  rw [List.map_map] at this
  refine this.mp ?_
  generalize List.range n = r
  induction r with
  | nil => rfl
  | cons x r ih =>
    simp only [List.map_cons, mems, Bool.and_eq_true]
    exact ⟨in_int (Int.le_refl _) (Int.le_refl _), ih⟩
theorem rngC_ok {l h l2 h2 i j : Int} {c : Ct} (e : rngC l h l2 h2 = some c) (a1 : l ≤ i) (a2 : i ≤ h) (a3 : l2 ≤ j) (a4 : j ≤ h2) : rngOk i j = true ∧ c.ok (rngL i j) = true := by
  unfold rngC at e
  split at e
  · next hc =>
    simp only [Bool.and_eq_true, decide_eq_true_eq] at hc
    refine ⟨rngOk_of (by omega), ?_⟩
    split at e
    · next h3 =>
      cases e
      simp only [Bool.and_eq_true, decide_eq_true_eq] at h3
      have e1 : i = l := by omega
      have e2 : j = l2 := by omega
      subst e1; subst e2
      exact memO_ints _ _
    · cases e
      refine sm_ok.mpr ⟨fun d hd => ?_, by rw [rng_len]; omega, by rw [rng_len]; omega, rfl⟩
      obtain ⟨k, hk, rfl⟩ := List.mem_map.mp hd
      have := List.mem_range.mp hk
      exact in_int (by omega) (by omega)
  · cases e
theorem cut_len {α : Type} (xs : List α) (lo hi : Option Int) : (cut xs lo hi).length ≤ xs.length := by
  unfold cut
  rw [List.length_take, List.length_drop]
  omega
theorem cut_mem {α : Type} {xs : List α} {lo hi : Option Int} {x : α} (h : x ∈ cut xs lo hi) : x ∈ xs := List.mem_of_mem_drop (List.mem_of_mem_take h)
theorem cut_all {α : Type} (xs : List α) : cut xs none none = xs := by
  unfold cut
  show (xs.drop 0).take (xs.length - 0) = xs
  simp
/-- what a bound of a slice may be -/
def OkI : Option (Int × Int) → Option Int → Prop
  | none, none => True
  | some (l, h), some i => l ≤ i ∧ i ≤ h
  | _, _ => False
theorem cutC_ok {c r : Ct} {lo hi : Option (Int × Int)} {i j : Option Int} {xs : List D} (e : cutC c lo hi = some r) (m : c.ok xs = true) (h1 : OkI lo i) (h2 : OkI hi j) : r.ok (cut xs i j) = true := by
  have key : ∀ {r : Ct}, (match c.hull with | some a => some (Ct.sm a 0 c.hi 0) | none => some (.os [])) = some r → r.ok (cut xs i j) = true := fun {r} e => by
    split at e
    · next a ha =>
      cases e
      have := (Ct.len m).2
      exact sm_ok.mpr ⟨fun d hd => Ct.hullMem m ha d (cut_mem hd), Nat.zero_le _, Nat.le_trans (cut_len _ _ _) this, rfl⟩
    · next ha =>
      cases e
      have := Ct.hull_none m ha
      subst this
      have : cut ([] : List D) i j = [] := by unfold cut; simp
      rw [this]; rfl
  unfold cutC at e
  split at e
  · cases e
    cases i <;> cases j <;> simp only [OkI] at h1 h2
    rw [cut_all]; exact m
  · next l h =>
    split at e
    · next hl =>
      have hl := of_decide_eq_true hl
      split at e
      · next a ha =>
        cases e
        cases i <;> cases j <;> simp only [OkI] at h1 h2
        rename_i k
        have e2 := (Ct.len m).2
        have e3 := cut_len xs none (some k)
        refine sm_ok.mpr ⟨fun d hd => Ct.hullMem m ha d (cut_mem hd), Nat.zero_le _, ?_, rfl⟩
        have e4 : (cut xs none (some k)).length ≤ k.toNat := by
          have hk : ((k.toNat : Nat) : Int) = k := by omega
          rw [← hk]
          unfold cut
          rw [HT.sIx_nat, List.length_take]
          have : HT.sIx xs.length 0 none = 0 := rfl
          rw [this]
          omega
        omega
      · next ha =>
        cases e
        have := Ct.hull_none m ha
        subst this
        have : cut ([] : List D) i j = [] := by unfold cut; simp
        rw [this]; rfl
    · exact key e
  · exact key e
theorem sum_sm (c : Ct) : ∃ a l h o, c.sum = .sm a l h o := by
  cases c with
  | sm a l h o => exact ⟨_, _, _, _, rfl⟩
  | os es =>
    simp only [Ct.sum]
    split
    · exact ⟨_, _, _, _, rfl⟩
    · exact ⟨_, _, _, _, rfl⟩
theorem catC_ok {c d r : Ct} {xs ys : List D} (e : catC c d = some r) (m : c.ok xs = true) (n : d.ok ys = true) : r.ok (xs ++ ys) = true ∧ xs.length + ys.length ≤ 1000 := by
  have key : ∀ {r : Ct}, (match c.sum, d.sum with
    | .sm a l h _, .sm b l2 h2 _ => if h + h2 ≤ 1000 then some (Ct.sm (if h = 0 then b else if h2 = 0 then a else hull.joinHull a b) (l + l2) (h + h2) 0) else none
    | _, _ => none) = some r → r.ok (xs ++ ys) = true ∧ xs.length + ys.length ≤ 1000 := fun {r} e => by
    have m := Ct.sum_ok m
    have n := Ct.sum_ok n
    obtain ⟨a, l, h, o, e1⟩ := sum_sm c
    obtain ⟨b, l2, h2, o2, e2⟩ := sum_sm d
    rw [e1, e2] at e
    rw [e1] at m
    rw [e2] at n
    simp only at e
    split at e
    · cases e
      obtain ⟨m1, m2, m3, _⟩ := sm_ok.mp m
      obtain ⟨n1, n2, n3, _⟩ := sm_ok.mp n
      exact ⟨sm_ok.mpr ⟨hullJ m1 n1 m3 n3, by simp; omega, by simp; omega, rfl⟩, by omega⟩
    · cases e
  cases c with
  | sm a l h o => exact key e
  | os es =>
    cases d with
    | sm a l h o => exact key e
    | os fs =>
      simp only [catC] at e
      split at e
      · cases e
        have l1 := (memO_len m).2
        have l2 := (memO_len n).2
        exact ⟨memO_app m n, by omega⟩
      · cases e
theorem rep_all {a : AV} {xs : List D} (h : ∀ d ∈ xs, mem a d = true) : ∀ k : Nat, ∀ d ∈ (List.replicate k xs).flatten, mem a d = true := fun k d hd => by
  obtain ⟨l, hl, hd⟩ := List.mem_flatten.mp hd
  rw [(List.mem_replicate.mp hl).2] at hd
  exact h d hd
theorem rep_len {α : Type} (xs : List α) (k : Nat) : (List.replicate k xs).flatten.length = k * xs.length := by simp
theorem repC_ok {c r : Ct} {l h i : Int} {xs : List D} (e : repC c l h = some r) (m : c.ok xs = true) (h1 : l ≤ i) (h2 : i ≤ h) : r.ok (List.replicate i.toNat xs).flatten = true ∧ xs.length ≤ 1000 ∧ -1000 ≤ i ∧ i ≤ 1000 := by
  unfold repC at e
  split at e
  · next hc =>
    simp only [Bool.and_eq_true, decide_eq_true_eq] at hc
    have hl := (Ct.len m)
    refine ⟨?_, by omega, by omega, by omega⟩
    have key : ∀ {c r : Ct}, c.ok xs = true → (match c.sum with
      | .sm a lo hi _ => some (Ct.sm a (lo * l.toNat) (hi * h.toNat) 0)
      | _ => none) = some r → r.ok (List.replicate i.toNat xs).flatten = true := fun {c r} m e => by
      have m := Ct.sum_ok m
      obtain ⟨a, lo, hi, o, e1⟩ := sum_sm c
      rw [e1] at e m
      simp only at e
      cases e
      obtain ⟨m1, m2, m3, _⟩ := sm_ok.mp m
      refine sm_ok.mpr ⟨rep_all m1 _, ?_, ?_, rfl⟩
      · rw [rep_len, Nat.mul_comm]
        exact Nat.mul_le_mul (by omega) m2
      · rw [rep_len, Nat.mul_comm]
        exact Nat.mul_le_mul m3 (by omega)
    cases c with
    | sm a lo hi o => exact key (c := .sm a lo hi o) m e
    | os es =>
      simp only at e
      split at e
      · next e0 =>
        cases e
        have : i = l := by omega
        subst this
        clear key
        show memO _ _ = true
        generalize i.toNat = k
        induction k with
        | zero => rfl
        | succ k ih =>
          rw [List.replicate_succ, List.replicate_succ, List.flatten_cons, List.flatten_cons]
          exact memO_app m ih
      · split at e
        · next e0 =>
          cases e
          simp only [Bool.and_eq_true, decide_eq_true_eq] at e0
          have : i = 0 ∨ i = 1 := by omega
          rcases this with rfl | rfl
          · exact memO_nilO es
          · show memO (optl es) ((List.replicate 1 xs).flatten) = true
            simpa using memO_optl m
        · exact key m e
  · cases e
theorem pairs_of_mem {l h l2 h2 : Int} : ∀ {xs : List D}, (∀ d ∈ xs, mem (.tup [.int l h, .int l2 h2]) d = true) → ∃ ps : List (Int × Int), xs = ps.map ofPair ∧ ∀ p ∈ ps, (l ≤ p.1 ∧ p.1 ≤ h) ∧ l2 ≤ p.2 ∧ p.2 ≤ h2
  | [], _ => ⟨[], rfl, fun _ h => nomatch h⟩
  | x :: r, hx => by
    obtain ⟨ps, e, hp⟩ := pairs_of_mem (xs := r) fun d hd => hx d (List.mem_cons_of_mem _ hd)
    have m := hx x (List.mem_cons_self ..)
    cases x <;> simp only [mem] at m <;> first | (cases m; done) | skip
    rename_i ds
    match ds, m with
    | [], m => simp [mems] at m
    | [_], m => simp [mems] at m
    | a :: b :: c :: t, m => simp [mems] at m
    | [a, b], m =>
      simp only [mems, Bool.and_true, Bool.and_eq_true] at m
      obtain ⟨i, rfl, g1, g2⟩ := int_in m.1
      obtain ⟨j, rfl, g3, g4⟩ := int_in m.2
      refine ⟨(i, j) :: ps, by rw [e]; rfl, fun p hp2 => ?_⟩
      rcases List.mem_cons.mp hp2 with z | z
      · subst z; exact ⟨⟨g1, g2⟩, g3, g4⟩
      · exact hp p z
theorem ints_of_mem {l h : Int} : ∀ {xs : List D}, (∀ d ∈ xs, mem (.int l h) d = true) → ∃ ps : List Int, xs = ps.map .int ∧ ∀ p ∈ ps, l ≤ p ∧ p ≤ h
  | [], _ => ⟨[], rfl, fun _ h => nomatch h⟩
  | x :: r, hx => by
    obtain ⟨ps, e, hp⟩ := ints_of_mem (xs := r) fun d hd => hx d (List.mem_cons_of_mem _ hd)
    obtain ⟨i, rfl, g1, g2⟩ := int_in (hx x (List.mem_cons_self ..))
    refine ⟨i :: ps, by rw [e]; rfl, fun p hp2 => ?_⟩
    rcases List.mem_cons.mp hp2 with z | z
    · subst z; exact ⟨g1, g2⟩
    · exact hp p z
theorem pair_mem {l h l2 h2 : Int} {p : Int × Int} (hp : (l ≤ p.1 ∧ p.1 ≤ h) ∧ l2 ≤ p.2 ∧ p.2 ≤ h2) : mem (.tup [.int l h, .int l2 h2]) (ofPair p) = true := by
  simp only [ofPair, mem, mems, Bool.and_true, Bool.and_eq_true, decide_eq_true_eq]
  exact hp
theorem dedup_srt {ps : List (Int × Int)} (nd : ps.Nodup) : dedup ps = ps := by
  induction ps with
  | nil => rfl
  | cons x r ih =>
    obtain ⟨h1, h2⟩ := List.nodup_cons.mp nd
    unfold dedup
    rw [if_neg h1, ih h2]
theorem ord2_set (ps : List (Int × Int)) : ordB 2 ((srtP (dedup ps)).map ofPair) = true := by
  show (match asPairs ((srtP (dedup ps)).map ofPair) with
    | some ps => decide (srtP (dedup ps) = ps)
    | none => _) = true
  rw [asPairs_of]
  simp only
  refine decide_eq_true ?_
  have nd : (srtP (dedup ps)).Nodup := (srt_perm _).nodup_iff.mpr (dedup_nodup ps)
  rw [dedup_srt nd, srt_up up_srt]
theorem asPairs_ints {q : Int} {t : List Int} : asPairs ((q :: t).map .int) = none := by
  unfold asPairs
  show mapO asPair (.int q :: _) = none
  unfold mapO
  rfl
theorem sortSetD_ints {ns : List Int} (h : ns.length < 64) : sortSetD (ns.map .int) = some ((srtI (dedup ns)).map .int) := by
  cases ns with
  | nil => rfl
  | cons q t =>
    unfold sortSetD
    rw [asPairs_ints, asInts_of]
    simp only
    rw [if_pos h]
theorem dedup_srtI {ps : List Int} (nd : ps.Nodup) : dedup ps = ps := by
  induction ps with
  | nil => rfl
  | cons x r ih =>
    obtain ⟨h1, h2⟩ := List.nodup_cons.mp nd
    unfold dedup
    rw [if_neg h1, ih h2]
theorem ord2_setI (ps : List Int) : ordB 2 ((srtI (dedup ps)).map .int) = true := by
  have nd : (srtI (dedup ps)).Nodup := (srt_perm _).nodup_iff.mpr (dedup_nodup ps)
  have so : srtI (dedup (srtI (dedup ps))) = srtI (dedup ps) := by
    rw [dedup_srtI nd]
    exact (srtI_one (List.Perm.refl _) (srtI_up _)).symm
  show (match asPairs ((srtI (dedup ps)).map .int) with
    | some ps => decide (srtP (dedup ps) = ps)
    | none => match asInts ((srtI (dedup ps)).map .int) with
      | some ns => decide (srtI (dedup ns) = ns)
      | none => false) = true
  rw [asInts_of]
  cases hq : srtI (dedup ps) with
  | nil => rfl
  | cons q t =>
    rw [asPairs_ints]
    rw [hq] at so
    exact decide_eq_true so
theorem sortSetC_ok {c r : Ct} {xs : List D} (e : sortSetC c = some r) (m : c.ok xs = true) : ∃ ys, sortSetD xs = some ys ∧ r.ok ys = true := by
  have m := Ct.sum_ok m
  obtain ⟨a, lo, hi, o, e1⟩ := sum_sm c
  unfold sortSetC at e
  rw [e1] at e m
  simp only at e
  obtain ⟨m1, m2, m3, _⟩ := sm_ok.mp m
  split at e
  · cases e
    have : xs = [] := List.eq_nil_of_length_eq_zero (by omega)
    subst this
    exact ⟨[], rfl, rfl⟩
  · split at e
    · next hc =>
      cases e
      simp only [Bool.and_eq_true, decide_eq_true_eq] at hc
      obtain ⟨hp, hl⟩ := hc
      rcases Bool.or_eq_true_iff.mp hp with hp | hp
      rotate_left
      · unfold intA at hp
        split at hp
        · obtain ⟨ps, rfl, hps⟩ := ints_of_mem m1
          rw [List.length_map] at m2 m3
          refine ⟨_, sortSetD_ints (by omega), sm_ok.mpr ⟨fun d hd => ?_, ?_, ?_, ord2_setI ps⟩⟩
          · obtain ⟨p, hp2, rfl⟩ := List.mem_map.mp hd
            have := hps p (mem_dedup.mp ((srt_perm _).mem_iff.mp hp2))
            exact in_int this.1 this.2
          · rw [List.length_map, (srt_perm (dedup ps)).length_eq]
            split
            · omega
            · have : dedup ps ≠ [] := fun e => by
                cases ps with
                | nil => simp at m2; omega
                | cons p t =>
                  have : p ∈ dedup (p :: t) := mem_dedup.mpr (List.mem_cons_self ..)
                  rw [e] at this; cases this
              exact List.length_pos_iff.mpr this
          · rw [List.length_map, (srt_perm (dedup ps)).length_eq]
            have := dedup_len ps
            omega
        · cases hp
      unfold pairB at hp
      split at hp
      · next l h l2 h2 =>
        simp only [Bool.and_eq_true, decide_eq_true_eq] at hp
        obtain ⟨ps, rfl, hps⟩ := pairs_of_mem m1
        rw [List.length_map] at m2 m3
        refine ⟨_, sortSetD_pairs (by omega) fun p hp2 => ?_, sm_ok.mpr ⟨fun d hd => ?_, ?_, ?_, ord2_set ps⟩⟩
        · have := hps p hp2; omega
        · obtain ⟨p, hp2, rfl⟩ := List.mem_map.mp hd
          exact pair_mem (hps p (mem_dedup.mp (mem_srtP.mp hp2)))
        · rw [List.length_map, (srt_perm (dedup ps)).length_eq]
          split
          · omega
          · have : dedup ps ≠ [] := fun e => by
              cases ps with
              | nil => simp at m2; omega
              | cons p t =>
                have : p ∈ dedup (p :: t) := mem_dedup.mpr (List.mem_cons_self ..)
                rw [e] at this; cases this
            exact List.length_pos_iff.mpr this
        · rw [List.length_map, (srt_perm (dedup ps)).length_eq]
          have := dedup_len ps
          omega
      · cases hp
    · cases e
theorem sortD_ints {ns : List Int} : sortD (ns.map .int) = some ((srtI ns).map .int) := by
  unfold sortD
  rw [asInts_of]
theorem sortC_ok {c r : Ct} {xs : List D} (e : sortC c = some r) (m : c.ok xs = true) : ∃ ys, sortD xs = some ys ∧ r.ok ys = true := by
  have m := Ct.sum_ok m
  obtain ⟨a, lo, hi, o, e1⟩ := sum_sm c
  unfold sortC at e
  rw [e1] at e m
  simp only at e
  obtain ⟨m1, m2, m3, _⟩ := sm_ok.mp m
  split at e
  · cases e
    have : xs = [] := List.eq_nil_of_length_eq_zero (by omega)
    subst this
    exact ⟨[], rfl, rfl⟩
  · split at e
    · next hc =>
      cases e
      simp only [Bool.or_eq_true] at hc
      rcases hc with hp | hp
      · unfold pairA at hp
        split at hp
        · obtain ⟨ps, rfl, hps⟩ := pairs_of_mem m1
          rw [List.length_map] at m2 m3
          refine ⟨_, sortD_pairs, sm_ok.mpr ⟨fun d hd => ?_, ?_, ?_, ?_⟩⟩
          · obtain ⟨p, hp2, rfl⟩ := List.mem_map.mp hd
            exact pair_mem (hps p (mem_srtP.mp hp2))
          · rw [List.length_map, (srt_perm ps).length_eq]; exact m2
          · rw [List.length_map, (srt_perm ps).length_eq]; exact m3
          · show (match asPairs ((srtP ps).map ofPair) with
              | some ps => decide (srtP ps = ps)
              | none => _) = true
            rw [asPairs_of]
            exact decide_eq_true (srt_up up_srt)
        · cases hp
      · unfold intA at hp
        split at hp
        · obtain ⟨ps, rfl, hps⟩ := ints_of_mem m1
          rw [List.length_map] at m2 m3
          refine ⟨_, sortD_ints, sm_ok.mpr ⟨fun d hd => ?_, ?_, ?_, ?_⟩⟩
          · obtain ⟨p, hp2, rfl⟩ := List.mem_map.mp hd
            have := hps p ((srt_perm ps).mem_iff.mp hp2)
            exact in_int this.1 this.2
          · rw [List.length_map, (srt_perm ps).length_eq]; exact m2
          · rw [List.length_map, (srt_perm ps).length_eq]; exact m3
          · have ai : asInts ((srtI ps).map .int) = some (srtI ps) := asInts_of
            have so : srtI (srtI ps) = srtI ps := (srtI_one (List.Perm.refl _) (srtI_up ps)).symm
            show (match asPairs ((srtI ps).map .int) with
              | some ps => decide (srtP ps = ps)
              | none => match asInts ((srtI ps).map .int) with
                | some ns => decide (srtI ns = ns)
                | none => false) = true
            rw [ai]
            cases hq : srtI ps with
            | nil => rfl
            | cons q t =>
              have : asPairs (((q :: t) : List Int).map .int) = none := by
                unfold asPairs
                show mapO asPair (.int q :: _) = none
                unfold mapO
                rfl
              rw [this]
              rw [hq] at so
              exact decide_eq_true so
        · cases hp
    · cases e
theorem ofD_ok {d : D} {a : AV} (h : ofD d = some a) : mem a d = true := by
  unfold ofD at h
  split at h <;> first | (cases h; done) | skip
  all_goals cases h
  · exact in_int (Int.le_refl _) (Int.le_refl _)
  · exact in_bl fun x hx => Option.some.inj hx
  · rfl
  · simp [mem]
  · rfl
theorem truthA_ok {S : Store} {a : AV} {b : Option Bool} {d : D} (h : truthA a = some b) (m : mem a d = true) : ∃ c, truthD S d = some c ∧ Says b c := by
  unfold truthA at h
  split at h
  · cases h
    obtain ⟨c, rfl, hc⟩ := bl_in m
    exact ⟨c, rfl, hc⟩
  · cases h
    obtain ⟨i, rfl, h1, h2⟩ := int_in m
    refine ⟨i != 0, rfl, fun x hx => ?_⟩
    split at hx
    · cases hx; simp; omega
    · split at hx
      · cases hx; simp; omega
      · cases hx
  · cases h
    cases d <;> simp only [mem] at m <;> first | (cases m; done) | skip
    exact ⟨false, rfl, fun x hx => Option.some.inj hx⟩
  · cases h
theorem flatten_ok {a : AV} {d : D} (m : mem a d = true) : mem (flatten a) d = true := by
  unfold flatten
  split
  · next as =>
    split
    · next b hb =>
      simp only [mem] at m
      obtain ⟨x, hx, mx⟩ := memA_iff.mp m
      exact hull_ok hb hx mx
    · exact m
  · next b lo hi o =>
    split
    · next hc =>
      obtain ⟨xs, rfl, h1, h2, h3, h4⟩ := sq_in m
      have hl : xs.length = lo := by omega
      clear m h2 h3 hc h4
      simp only [mem]
      induction xs generalizing lo with
      | nil => simp at hl; subst hl; rfl
      | cons x t ih =>
        cases lo with
        | zero => simp at hl
        | succ k =>
          rw [List.replicate_succ]
          simp only [mems, Bool.and_eq_true]
          exact ⟨h1 x (List.mem_cons_self ..), ih _ (fun d hd => h1 d (List.mem_cons_of_mem _ hd)) (by simpa using hl)⟩
    · exact m
  · exact m
end Wb

/-! A6: environments as they are read. -/
namespace Wb
open PySem
def Hold (s : Store) : XV → D → Prop
  | .fl a, d => mem a d = true
  | .ls c _, d => ∃ q xs, d = .ref q ∧ 2 ≤ q ∧ s[q]? = some (.lst xs) ∧ c.ok xs = true
  | .feed, d => d = .ref 1
structure EOk (base : Nat) (g : AEnv) (r : Wb.Env) (s : Store) : Prop where
  len : g.length ≤ r.length
  refs : ∀ (i q : Nat), r[i]? = some (some (D.ref q)) → q = 1 ∨ (base ≤ q ∧ q < s.length)
  val : ∀ (i : Nat) (x : XV), g[i]? = some (some x) → ∃ d, r[i]? = some (some d) ∧ Hold s x d
  ap : ∀ (i j q : Nat), i ≠ j → r[i]? = some (some (D.ref q)) → r[j]? = some (some (D.ref q)) → q = 1
structure Frm (r : Wb.Env) (s s' : Store) : Prop where
  len : s.length ≤ s'.length
  old : ∀ q, q < s.length → q ≠ 1 → (∀ i : Nat, r[i]? ≠ some (some (D.ref q))) → s'[q]? = s[q]?
section
variable {base : Nat} {g h : AEnv} {r : Wb.Env} {s s1 s2 : Store} {x : XV} {d : D} {a : AV}
theorem Frm.rfl' : Frm r s s := ⟨Nat.le_refl _, fun _ _ _ _ => rfl⟩
theorem Frm.trans (f : Frm r s s1) (g : Frm r s1 s2) : Frm r s s2 := ⟨Nat.le_trans f.len g.len, fun q h1 h2 h3 => (g.old q (Nat.lt_of_lt_of_le h1 f.len) h2 h3).trans (f.old q h1 h2 h3)⟩
theorem Frm.step (f : Step 1 s s1) : Frm r s s1 := ⟨f.len, fun q h1 h2 _ => f.old q h1 h2⟩
theorem Frm.push {o : O} : Frm r s (s ++ [o]) := Frm.step Step.push
theorem Frm.put {q i : Nat} {o : O} (h : r[i]? = some (some (D.ref q))) : Frm r s (s.set q o) := ⟨by simp, fun p h1 h2 h3 => set_other fun e => h3 i (by rw [e]; exact h)⟩
theorem mem_noref {q : Nat} (h : mem a (.ref q) = true) : False := by
  have := mem_nr _ _ h
  cases this
theorem Hold.cong (h : Hold s x d) (hq : ∀ q : Nat, d = .ref q → q ≠ 1 → s1[q]? = s[q]?) : Hold s1 x d := by
  cases x with
  | fl a => exact h
  | feed => exact h
  | ls c f =>
    obtain ⟨q, xs, rfl, h2, h3, h4⟩ := h
    exact ⟨q, xs, rfl, h2, (hq q rfl (by omega)).trans h3, h4⟩
theorem EOk.cong (e : EOk base g r s) (hl : s.length ≤ s1.length) (hq : ∀ (i q : Nat), r[i]? = some (some (D.ref q)) → q ≠ 1 → s1[q]? = s[q]?) : EOk base g r s1 :=
  ⟨e.len, fun i q h => (e.refs i q h).imp id fun z => ⟨z.1, Nat.lt_of_lt_of_le z.2 hl⟩, fun i x h => let ⟨d, h1, h2⟩ := e.val i x h; ⟨d, h1, h2.cong fun q hd n => hq i q (by rw [h1, hd]) n⟩, e.ap⟩
theorem EOk.step (e : EOk base g r s) (f : Step 1 s s1) : EOk base g r s1 := e.cong f.len fun i q h n => by
  rcases e.refs i q h with z | z
  · exact absurd z n
  · exact f.old q z.2 n
theorem EOk.push (e : EOk base g r s) {o : O} : EOk base g r (s ++ [o]) := e.step Step.push
/-- a name's list is written -/
theorem EOk.put (e : EOk base g r s) {i q : Nat} {xs : List D} {c : Ct} {f : Bool} (hi : r[i]? = some (some (D.ref q))) (h1 : q ≠ 1) (h2 : 2 ≤ q) (hc : c.ok xs = true) (hlt : q < s.length) : EOk base (g.set i (some (.ls c f))) r (s.set q (.lst xs)) := by
  refine ⟨by simpa using e.len, fun j p h => (e.refs j p h).imp id fun z => ⟨z.1, by simpa using z.2⟩, fun j x h => ?_, e.ap⟩
  by_cases hj : j = i
  · subst hj
    have hl : j < g.length := by
      have := (List.getElem?_eq_some_iff.mp h).1
      simpa using this
    rw [List.getElem?_set_self hl] at h
    cases h
    exact ⟨_, hi, q, xs, rfl, h2, by rw [List.getElem?_set_self hlt], hc⟩
  · rw [List.getElem?_set_ne (Ne.symm hj)] at h
    obtain ⟨d, h3, h4⟩ := e.val j x h
    refine ⟨d, h3, h4.cong fun p hd n => set_other fun z => ?_⟩
    subst hd
    subst z
    exact h1 (e.ap j i p hj h3 hi)
/-- a name is given another value -/
theorem EOk.asg (e : EOk base g r s) {i : Nat} (hx : Hold s x d) (hr : ∀ q : Nat, d = .ref q → (base ≤ q ∧ q < s.length) ∧ ∀ j : Nat, r[j]? ≠ some (some (D.ref q))) : EOk base (g.set i (some x)) (r.set i (some d)) s := by
  refine ⟨by simpa using e.len, fun j q h => ?_, fun j y h => ?_, fun j k q hjk h1 h2 => ?_⟩
  · by_cases hj : j = i
    · subst hj
      have hl : j < r.length := by
        have := (List.getElem?_eq_some_iff.mp h).1
        simpa using this
      rw [List.getElem?_set_self hl] at h
      cases h
      exact .inr (hr q rfl).1
    · rw [List.getElem?_set_ne (Ne.symm hj)] at h
      exact e.refs j q h
  · by_cases hj : j = i
    · subst hj
      have hl : j < g.length := by
        have := (List.getElem?_eq_some_iff.mp h).1
        simpa using this
      rw [List.getElem?_set_self hl] at h
      cases h
      exact ⟨d, by rw [List.getElem?_set_self (Nat.lt_of_lt_of_le hl e.len)], hx⟩
    · rw [List.getElem?_set_ne (Ne.symm hj)] at h
      obtain ⟨d', h1, h2⟩ := e.val j y h
      exact ⟨d', by rw [List.getElem?_set_ne (Ne.symm hj)]; exact h1, h2⟩
  · by_cases hj : j = i
    · subst hj
      have hl : j < r.length := by
        have := (List.getElem?_eq_some_iff.mp h1).1
        simpa using this
      rw [List.getElem?_set_self hl] at h1
      cases h1
      rw [List.getElem?_set_ne hjk] at h2
      exact absurd h2 ((hr q rfl).2 k)
    · by_cases hk : k = i
      · subst hk
        have hl : k < r.length := by
          have := (List.getElem?_eq_some_iff.mp h2).1
          simpa using this
        rw [List.getElem?_set_self hl] at h2
        cases h2
        rw [List.getElem?_set_ne (Ne.symm hjk)] at h1
        exact absurd h1 ((hr q rfl).2 j)
      · rw [List.getElem?_set_ne (Ne.symm hj)] at h1
        rw [List.getElem?_set_ne (Ne.symm hk)] at h2
        exact e.ap j k q hjk h1 h2
theorem EOk.asgF (e : EOk base g r s) {i : Nat} (h : mem a d = true) : EOk base (g.set i (some (.fl a))) (r.set i (some d)) s :=
  e.asg (x := .fl a) h fun q hd => (mem_noref (hd ▸ h)).elim
/-- less is said -/
theorem EOk.weak (e : EOk base g r s) (hl : h.length ≤ g.length) (hw : ∀ (i : Nat) (x : XV), h[i]? = some (some x) → ∃ y, g[i]? = some (some y) ∧ ∀ d, Hold s y d → Hold s x d) : EOk base h r s :=
  ⟨Nat.le_trans hl e.len, e.refs, fun i x hi => let ⟨y, h1, h2⟩ := hw i x hi; let ⟨d, h3, h4⟩ := e.val i y h1; ⟨d, h3, h2 d h4⟩, e.ap⟩
theorem joinX_ok {x y : Option XV} {z : XV} (h : joinX x y = some z) : (∃ u, x = some u ∧ ∀ d, Hold s u d → Hold s z d) ∧ ∃ u, y = some u ∧ ∀ d, Hold s u d → Hold s z d := by
  unfold joinX at h
  split at h
  · cases h
    exact ⟨⟨_, rfl, fun d m => joinA_ok (.inl m)⟩, _, rfl, fun d m => joinA_ok (.inr m)⟩
  · cases h
    exact ⟨⟨_, rfl, fun d ⟨q, xs, e, h2, h3, h4⟩ => ⟨q, xs, e, h2, h3, joinC_ok (.inl h4)⟩⟩, _, rfl, fun d ⟨q, xs, e, h2, h3, h4⟩ => ⟨q, xs, e, h2, h3, joinC_ok (.inr h4)⟩⟩
  · cases h
    exact ⟨⟨_, rfl, fun _ h => h⟩, _, rfl, fun _ h => h⟩
  · cases h
theorem joinG_at {i : Nat} {z : XV} (e : (joinG g h)[i]? = some (some z)) : ∃ x y, g[i]? = some x ∧ h[i]? = some y ∧ joinX x y = some z := by
  unfold joinG at e
  rw [List.getElem?_zipWith] at e
  cases h1 : g[i]? with
  | none => rw [h1] at e; cases e
  | some x =>
    cases h2 : h[i]? with
    | none => rw [h1, h2] at e; cases e
    | some y =>
      rw [h1, h2] at e
      simp only [Option.some.injEq] at e
      exact ⟨x, y, rfl, rfl, e⟩
theorem EOk.joinL (e : EOk base g r s) : EOk base (joinG g h) r s :=
  e.weak (by unfold joinG; simp; omega) fun i z hz => by
    obtain ⟨x, y, h1, h2, h3⟩ := joinG_at hz
    obtain ⟨⟨u, rfl, hu⟩, _⟩ := joinX_ok (s := s) h3
    exact ⟨u, h1, hu⟩
theorem EOk.joinR (e : EOk base h r s) : EOk base (joinG g h) r s :=
  e.weak (by unfold joinG; simp; omega) fun i z hz => by
    obtain ⟨x, y, h1, h2, h3⟩ := joinG_at hz
    obtain ⟨_, u, rfl, hu⟩ := joinX_ok (s := s) h3
    exact ⟨u, h2, hu⟩
theorem wipe_len {r : Wb.Env} : ∀ {vs : List Nat}, (Wb.wipe r vs).length = r.length
  | [] => rfl
  | v :: vs => by simp only [Wb.wipe, List.length_set, wipe_len (vs := vs)]
theorem wipe_get {r : Wb.Env} {i : Nat} {d : D} : ∀ {vs : List Nat}, (Wb.wipe r vs)[i]? = some (some d) → r[i]? = some (some d) ∧ i ∉ vs
  | [], h => ⟨h, by simp⟩
  | v :: vs, h => by
    simp only [Wb.wipe] at h
    by_cases e : i = v
    · subst e
      have hl : i < (Wb.wipe r vs).length := by
        have := (List.getElem?_eq_some_iff.mp h).1
        simpa using this
      rw [List.getElem?_set_self hl] at h
      cases h
    · rw [List.getElem?_set_ne (Ne.symm e)] at h
      obtain ⟨h1, h2⟩ := wipe_get h
      exact ⟨h1, by simp [e, h2]⟩
theorem wipe_keep {r : Wb.Env} {i : Nat} : ∀ {vs : List Nat}, i ∉ vs → (Wb.wipe r vs)[i]? = r[i]?
  | [], _ => rfl
  | v :: vs, h => by
    simp only [List.mem_cons, not_or] at h
    simp only [Wb.wipe]
    rw [List.getElem?_set_ne (Ne.symm h.1)]
    exact wipe_keep h.2
theorem wipeG_len {g : AEnv} : ∀ {vs : List Nat}, (wipeG g vs).length = g.length
  | [] => rfl
  | v :: vs => by simp only [wipeG, List.length_set, wipeG_len (vs := vs)]
theorem wipeG_get {g : AEnv} {i : Nat} {x : XV} : ∀ {vs : List Nat}, (wipeG g vs)[i]? = some (some x) → g[i]? = some (some x) ∧ i ∉ vs
  | [], h => ⟨h, by simp⟩
  | v :: vs, h => by
    simp only [wipeG] at h
    by_cases e : i = v
    · subst e
      have hl : i < (wipeG g vs).length := by
        have := (List.getElem?_eq_some_iff.mp h).1
        simpa using this
      rw [List.getElem?_set_self hl] at h
      cases h
    · rw [List.getElem?_set_ne (Ne.symm e)] at h
      obtain ⟨h1, h2⟩ := wipeG_get h
      exact ⟨h1, by simp [e, h2]⟩
theorem EOk.wipe (e : EOk base g r s) {own : List Nat} : EOk base (wipeG g own) (Wb.wipe r own) s := by
  refine ⟨by rw [wipeG_len, wipe_len]; exact e.len, fun i q h => e.refs i q (wipe_get h).1, fun i x h => ?_, fun i j q hij h1 h2 => e.ap i j q hij (wipe_get h1).1 (wipe_get h2).1⟩
  obtain ⟨h1, h2⟩ := wipeG_get h
  obtain ⟨d, h3, h4⟩ := e.val i x h1
  exact ⟨d, by rw [wipe_keep h2]; exact h3, h4⟩
/-- r2 holds no objects but those of r -/
def Sub (own : List Nat) (r2 r : Wb.Env) : Prop := (∀ (i q : Nat), r2[i]? = some (some (D.ref q)) → r[i]? = some (some (D.ref q)) ∧ i ∉ own) ∧ ∀ i : Nat, i ∉ own → r2[i]? = r[i]?
theorem Frm.sub {own : List Nat} {r2 : Wb.Env} (hs : Sub own r2 r) (f : Frm r2 s s1) : Frm r s s1 :=
  ⟨f.len, fun q h1 h2 h3 => f.old q h1 h2 fun i hi => h3 i (hs.1 i q hi).1⟩
theorem EOk.back {own : List Nat} {r2 : Wb.Env} {g2 : AEnv} (e : EOk base g r s) (e2 : EOk base g2 r2 s1) (hs : Sub own r2 r) (f : Frm r2 s s1) : EOk base (backG g g2 own) r s1 := by
  refine ⟨by simp [backG]; exact e.len, fun i q h => (e.refs i q h).imp id fun z => ⟨z.1, Nat.lt_of_lt_of_le z.2 f.len⟩, fun i x h => ?_, e.ap⟩
  unfold backG at h
  rw [List.getElem?_map] at h
  obtain ⟨j, hj, h⟩ := Option.map_eq_some_iff.mp h
  obtain ⟨hj1, hj2⟩ := List.getElem?_eq_some_iff.mp hj
  simp only [List.getElem_range] at hj2
  subst hj2
  split at h
  · next hc =>
    have hc : i ∈ own := List.contains_iff_mem.mp hc
    split at h
    · next a ha =>
      cases h
      exact e.val i _ ha
    · next ha =>
      cases h
      exact e.val i _ ha
    · cases h
  · next hc =>
    have hc : i ∉ own := fun z => hc (List.contains_iff_mem.mpr z)
    split at h
    · next y hy =>
      subst h
      obtain ⟨d, h1, h2⟩ := e2.val i x hy
      exact ⟨d, by rw [← hs.2 i hc]; exact h1, h2⟩
    · cases h
theorem aVar_get {i : Nat} (h : aVar g i = some x) : ∃ y, g[i]? = some (some y) ∧ (∀ s d, Hold s y d → Hold s x d) ∧ (∀ c, x ≠ .ls c true) ∧ (∀ c f, x = .ls c f → ∃ f', y = .ls c f') ∧ (∀ a, x = .fl a → y = .fl a) ∧ (x = .feed → y = .feed) := by
  unfold aVar at h
  split at h
  · next y hy =>
    cases h
    refine ⟨y, hy, ?_, ?_, ?_, ?_, ?_⟩ <;> cases y <;> simp [Hold]
  · cases h
theorem EOk.var (e : EOk base g r s) {i : Nat} (h : aVar g i = some x) : ∃ d, look r i = some d ∧ r[i]? = some (some d) ∧ Hold s x d := by
  obtain ⟨y, h1, h2, _⟩ := aVar_get h
  obtain ⟨d, h3, h4⟩ := e.val i y h1
  exact ⟨d, by simp only [look, h3], h3, h2 s d h4⟩
end
end Wb

/-! A7: the abstract reading of expressions is so. -/
namespace Wb
open PySem
def TM : Nat := 1099511627776
def Wd : Nat := 2000000
/-- how much the store may change -/
def Chg (k : Nat) (r : Wb.Env) (s s' : Store) : Prop := Frm r s s' ∧ (k ≤ 1 → Step 1 s s') ∧ (k = 0 → s' = s)
section
variable {r : Wb.Env} {s s1 s2 : Store} {k l : Nat}
theorem Chg.rfl' : Chg k r s s := ⟨Frm.rfl', fun _ => Step.rfl', fun _ => rfl⟩
theorem Chg.trans (a : Chg k r s s1) (b : Chg l r s1 s2) : Chg (max k l) r s s2 :=
  ⟨a.1.trans b.1, fun h => (a.2.1 (by omega)).trans (b.2.1 (by omega)), fun h => (b.2.2 (by omega)).trans (a.2.2 (by omega))⟩
theorem Chg.more (a : Chg k r s s1) (h : k ≤ l) : Chg l r s s1 := ⟨a.1, fun z => a.2.1 (by omega), fun z => a.2.2 (by omega)⟩
theorem Chg.step (h : Step 1 s s1) : Chg 1 r s s1 := ⟨Frm.step h, fun _ => h, fun z => absurd z (by decide)⟩
theorem Chg.frm (h : Frm r s s1) : Chg 2 r s s1 := ⟨h, fun z => absurd z (by decide), fun z => absurd z (by decide)⟩
end
def HoldF : XV → D → Prop
  | .fl a, d => mem a d = true
  | .feed, d => d = .ref 1
  | .ls _ _, _ => False
def Args : List XV → List D → Prop
  | [], ds => ds = []
  | x :: xs, ds => ∃ d r, ds = d :: r ∧ HoldF x d ∧ Args xs r
structure Ctx (DR : Nat) (acl : Nat → List XV → Option (XV × Nat)) (cl : Nat → List D → Store → Res D) (Gd : Store → Nat → Prop) (B : Nat) : Prop where
  len : ∀ s t, Gd s t → 2 ≤ s.length
  more : ∀ s t t', Gd s t → t ≤ t' → Gd s t'
  cong : ∀ (s s' : Store) t, Gd s t → s.length ≤ s'.length → s'[0]? = s[0]? → s'[1]? = s[1]? → Gd s' t
  draw : ∀ s t m, Gd s t → t ≤ TM → 0 < m → m < 1000000 → Ok (cl DR [.ref 1, .int m] s) fun d s' => ∃ v, d = .int v ∧ 0 ≤ v ∧ v < m ∧ Gd s' (t + 1) ∧ Step 1 s s'
  call : ∀ f xs x dt, f ≠ DR → acl f xs = some (x, dt) → ∀ ds s t, Gd s t → t + B ≤ TM → Args xs ds → Ok (cl f ds s) fun d s' => Gd s' (t + dt) ∧ Step 1 s s' ∧ Hold s' x d ∧ ∀ c f, x = .ls c f → ∃ q, d = .ref q ∧ s.length ≤ q
structure Inn (Gd : Store → Nat → Prop) (base t0 : Nat) (st : ASt) (r : Wb.Env) (s : Store) : Prop where
  e : EOk base st.g r s
  gd : Gd s (t0 + st.t)
  bl : base ≤ s.length
  b2 : 2 ≤ base
/-- of a list: where it lies -/
def Lies (base : Nat) (s : Store) (x : XV) (d : D) : Prop := ∀ c f, x = .ls c f → ∃ q, d = .ref q ∧ base ≤ q ∧ (f = true → s.length ≤ q)
theorem lies_fl {base : Nat} {s : Store} {a : AV} {d : D} : Lies base s (.fl a) d := fun _ _ h => nomatch h
def PE (Gd : Store → Nat → Prop) (base t0 : Nat) (r : Wb.Env) (s : Store) (st' : ASt) (x : XV) (k : Nat) : D → Store → Prop := fun d s' => Inn Gd base t0 st' r s' ∧ Chg k r s s' ∧ Hold s' x d ∧ Lies base s x d
def HoldL (base : Nat) (s s' : Store) : List XV → List D → Prop
  | [], ds => ds = []
  | x :: xs, ds => ∃ d r, ds = d :: r ∧ Hold s' x d ∧ Lies base s x d ∧ HoldL base s s' xs r
def OkO : Option (Int × Int) → Option Int → Prop := OkI
structure Snd (DR : Nat) (acl : Nat → List XV → Option (XV × Nat)) (cl : Nat → List D → Store → Res D) (Gd : Store → Nat → Prop) (B n : Nat) : Prop where
  e : ∀ {e st x st' base t0 r s}, aE DR acl n e st = some (x, st') → t0 + n * Wd + B ≤ TM → Inn Gd base t0 st r s → Ok (evE cl e r s) (PE Gd base t0 r s st' x (effE e))
  in_ : ∀ {o a b st x st' base t0 r s}, (o = .isin ∨ o = .notin) → aIn DR acl n o a b st = some (x, st') → t0 + n * Wd + B ≤ TM → Inn Gd base t0 st r s → Ok (evE cl (.cp o a b) r s) (PE Gd base t0 r s st' x (effE (.cp o a b)))
  es : ∀ {es st xs st' base t0 r s}, aEs DR acl n es st = some (xs, st') → t0 + n * Wd + B ≤ TM → Inn Gd base t0 st r s → Ok (evEs cl es r s) fun ds s' => Inn Gd base t0 st' r s' ∧ Chg (effEs es) r s s' ∧ HoldL base s s' xs ds
  o : ∀ {o st x st' base t0 r s}, aO DR acl n o st = some (x, st') → t0 + n * Wd + B ≤ TM → Inn Gd base t0 st r s → Ok (evO cl o r s) fun i s' => Inn Gd base t0 st' r s' ∧ Chg (effO o) r s s' ∧ OkI x i
  tt : ∀ {e st a b base t0 r s}, aT DR acl n e st = some (a, b) → t0 + n * Wd + B ≤ TM → Inn Gd base t0 st r s → Ok (evT cl e r s) fun k s' => Chg (effE e) r s s' ∧ ∃ st', (if k then a else b) = some st' ∧ Inn Gd base t0 st' r s'
  l : ∀ {l st c st' base t0 r s}, aL DR acl n l st = some (c, st') → t0 + n * Wd + B ≤ TM → Inn Gd base t0 st r s → Ok (evL cl l r s) fun ds s' => Inn Gd base t0 st' r s' ∧ Chg (effL l) r s s' ∧ c.ok ds = true
  it : ∀ {it st c gd st' base t0 r s}, aIt DR acl n it st = some (c, gd, st') → t0 + n * Wd + B ≤ TM → Inn Gd base t0 st r s → Ok (evIt cl it r s) fun p s' => Inn Gd base t0 st' r s' ∧ Chg (effIt it) r s s' ∧ c.ok p.1 = true ∧ (gd = false → p.2 = none) ∧ (p.2 = none ∨ ∃ q, p.2 = some (q, p.1) ∧ q ≠ 1 ∧ s'[q]? = some (.lst p.1))
  c : ∀ {e st a b base t0 r s}, aC DR acl n e st = some (a, b) → t0 + n * Wd + B ≤ TM → Inn Gd base t0 st r s → Ok (evC cl e r s) fun k s' => Chg (effO e) r s s' ∧ ∃ st', (if k then a else b) = some st' ∧ Inn Gd base t0 st' r s'
section
variable {DR : Nat} {acl : Nat → List XV → Option (XV × Nat)} {cl : Nat → List D → Store → Res D} {Gd : Store → Nat → Prop} {B n : Nat} {base t0 : Nat} {r : Wb.Env} {s : Store} {st st' : ASt} {x : XV}
theorem Inn.same {g : AEnv} {t : Nat} (i : Inn Gd base t0 ⟨g, t⟩ r s) {g' : AEnv} (e : EOk base g' r s) : Inn Gd base t0 ⟨g', t⟩ r s := ⟨e, i.gd, i.bl, i.b2⟩
theorem Inn.push (C : Ctx DR acl cl Gd B) (i : Inn Gd base t0 st r s) {o : O} : Inn Gd base t0 st r (s ++ [o]) := by
  have h2 := C.len _ _ i.gd
  exact ⟨i.e.push, C.cong _ _ _ i.gd (by simp) (List.getElem?_append_left (by omega)) (List.getElem?_append_left (by omega)), by have := i.bl; simp; omega, i.b2⟩
theorem Inn.put (C : Ctx DR acl cl Gd B) (i : Inn Gd base t0 st r s) {j q : Nat} {xs ys : List D} {c : Ct} {f : Bool} (hj : r[j]? = some (some (D.ref q))) (h2 : 2 ≤ q) (hq : s[q]? = some (.lst ys)) (hc : c.ok xs = true) : Inn Gd base t0 ⟨st.g.set j (some (.ls c f)), st.t⟩ r (s.set q (.lst xs)) :=
  ⟨i.e.put hj (by omega) h2 hc (at_lt hq), C.cong _ _ _ i.gd (by simp) (set_other (by omega)) (set_other (by omega)), by have := i.bl; simpa using this, i.b2⟩
theorem Inn.joinL {a b : ASt} (C : Ctx DR acl cl Gd B) (i : Inn Gd base t0 a r s) : Inn Gd base t0 (a.join b) r s := ⟨i.e.joinL, C.more _ _ _ i.gd (by show _ ≤ t0 + max a.t b.t; omega), i.bl, i.b2⟩
theorem Inn.joinR {a b : ASt} (C : Ctx DR acl cl Gd B) (i : Inn Gd base t0 b r s) : Inn Gd base t0 (a.join b) r s := ⟨i.e.joinR, C.more _ _ _ i.gd (by show _ ≤ t0 + max a.t b.t; omega), i.bl, i.b2⟩
theorem map_ok {α β : Type} {o : Option α} {f : α → β} {b : β} (h : o.map f = some b) : ∃ a, o = some a ∧ f a = b := Option.map_eq_some_iff.mp h
theorem PE.fl {a : AV} {k : Nat} {d : D} {s' : Store} (h : PE Gd base t0 r s st' (.fl a) k d s') : mem a d = true := h.2.2.1
theorem up {t0 n B : Nat} (h : t0 + (n + 1) * Wd + B ≤ TM) : t0 + n * Wd + B ≤ TM := by
  have : (n + 1) * Wd = n * Wd + Wd := by rw [Nat.add_mul, Nat.one_mul]
  omega
theorem flats_hold {s s' : Store} : ∀ {xs : List XV} {ds : List D} {as : List AV}, flats xs = some as → HoldL base s s' xs ds → mems as ds = true
  | [], ds, as, h, hh => by
    cases h
    have : ds = [] := hh
    subst this; rfl
  | x :: xs, ds, as, h, hh => by
    obtain ⟨d, r, rfl, h1, _, h2⟩ := hh
    unfold flats at h
    split at h
    · next a b e1 e2 =>
      cases h
      cases x <;> simp only [flat] at e1 <;> first | (cases e1; done) | skip
      cases e1
      simp only [mems, Bool.and_eq_true]
      exact ⟨h1, flats_hold e2 h2⟩
    · cases h
theorem HoldL.len {s s' : Store} : ∀ {xs : List XV} {ds : List D}, HoldL base s s' xs ds → ds.length = xs.length
  | [], ds, h => by have : ds = [] := h; subst this; rfl
  | x :: xs, ds, h => by
    obtain ⟨d, r, rfl, _, _, h2⟩ := h
    simp [HoldL.len h2]
theorem aEs_len : ∀ (n : Nat) {es : List E} {st : ASt} {xs : List XV} {st' : ASt}, aEs DR acl n es st = some (xs, st') → xs.length = es.length
  | 0, _, _, _, _, h => by cases h
  | n + 1, es, st, xs, st', h => by
    unfold aEs at h
    split at h
    · cases h; rfl
    · split at h
      · split at h
        · next h2 =>
          split at h
          · cases h
            simp [aEs_len n h2]
          · cases h
        · cases h
      · cases h
theorem args_of_holdL {s s' : Store} : ∀ {xs : List XV} {ds : List D}, xs.all (fun x => match x with | .ls _ _ => false | _ => true) = true → HoldL base s s' xs ds → Args xs ds
  | [], ds, _, h => h
  | x :: xs, ds, ha, h => by
    obtain ⟨d, r, rfl, h1, _, h2⟩ := h
    simp only [List.all_cons, Bool.and_eq_true] at ha
    refine ⟨d, r, rfl, ?_, args_of_holdL ha.2 h2⟩
    cases x with
    | fl a => exact h1
    | feed => exact h1
    | ls c f => simp at ha
/-- a list that is no name's stays -/
theorem Hold.frm {s s' : Store} {d : D} (f : Frm r s s') (h : Hold s x d) (hf : ∀ c g, x = .ls c g → ∃ q, d = .ref q ∧ ∀ i : Nat, r[i]? ≠ some (some (D.ref q))) : Hold s' x d := by
  cases x with
  | fl a => exact h
  | feed => exact h
  | ls c g =>
    obtain ⟨q, xs, rfl, h2, h3, h4⟩ := h
    obtain ⟨q', e, hq⟩ := hf c g rfl
    cases e
    exact ⟨q, xs, rfl, h2, (f.old q (at_lt h3) (by omega) hq).trans h3, h4⟩
theorem EOk.no {g : AEnv} {q : Nat} (e : EOk base g r s) (h : s.length ≤ q) (h2 : 2 ≤ q) : ∀ i : Nat, r[i]? ≠ some (some (D.ref q)) := fun i hi => by
  rcases e.refs i q hi with z | z
  · omega
  · omega
theorem Lies.mono {s1 : Store} {d : D} (h : Lies base s1 x d) (hl : s.length ≤ s1.length) : Lies base s x d := fun c f e => let ⟨q, h1, h2, h3⟩ := h c f e; ⟨q, h1, h2, fun z => Nat.le_trans hl (h3 z)⟩
theorem HoldL.mono {s1 s' : Store} (hl : s.length ≤ s1.length) : ∀ {xs : List XV} {ds : List D}, HoldL base s1 s' xs ds → HoldL base s s' xs ds
  | [], _, h => h
  | x :: xs, ds, ⟨d, r, e, h1, h2, h3⟩ => ⟨d, r, e, h1, h2.mono hl, HoldL.mono hl h3⟩
theorem alloc_ok {ds : List D} {c : Ct} {k : Nat} {s1 : Store} (C : Ctx DR acl cl Gd B) (i : Inn Gd base t0 st' r s1) (ch : Chg k r s s1) (hc : c.ok ds = true) : Ok (Wb.alloc (.lst ds) s1) (PE Gd base t0 r s st' (.ls c true) (max 1 k)) := by
  have h2 := C.len _ _ i.gd
  refine ok_ok ⟨i.push C, ?_, ⟨s1.length, ds, rfl, h2, push_new, hc⟩, fun c' f e => ⟨s1.length, rfl, i.bl, fun _ => ch.1.len⟩⟩
  exact (ch.trans (Chg.step Step.push)).more (by omega)
end
end Wb

/-! A8: expressions, one step. -/
namespace Wb
open PySem
theorem mems_flat {c : Ct} {h : AV} {ds : List D} (hd : dpA 20 h = true) (m : c.ok ds = true) (e : c.hull = some h) : D.nrs ds = true ∧ D.sos ds = true ∧ D.dps ds ≤ 50 := by
  have hm := Ct.hullMem m e
  refine ⟨Ct.ok_nr m, sos_all.mpr fun d hd2 => so20 hd (hm d hd2), ?_⟩
  have := dps_lt (n := 51) (xs := ds) (fun d hd2 => by have := dp20 hd (hm d hd2); omega) (by omega)
  omega
theorem eqL_nilN {S : Store} {ds : List D} (h : D.nrs ds = true) (so : D.sos ds = true) (hd : D.dps ds ≤ 50) : eqL S ds [] = some (decide (ds = [])) := by
  obtain ⟨ps, h1, h2, h3⟩ := toPys_nr (S := S) 59 ds h so (by omega)
  have p0 : pyOks S [] = some [] := by rfl
  have p1 : pyOks S ds = some ps := by
    unfold pyOks
    rw [h1]
    have sh : SeqAt.shaped (.list ps) = true := by
      unfold SeqAt.shaped
      have e1 : (PyData.list ps).canLay0 = true := h2
      rw [e1, Bool.true_and]
      refine decide_eq_true ?_
      show PyData.depthAll ps + 1 ≤ 64
      omega
    simp only [sh, if_true]
  have pl : ∀ {xs : List D} {qs : List PyData}, mapO (toPy S 59) xs = some qs → (xs = [] ↔ qs = []) := by
    intro xs qs e
    cases xs with
    | nil => cases e; simp
    | cons x t =>
      unfold mapO at e
      split at e
      · cases e; simp
      · cases e
  have := pl h1
  unfold eqL
  rw [p1, p0]
  refine congrArg some ?_
  cases ds with
  | nil =>
    have e : ps = [] := this.mp rfl
    subst e; rfl
  | cons d t =>
    cases ps with
    | nil => exact absurd (this.mpr rfl) (by simp)
    | cons p q => rfl
theorem eqNil_says {neg : Bool} {c : Ct} {ds : List D} (m : c.ok ds = true) : Says (eqNil neg c) (if neg then !decide (ds = []) else decide (ds = [])) := by
  intro b hb
  have hl := Ct.len m
  unfold eqNil at hb
  split at hb
  · cases hb
    have : ds ≠ [] := fun e => by subst e; simp at hl; omega
    cases neg <;> simp [this]
  · split at hb
    · cases hb
      have : ds = [] := List.eq_nil_of_length_eq_zero (by omega)
      cases neg <;> simp [this]
    · cases hb
theorem cpL_nil {S : Store} {c : Ct} {ds : List D} (m : c.ok ds = true) (h : ∀ a, c.hull = some a → dpA 20 a = true) : eqL S ds [] = some (decide (ds = [])) := by
  cases e : c.hull with
  | none =>
    have := Ct.hull_none m e
    subst this
    rfl
  | some a =>
    obtain ⟨h1, h2, h3⟩ := mems_flat (h a e) m e
    exact eqL_nilN h1 h2 h3
section
variable {DR : Nat} {acl : Nat → List XV → Option (XV × Nat)} {cl : Nat → List D → Store → Res D} {Gd : Store → Nat → Prop} {B n : Nat}
theorem var_lies {base t0 : Nat} {st : ASt} {r : Wb.Env} {s : Store} {i : Nat} {x : XV} {d : D} (I : Inn Gd base t0 st r s) (hy : aVar st.g i = some x) (h2 : r[i]? = some (some d)) (h3 : Hold s x d) : Lies base s x d := fun c f e => by
  subst e
  obtain ⟨q, xs, rfl, g2, _, _⟩ := h3
  have hr := I.e.refs i q h2
  refine ⟨q, rfl, by omega, fun hf => ?_⟩
  subst hf
  obtain ⟨_, _, _, h4, _⟩ := aVar_get hy
  exact absurd rfl (h4 c)
/-- a name's list, as it stands -/
theorem var_list {base t0 : Nat} {st : ASt} {r : Wb.Env} {s : Store} {i : Nat} {c : Ct} {f : Bool} (I : Inn Gd base t0 st r s) (hy : aVar st.g i = some (.ls c f)) : ∃ q xs, look r i = some (.ref q) ∧ r[i]? = some (some (D.ref q)) ∧ 2 ≤ q ∧ s[q]? = some (.lst xs) ∧ c.ok xs = true := by
  obtain ⟨d, h1, h2, q, xs, rfl, h3, h4, h5⟩ := I.e.var hy
  exact ⟨q, xs, h1, h2, h3, h4, h5⟩
theorem var_list2 {base t0 : Nat} {st : ASt} {r : Wb.Env} {s : Store} {i q : Nat} {c : Ct} {f : Bool} (I : Inn Gd base t0 st r s) (hy : aVar st.g i = some (.ls c f)) (hr : r[i]? = some (some (D.ref q))) : ∃ xs, s[q]? = some (.lst xs) ∧ c.ok xs = true := by
  obtain ⟨p, xs, h1, h2, h3, h4, h5⟩ := var_list I hy
  rw [h2] at hr
  cases hr
  exact ⟨xs, h4, h5⟩
theorem len_of {S : Store} {q : Nat} {xs : List D} (h : S[q]? = some (.lst xs)) : bltD S .len [.ref q] = some (.int xs.length) := by
  simp only [bltD, h]
theorem ix_of {S : Store} {q : Nat} {xs : List D} {i : Int} (h : S[q]? = some (.lst xs)) : ixD S (.ref q) (.int i) = atD xs i := by
  simp only [ixD, h]
/-- a draw among a list's places -/
theorem draw_len {base t0 : Nat} {st : ASt} {r : Wb.Env} {s : Store} {j k : Nat} {d : D} {m : Nat} (C : Ctx DR acl cl Gd B) (I : Inn Gd base t0 st r s) (ht : t0 + n * Wd + B + lim ≤ TM) (hj : aVar st.g j = some .feed) (hk : look r k = some d) (hl : bltD s .len [d] = some (.int m)) (m0 : 0 < m) (m1 : m < 1000000) (hlim : st.t < lim) :
    Ok (evE cl (.call DR [.var j, .blt .len [.var k]]) r s) fun z s' => ∃ v : Int, z = .int v ∧ 0 ≤ v ∧ v < m ∧ Inn Gd base t0 ⟨st.g, st.t + 1⟩ r s' ∧ Step 1 s s' := by
  obtain ⟨dj, h1, h2, h3⟩ := I.e.var hj
  have e : dj = .ref 1 := h3
  subst e
  rw [evE]
  simp only [evEs, evE, h1, hk, Res.opt_some, Res.bind_ok, hl]
  refine ok_imp (C.draw s (t0 + st.t) m I.gd (by omega) (by omega) (by omega)) fun z s' ⟨v, e, v0, v1, g, st'⟩ => ⟨v, e, v0, v1, ⟨I.e.step st', by rw [← Nat.add_assoc]; exact g, Nat.le_trans I.bl st'.len, I.b2⟩, st'⟩
theorem up2 {t0 n B : Nat} (h : t0 + (n + 1) * Wd + B ≤ TM) : t0 + n * Wd + B + lim ≤ TM := by
  have e : (n + 1) * Wd = n * Wd + Wd := by rw [Nat.add_mul, Nat.one_mul]
  have : Wd = 2000000 := rfl
  have : lim = 1000000 := rfl
  omega
theorem freshs_at {s s' : Store} {base : Nat} : ∀ {xs : List XV} {ds : List D} {cs : List Ct}, fresh xs = some cs → HoldL base s s' xs ds → ds.length = cs.length ∧ ∀ (i : Nat) (d : D), ds[i]? = some d → ∃ c, cs[i]? = some c ∧ Hold s' (.ls c true) d ∧ Lies base s (.ls c true) d
  | [], ds, cs, h, hh => by
    cases h
    have : ds = [] := hh
    subst this
    simp
  | x :: xs, ds, cs, h, hh => by
    obtain ⟨d, r, rfl, h1, h2, h3⟩ := hh
    unfold fresh at h
    split at h
    · next hx => cases hx
    · next c r' hxs =>
      split at h
      · next b hb =>
        cases h
        cases hxs
        obtain ⟨g1, g2⟩ := freshs_at hb h3
        refine ⟨by simp [g1], fun i z hz => ?_⟩
        cases i with
        | zero => simp at hz; subst hz; exact ⟨c, rfl, h1, h2⟩
        | succ i => simpa using g2 i z (by simpa using hz)
      · cases h
    · cases h
theorem joinCs_ok {ds : List D} : ∀ {cs : List Ct} {c r : Ct}, joinCs cs = some r → c ∈ cs → c.ok ds = true → r.ok ds = true
  | [], c, r, h, _, _ => by cases h
  | [x], c, r, h, hc, m => by
    simp only [joinCs, Option.some.injEq] at h
    simp only [List.mem_singleton] at hc
    rw [← h, ← hc]; exact m
  | x :: y :: t, c, r, h, hc, m => by
    unfold joinCs at h
    split at h
    · next d hd =>
      cases h
      rcases List.mem_cons.mp hc with z | z
      · subst z; exact joinC_ok (.inl m)
      · exact joinC_ok (.inr (joinCs_ok hd z m))
    · cases h
theorem snd_e (C : Ctx DR acl cl Gd B) (H : Snd DR acl cl Gd B n) {e : E} {st st' : ASt} {x : XV} {base t0 : Nat} {r : Wb.Env} {s : Store} (h : aE DR acl (n + 1) e st = some (x, st')) (ht : t0 + (n + 1) * Wd + B ≤ TM) (I : Inn Gd base t0 st r s) : Ok (evE cl e r s) (PE Gd base t0 r s st' x (effE e)) := by
  have ht2 := up2 ht
  have ht := up ht
  unfold aE at h
  split at h
  -- var
  · obtain ⟨y, hy, e⟩ := map_ok h
    cases e
    obtain ⟨d, h1, h2, h3⟩ := I.e.var hy
    rw [evE]
    simp only [h1, Res.opt_some]
    exact ok_ok ⟨I, Chg.rfl', h3, var_lies I hy h2 h3⟩
  -- lit
  · obtain ⟨a, ha, e⟩ := map_ok h
    cases e
    rw [evE]
    exact ok_ok ⟨I, Chg.rfl', ofD_ok ha, lies_fl⟩
  -- tup
  · split at h
    · next xs st1 h1 =>
      split at h
      · next as h2 =>
        split at h
        · next hz =>
          cases h
          rw [evE]
          refine ok_bind (ok_imp (H.es h1 ht I) fun ds s1 ⟨i1, c1, hl⟩ => ?_)
          have m := flats_hold h2 hl
          have := (mems_at m).1
          rw [if_pos (small_of (by omega))]
          exact ok_ok ⟨i1, by rw [effE]; exact c1, by show mem (.tup as) _ = true; simp only [mem]; exact m, lies_fl⟩
        · cases h
      · cases h
    · cases h
  -- op
  · split at h
    · next x1 st1 h1 =>
      split at h
      · next y1 st2 h2 =>
        obtain ⟨z, hz, e⟩ := map_ok h
        cases e
        rw [evE]
        refine ok_bind (ok_imp (H.e h1 ht I) fun d s1 ⟨i1, c1, m1, _⟩ => ok_bind (ok_imp (H.e h2 ht i1) fun d2 s2 ⟨i2, c2, m2, _⟩ => ?_))
        obtain ⟨w, hw, mw⟩ := over2_ok (d := d) (e := d2) (R := fun w => opD s2 _ d d2 = some (w, s2)) (fun a b r h m n => opA_ok h m n) hz m1 m2
        rw [hw]
        exact ok_ok ⟨i2, by rw [effE]; exact c1.trans c2, mw, lies_fl⟩
      · cases h
    · cases h
  -- isin, notin
  · exact H.in_ (.inl rfl) h ht I
  · exact H.in_ (.inr rfl) h ht I
  -- cp
  · split at h
    · next x1 st1 h1 =>
      split at h
      · next y1 st2 h2 =>
        obtain ⟨z, hz, e⟩ := map_ok h
        cases e
        rw [evE]
        refine ok_bind (ok_imp (H.e h1 ht I) fun d s1 ⟨i1, c1, m1, _⟩ => ok_bind (ok_imp (H.e h2 ht i1) fun d2 s2 ⟨i2, c2, m2, _⟩ => ?_))
        obtain ⟨b, hb, sb⟩ := cpAA_ok (S := s2) (d := d) m2 hz (alts_memA m1)
        rw [hb]
        exact ok_ok ⟨i2, by rw [effE]; exact c1.trans c2, in_bl sb, lies_fl⟩
      · cases h
    · cases h
  -- cpL
  · next neg a =>
    split at h
    · next c st1 h1 =>
      have key : (∀ a, c.hull = some a → dpA 20 a = true) ∧ x = .fl (.bl (eqNil neg c)) ∧ st' = st1 := by
        split at h
        · next hu hh =>
          split at h
          · next hd => cases h; exact ⟨fun a ha => by rw [hh] at ha; cases ha; exact hd, rfl, rfl⟩
          · cases h
        · next hh => cases h; exact ⟨fun a ha => (by rw [hh] at ha; cases ha), rfl, rfl⟩
      obtain ⟨k1, rfl, rfl⟩ := key
      rw [evE]
      refine ok_bind (ok_imp (H.l h1 ht I) fun ds s1 ⟨i1, c1, m1⟩ => ?_)
      rw [evL, evEs]
      simp only [Res.bind_ok, show small ([] : List D).length = true from rfl, if_true]
      rw [if_pos (show heldL a s1 s1 = true by simp [heldL]), cpL_nil m1 k1]
      refine ok_ok ⟨i1, ?_, ?_, lies_fl⟩
      · rw [effE]
        exact c1.more (by simp [effL, effEs])
      · exact in_bl (eqNil_says m1)
    · cases h
  -- not
  · split at h
    · next b st1 h1 =>
      cases h
      rw [evE]
      refine ok_bind (ok_imp (H.e h1 ht I) fun d s1 ⟨i1, c1, m1, _⟩ => ?_)
      obtain ⟨v, rfl, hv⟩ := bl_in m1
      refine ok_ok ⟨i1, by rw [effE]; exact c1, ?_, lies_fl⟩
      refine in_bl fun y hy => ?_
      cases b <;> simp only [notB] at hy <;> cases hy
      rw [hv _ rfl]
    · cases h
  -- neg
  · split at h
    · next lo hi st1 h1 =>
      cases h
      rw [evE]
      refine ok_bind (ok_imp (H.e h1 ht I) fun d s1 ⟨i1, c1, m1, _⟩ => ?_)
      obtain ⟨i, rfl, g1, g2⟩ := int_in m1
      exact ok_ok ⟨i1, by rw [effE]; exact c1, in_int (by omega) (by omega), lies_fl⟩
    · cases h
  -- rev
  · split at h
    · next as st1 h1 =>
      cases h
      rw [evE]
      refine ok_bind (ok_imp (H.e h1 ht I) fun d s1 ⟨i1, c1, m1, _⟩ => ?_)
      obtain ⟨ds, rfl, m2⟩ : ∃ ds, d = .tup ds ∧ mems as ds = true := by
        have m3 : mem (.tup as) d = true := m1
        cases d <;> simp [mem] at m3
        exact ⟨_, rfl, m3⟩
      exact ok_ok ⟨i1, c1.more (by rw [effE]; omega), mems_rev m2, lies_fl⟩
    · cases h
  -- ite
  · next c a b =>
    split at h
    · cases h
    · cases h
    · next st1 h1 =>
      rw [evE]
      refine ok_bind (ok_imp (H.tt h1 ht I) fun k s1 ⟨c1, st2, e2, i2⟩ => ?_)
      cases k with
      | false => cases e2
      | true =>
        cases e2
        refine ok_imp (H.e h ht i2) fun d s2 ⟨i3, c3, m3, l3⟩ => ⟨i3, ?_, m3, l3.mono c1.1.len⟩
        rw [effE]; exact (c1.trans c3).more (by omega)
    · next st1 h1 =>
      rw [evE]
      refine ok_bind (ok_imp (H.tt h1 ht I) fun k s1 ⟨c1, st2, e2, i2⟩ => ?_)
      cases k with
      | true => cases e2
      | false =>
        cases e2
        refine ok_imp (H.e h ht i2) fun d s2 ⟨i3, c3, m3, l3⟩ => ⟨i3, ?_, m3, l3.mono c1.1.len⟩
        rw [effE]; exact (c1.trans c3).more (by omega)
    · next st1 st4 h1 =>
      split at h
      · next x1 st2 y1 st3 h2 h3 =>
        cases h
        rw [evE]
        refine ok_bind (ok_imp (H.tt h1 ht I) fun k s1 ⟨c1, st5, e2, i2⟩ => ?_)
        cases k with
        | true =>
          cases e2
          refine ok_imp (H.e h2 ht i2) fun d s2 ⟨i3, c3, m3, l3⟩ => ⟨i3.joinL C, ?_, joinA_ok (.inl m3), lies_fl⟩
          rw [effE]; exact (c1.trans c3).more (by omega)
        | false =>
          cases e2
          refine ok_imp (H.e h3 ht i2) fun d s2 ⟨i3, c3, m3, l3⟩ => ⟨i3.joinR C, ?_, joinA_ok (.inr m3), lies_fl⟩
          rw [effE]; exact (c1.trans c3).more (by omega)
      · cases h
  -- [..][i]
  · next es i =>
    split at h
    · next xs st1 h1 =>
      split at h
      · next l hi st2 h2 =>
        rw [evE, evE, evL]
        have go : ∀ (P : D → Store → Prop), (∀ ds s1 k s3, Inn Gd base t0 st2 r s3 → Chg (max 1 (max (effEs es) (effE i))) r s s3 → HoldL base s s3 xs ds → l ≤ k → k ≤ hi → ds.length ≤ 1000 → s3[(s1 : Store).length]? = some (.lst ds) → Ok (Res.opt s3 (ixD s3 (.ref s1.length) (.int k))) P) → xs.length ≤ 1000 → (∀ x ∈ xs, ∀ c f, x = .ls c f → f = true) → Ok ((((evEs cl es r s).bind fun ds s1 => if small ds.length then Res.ok ds s1 else .bad).bind fun ds s1 => Wb.alloc (.lst ds) s1).bind fun x s1 => (evE cl i r s1).bind fun y s2 => Res.opt s2 (ixD s2 x y)) P := by
          intro P hP hlen hfr
          refine ok_bind (ok_bind (ok_bind (ok_imp (H.es h1 ht I) fun ds s1 ⟨i1, c1, hl⟩ => ?_)))
          have hll := hl.len
          rw [if_pos (small_of (by omega))]
          refine ok_ok (ok_ok (ok_bind (ok_imp (H.e h2 ht (i1.push C)) fun y s3 ⟨i3, c3, m3, _⟩ => ?_)))
          obtain ⟨k, rfl, k1, k2⟩ := int_in m3
          have b2 := C.len _ _ i1.gd
          have nq : ∀ q, s1.length ≤ q → ∀ j : Nat, r[j]? ≠ some (some (D.ref q)) := fun q hq => i1.e.no hq (by omega)
          refine hP ds s1 k s3 i3 ?_ ?_ k1 k2 (by omega) ((c3.1.old _ (by simp) (by omega) (nq _ (Nat.le_refl _))).trans push_new)
          · exact (c1.trans ((Chg.step Step.push).trans c3)).more (by omega)
          · have hold : ∀ (ys : List XV) (ws : List D), (∀ x ∈ ys, ∀ c f, x = .ls c f → f = true) → HoldL base s s1 ys ws → HoldL base s s3 ys ws := by
              intro ys
              induction ys with
              | nil => intro ws _ h; exact h
              | cons x xs ih =>
                rintro ws hf ⟨d, rr, e, g1, g2, g3⟩
                refine ⟨d, rr, e, ?_, g2, ih rr (fun y hy => hf y (List.mem_cons_of_mem _ hy)) g3⟩
                have q1 : Hold (s1 ++ [O.lst ds]) x d := g1.cong (fun q hd n1 => ?_)
                · refine q1.frm c3.1 fun c f ex => ?_
                  obtain ⟨q, e1, _, e3⟩ := g2 c f ex
                  exact ⟨q, e1, I.e.no (e3 (hf x (List.mem_cons_self ..) c f ex)) (by have := C.len _ _ I.gd; have := e3 (hf x (List.mem_cons_self ..) c f ex); omega)⟩
                · cases x with
                  | fl a => subst hd; exact (mem_noref g1).elim
                  | feed => have g1 : d = .ref 1 := g1; rw [g1] at hd; cases hd; exact absurd rfl n1
                  | ls c f =>
                    obtain ⟨q', ys, e1, _, e3, _⟩ := g1
                    subst hd
                    cases e1
                    exact List.getElem?_append_left (at_lt e3)
            exact hold xs ds hfr hl
        split at h
        · next as has =>
          split at h
          · next hz =>
            obtain ⟨z, hz2, e⟩ := map_ok h
            cases e
            have lx : ∀ {xs : List XV} {as : List AV}, flats xs = some as → xs.length = as.length ∧ ∀ x ∈ xs, ∀ c f, x = XV.ls c f → f = true := by
              intro xs
              induction xs with
              | nil => intro as h; cases h; exact ⟨rfl, fun _ h => nomatch h⟩
              | cons x xs ih =>
                intro as h
                unfold flats at h
                split at h
                · next a b e1 e2 =>
                  cases h
                  obtain ⟨g1, g2⟩ := ih e2
                  refine ⟨by simp [g1], fun y hy c f ey => ?_⟩
                  rcases List.mem_cons.mp hy with z | z
                  · subst z; subst ey; cases e1
                  · exact g2 y z c f ey
                · cases h
            obtain ⟨lx1, lx2⟩ := lx has
            refine go _ (fun ds s1 k s3 i3 c3 hl k1 k2 _ hq => ?_) (by omega) lx2
            obtain ⟨w, hw, mw⟩ := ixA_at (xs := ds) hz2 (by simp only [mem]; exact flats_hold has hl) k1 k2
            rw [ix_of hq, hw]
            refine ok_ok ⟨i3, ?_, mw, lies_fl⟩
            simp only [effE, effL]
            exact c3.more (by omega)
          · cases h
        · split at h
          · next cs hcs =>
            split at h
            · next hz =>
              simp only [Bool.and_eq_true, decide_eq_true_eq] at hz
              obtain ⟨c, hc, e⟩ := map_ok h
              cases e
              have lx : ∀ {xs : List XV} {cs : List Ct}, fresh xs = some cs → xs.length = cs.length ∧ ∀ x ∈ xs, ∀ c f, x = XV.ls c f → f = true := by
                intro xs
                induction xs with
                | nil => intro as h; cases h; exact ⟨rfl, fun _ h => nomatch h⟩
                | cons x xs ih =>
                  intro as h
                  unfold fresh at h
                  split at h
                  · next hx => cases hx
                  · next hx =>
                    cases hx
                    split at h
                    · next e2 =>
                      cases h
                      obtain ⟨g1, g2⟩ := ih e2
                      refine ⟨by simp [g1], fun y hy c f ey => ?_⟩
                      rcases List.mem_cons.mp hy with z | z
                      · subst z; cases ey; rfl
                      · exact g2 y z c f ey
                    · cases h
                  · cases h
              obtain ⟨lx1, lx2⟩ := lx hcs
              refine go _ (fun ds s1 k s3 i3 c3 hl k1 k2 _ hq => ?_) (by omega) lx2
              obtain ⟨g1, g2⟩ := freshs_at hcs hl
              obtain ⟨w, hw, hw2⟩ := atD_nat (xs := ds) (i := k) (by omega) (by omega)
              obtain ⟨c', hc', hold, lie⟩ := g2 _ _ hw2
              rw [ix_of hq, hw]
              obtain ⟨q, ys, e1, e2, e3, e4⟩ := hold
              have hm : c' ∈ (cs.drop l.toNat).take (hi - l + 1).toNat := by
                have e : ((cs.drop l.toNat).take (hi - l + 1).toNat)[k.toNat - l.toNat]? = some c' := by
                  rw [List.getElem?_take, if_pos (by omega), List.getElem?_drop]
                  rw [show l.toNat + (k.toNat - l.toNat) = k.toNat by omega]
                  exact hc'
                exact List.mem_of_getElem? e
              refine ok_ok ⟨i3, ?_, ⟨q, ys, e1, e2, e3, joinCs_ok hc hm e4⟩, fun c2 f2 e5 => ?_⟩
              · simp only [effE, effL]
                exact c3.more (by omega)
              · obtain ⟨q', f1, f2', f3⟩ := lie c' true rfl
                exact ⟨q', f1, f2', fun _ => f3 rfl⟩
            · cases h
          · cases h
      · cases h
    · cases h
  -- xs[draw(len(xs))]
  · next i f j k =>
    split at h
    · next hfk =>
      obtain ⟨rfl, rfl⟩ := hfk
      rw [evE]
      split at h
      · next c fl hj hi =>
        split at h
        · next hc =>
          simp only [Bool.and_eq_true, decide_eq_true_eq] at hc
          obtain ⟨a, ha, e⟩ := map_ok h
          cases e
          obtain ⟨q, xs, g1, g2, g3, g4, g5⟩ := var_list I hi
          have hl := Ct.len g5
          rw [evE]
          simp only [g1, Res.opt_some, Res.bind_ok]
          refine ok_bind (ok_imp (draw_len (m := xs.length) C I ht2 hj g1 (len_of g4) (by omega) (by omega) hc.2) fun z s1 ⟨v, e, v0, v1, i1, s1'⟩ => ?_)
          subst e
          have g4' := s1'.get g4 (by omega)
          obtain ⟨w, hw, hw2⟩ := atD_nat (xs := xs) (i := v) (by omega) (by omega)
          rw [ix_of g4', hw]
          refine ok_ok ⟨i1, ?_, Ct.hullMem g5 ha w (List.mem_of_getElem? hw2), lies_fl⟩
          simp only [effE, effEs]
          exact (Chg.step s1').more (by omega)
        · cases h
      · next y hj hi =>
        split at h
        · next c hcc =>
          split at h
          · next hc =>
            simp only [Bool.and_eq_true, decide_eq_true_eq] at hc
            obtain ⟨a, ha, e⟩ := map_ok h
            cases e
            obtain ⟨d, g1, g2, g3⟩ := I.e.var hi
            have g3 := flatten_ok g3
            obtain ⟨xs, rfl⟩ := ctOf_tup hcc g3
            have g5 := ctOf_ok hcc g3
            have hl := Ct.len g5
            rw [evE]
            simp only [g1, Res.opt_some, Res.bind_ok]
            refine ok_bind (ok_imp (draw_len (m := xs.length) C I ht2 hj g1 rfl (by omega) (by omega) hc.2) fun z s1 ⟨v, e, v0, v1, i1, s1'⟩ => ?_)
            subst e
            obtain ⟨w, hw, hw2⟩ := atD_nat (xs := xs) (i := v) (by omega) (by omega)
            rw [show ixD s1 (.tup xs) (.int v) = atD xs v from rfl, hw]
            refine ok_ok ⟨i1, ?_, Ct.hullMem g5 ha w (List.mem_of_getElem? hw2), lies_fl⟩
            simp only [effE, effEs]
            exact (Chg.step s1').more (by omega)
          · cases h
        · cases h
      · cases h
    · cases h
  -- a[i]
  · next a i _ _ =>
    split at h
    · next x1 st1 h1 =>
      split at h
      · next l hi st2 h2 =>
        obtain ⟨z, hz, e⟩ := map_ok h
        cases e
        rw [evE]
        refine ok_bind (ok_imp (H.e h1 ht I) fun d s1 ⟨i1, c1, m1, _⟩ => ok_bind (ok_imp (H.e h2 ht i1) fun d2 s2 ⟨i2, c2, m2, _⟩ => ?_))
        obtain ⟨k, rfl, k1, k2⟩ := int_in m2
        obtain ⟨w, hw, mw⟩ := overA_ok (d := d) (R := fun w => ixD s2 d (.int k) = some w) (fun a r h m => ixA_ok h m k1 k2) hz m1
        rw [hw]
        exact ok_ok ⟨i2, by rw [effE]; exact c1.trans c2, mw, lies_fl⟩
      · cases h
    · next c f st1 h1 =>
      split at h
      · next l hi st2 h2 =>
        split at h
        · cases h
        · split at h
          · next j _ _ =>
            split at h
            · next c2 f2 hj =>
              obtain ⟨z, hz, e⟩ := map_ok h
              cases e
              have hv : ∃ y, aVar st.g j = some y ∧ st1 = st := by
                cases n with
                | zero => cases h1
                | succ n =>
                  unfold aE at h1
                  obtain ⟨y, hy, e⟩ := map_ok h1
                  cases e
                  exact ⟨_, hy, rfl⟩
              obtain ⟨y0, hv, rfl⟩ := hv
              obtain ⟨d, w1, w2, _⟩ := I.e.var hv
              rw [evE, evE]
              simp only [w1, Res.opt_some, Res.bind_ok]
              refine ok_bind (ok_imp (H.e h2 ht I) fun d2 s2 ⟨i2, c2', m2, _⟩ => ?_)
              obtain ⟨k, rfl, k1, k2⟩ := int_in m2
              obtain ⟨q, xs, g1, g2, g3, g4, g5⟩ := var_list i2 hj
              have hd : d = .ref q := by
                rw [w2] at g2
                exact Option.some.inj (Option.some.inj g2)
              subst hd
              obtain ⟨w, hw, mw⟩ := ixC_ok (xs := xs) hz g5 k1 k2
              rw [ix_of g4, hw]
              exact ok_ok ⟨i2, by simp only [effE]; exact c2'.more (by omega), mw, lies_fl⟩
            · cases h
          · cases h
      · cases h
    · cases h
  -- a[lo:hi]
  · next a lo hi =>
    split at h
    · next x1 st1 h1 =>
      split at h
      · next l st2 h2 =>
        split at h
        · next h' st3 h3 =>
          split at h
          · next c hc =>
            obtain ⟨z, hz, e⟩ := map_ok h
            cases e
            rw [evE]
            refine ok_bind (ok_imp (H.e h1 ht I) fun d s1 ⟨i1, c1, m1, _⟩ => ok_bind (ok_imp (H.o h2 ht i1) fun i s2 ⟨i2, c2, m2⟩ => ok_bind (ok_imp (H.o h3 ht i2) fun j s3 ⟨i3, c3, m3⟩ => ?_)))
            have m1 := flatten_ok m1
            obtain ⟨xs, rfl⟩ := ctOf_tup hc m1
            have m4 := ctOf_ok hc m1
            refine ok_ok ⟨i3, ?_, tupOf_ok (cutC_ok hz m4 m2 m3), lies_fl⟩
            simp only [effE]
            exact (c1.trans (c2.trans c3)).more (by omega)
          · cases h
        · cases h
      · cases h
    · next c f st1 h1 =>
      split at h
      rotate_left
      · cases h
      next hfr =>
      split at h
      · next l st2 h2 =>
        split at h
        · next h' st3 h3 =>
          obtain ⟨z, hz, e⟩ := map_ok h
          cases e
          rw [evE]
          refine ok_bind (ok_imp (H.e h1 ht I) fun d s1 ⟨i1, c1, m1, l1⟩ => ok_bind (ok_imp (H.o h2 ht i1) fun i s2 ⟨i2, c2, m2⟩ => ok_bind (ok_imp (H.o h3 ht i2) fun j s3 ⟨i3, c3, m3⟩ => ?_)))
          obtain ⟨q, xs, rfl, q2, q3, q4⟩ := m1
          have q5 : s3[q]? = some (.lst xs) := (Bool.or_eq_true_iff.mp hfr).elim (fun z => by
            subst z
            obtain ⟨q', e1, _, e3⟩ := l1 _ true rfl
            cases e1
            exact ((c2.1.trans c3.1).old q (at_lt q3) (by omega) (I.e.no (e3 rfl) q2)).trans q3) fun z => (((c2.trans c3).2.1 (of_decide_eq_true z)).old q (at_lt q3) (by omega)).trans q3
          simp only [listAt, q5]
          refine ok_imp (alloc_ok C i3 (c1.trans (c2.trans c3)) (cutC_ok hz q4 m2 m3)) fun d s4 ⟨a1, a2, a3, a4⟩ => ⟨a1, ?_, a3, a4⟩
          simp only [effE]
          exact a2.more (by omega)
        · cases h
      · cases h
    · cases h
  -- a call
  · next f es =>
    split at h
    · next hf =>
      subst hf
      split at h
      · next a m =>
        split at h
        · next st1 h1 =>
          split at h
          · next l hi st2 h2 =>
            split at h
            · next hc =>
              cases h
              simp only [Bool.and_eq_true, decide_eq_true_eq] at hc
              rw [evE]
              simp only [evEs]
              refine ok_bind (ok_bind (ok_imp (H.e h1 ht I) fun d s1 ⟨i1, c1, m1, _⟩ => ok_bind (ok_bind (ok_imp (H.e h2 ht i1) fun d2 s2 ⟨i2, c2, m2, _⟩ => ?_))))
              have e1 : d = .ref 1 := m1
              subst e1
              obtain ⟨k, rfl, k1, k2⟩ := int_in m2
              simp only [Res.bind_ok]
              refine ok_ok (ok_ok (ok_imp (C.draw s2 (t0 + st2.t) k i2.gd (by omega) (by omega) (by omega)) fun z s3 ⟨v, e, v0, v1, g, s3'⟩ => ?_))
              subst e
              refine ⟨⟨i2.e.step s3', by rw [← Nat.add_assoc]; exact g, Nat.le_trans i2.bl s3'.len, i2.b2⟩, ?_, in_int v0 (by omega), lies_fl⟩
              simp only [effE, effEs]
              exact ((c1.trans c2).trans (Chg.step s3')).more (by omega)
            · cases h
          · cases h
        · cases h
      · cases h
    · next hf =>
      split at h
      · next xs st1 h1 =>
        split at h
        · next hc =>
          simp only [Bool.and_eq_true, decide_eq_true_eq] at hc
          split at h
          · next y t h2 =>
            cases h
            rw [evE]
            refine ok_bind (ok_imp (H.es h1 ht I) fun ds s1 ⟨i1, c1, hl⟩ => ?_)
            refine ok_imp (C.call f xs x t hf h2 ds s1 (t0 + st1.t) i1.gd (by omega) (args_of_holdL hc.1 hl)) fun d s2 ⟨g1, g2, g3, g4⟩ => ?_
            refine ⟨⟨i1.e.step g2, by rw [← Nat.add_assoc]; exact g1, Nat.le_trans i1.bl g2.len, i1.b2⟩, ?_, g3, fun c fl e => ?_⟩
            · simp only [effE]
              exact (c1.trans (Chg.step g2)).more (by omega)
            · obtain ⟨q, e1, e2⟩ := g4 c fl e
              exact ⟨q, e1, Nat.le_trans i1.bl e2, fun _ => Nat.le_trans c1.1.len e2⟩
          · cases h
        · cases h
      · cases h
  -- len(x)
  · next i =>
    split at h
    · next c fl hi =>
      cases h
      obtain ⟨q, xs, g1, g2, g3, g4, g5⟩ := var_list I hi
      have hl := Ct.len g5
      rw [evE]
      simp only [evEs, evE, g1, Res.opt_some, Res.bind_ok, len_of g4]
      exact ok_ok ⟨I, Chg.rfl', in_int (by omega) (by omega), lies_fl⟩
    · next y hi =>
      obtain ⟨z, hz, e⟩ := map_ok h
      cases e
      obtain ⟨d, g1, g2, g3⟩ := I.e.var hi
      obtain ⟨w, hw, mw⟩ := overA_ok (d := d) (R := fun w => bltD s .len [d] = some w) (fun a r h m => blt1_ok h m) hz g3
      rw [evE]
      simp only [evEs, evE, g1, Res.opt_some, Res.bind_ok, hw]
      exact ok_ok ⟨I, Chg.rfl', mw, lies_fl⟩
    · cases h
  -- a built-in
  · next b es _ =>
    split at h
    · next xs st1 h1 =>
      split at h
      · next y h2 =>
        obtain ⟨z, hz, e⟩ := map_ok h
        cases e
        rw [evE]
        refine ok_bind (ok_imp (H.es h1 ht I) fun ds s1 ⟨i1, c1, hl⟩ => ?_)
        have m := flats_hold h2 hl
        match ds, m with
        | [d], m =>
          simp only [mems, Bool.and_true] at m
          obtain ⟨w, hw, mw⟩ := overA_ok (d := d) (R := fun w => bltD s1 b [d] = some w) (fun a r h m => blt1_ok h m) hz m
          rw [hw]
          exact ok_ok ⟨i1, by rw [effE]; exact c1, mw, lies_fl⟩
        | [], m => simp [mems] at m
        | _ :: _ :: _, m => simp [mems] at m
      · next y1 y2 h2 =>
        obtain ⟨z, hz, e⟩ := map_ok h
        cases e
        rw [evE]
        refine ok_bind (ok_imp (H.es h1 ht I) fun ds s1 ⟨i1, c1, hl⟩ => ?_)
        have m := flats_hold h2 hl
        match ds, m with
        | [d, d2], m =>
          simp only [mems, Bool.and_true, Bool.and_eq_true] at m
          obtain ⟨w, hw, mw⟩ := over2_ok (d := d) (e := d2) (R := fun w => bltD s1 b [d, d2] = some w) (fun a b r h m n => blt2_ok h m n) hz m.1 m.2
          rw [hw]
          exact ok_ok ⟨i1, by rw [effE]; exact c1, mw, lies_fl⟩
        | [], m => simp [mems] at m
        | [_], m => simp [mems] at m
        | _ :: _ :: _ :: _, m => simp [mems] at m
      · cases h
    · cases h
  -- tuple(l)
  · split at h
    · next c st1 h1 =>
      cases h
      rw [evE]
      refine ok_bind (ok_imp (H.l h1 ht I) fun ds s1 ⟨i1, c1, m1⟩ => ?_)
      exact ok_ok ⟨i1, by rw [effE]; exact c1, tupOf_ok m1, lies_fl⟩
    · cases h
  -- len(l)
  · split at h
    · next c st1 h1 =>
      cases h
      rw [evE]
      refine ok_bind (ok_imp (H.l h1 ht I) fun ds s1 ⟨i1, c1, m1⟩ => ?_)
      have hl := Ct.len m1
      exact ok_ok ⟨i1, by rw [effE]; exact c1, in_int (by omega) (by omega), lies_fl⟩
    · cases h
  -- tuple(range)
  · split at h
    · next l hi st1 h1 =>
      split at h
      · next l2 hi2 st2 h2 =>
        obtain ⟨c, hc, e⟩ := map_ok h
        cases e
        rw [evE]
        refine ok_bind (ok_imp (H.e h1 ht I) fun d s1 ⟨i1, c1, m1, _⟩ => ok_bind (ok_imp (H.e h2 ht i1) fun d2 s2 ⟨i2, c2, m2, _⟩ => ?_))
        obtain ⟨i, rfl, a1, a2⟩ := int_in m1
        obtain ⟨j, rfl, a3, a4⟩ := int_in m2
        obtain ⟨b1, b2⟩ := rngC_ok hc a1 a2 a3 a4
        simp only [b1, if_true]
        exact ok_ok ⟨i2, by rw [effE]; exact c1.trans c2, tupOf_ok b2, lies_fl⟩
      · cases h
    · cases h
  -- a new list
  · split at h
    · next c st1 h1 =>
      cases h
      rw [evE]
      refine ok_bind (ok_imp (H.l h1 ht I) fun ds s1 ⟨i1, c1, m1⟩ => ?_)
      refine ok_imp (alloc_ok C i1 c1 m1) fun d s2 ⟨a1, a2, a3, a4⟩ => ⟨a1, by rw [effE]; exact a2, a3, a4⟩
    · cases h
  -- append
  · next i e =>
    split at h
    · next c0 f0 hi =>
      split at h
      · next y st1 h1 =>
        split at h
        · next c f hi1 =>
          split at h
          · next hz =>
            cases h
            obtain ⟨q, ys, g1, g2, g3, g4, g5⟩ := var_list I hi
            rw [evE]
            rw [evE]
            simp only [g1, Res.opt_some, Res.bind_ok, lstAt, g4, Option.isSome_some, if_true, evEs]
            refine ok_bind (ok_bind (ok_imp (H.e h1 ht I) fun d s1 ⟨i1, c1, m1, _⟩ => ?_))
            obtain ⟨xs, k4, k5⟩ := var_list2 i1 hi1 g2
            have hl := Ct.len k5
            refine ok_ok ?_
            simp only [methD, k4, show small xs.length = true from small_of (by omega), if_true]
            refine ok_ok ⟨i1.put C g2 g3 k4 ?_, ?_, rfl, lies_fl⟩
            · cases c with
              | os es => exact memO_app k5 (by simp only [memO, Bool.and_true, Bool.or_eq_true]; exact .inl m1)
              | sm a lo hi o =>
                obtain ⟨b1, b2, b3, _⟩ := sm_ok.mp k5
                refine sm_ok.mpr ⟨fun z hz => ?_, by simp; omega, by simp; omega, rfl⟩
                split
                · have : xs = [] := List.eq_nil_of_length_eq_zero (by omega)
                  subst this
                  simp only [List.nil_append, List.mem_singleton] at hz
                  subst hz; exact m1
                · rcases List.mem_append.mp hz with z' | z'
                  · exact joinHull_ok (.inl (b1 z z'))
                  · simp only [List.mem_singleton] at z'
                    subst z'; exact joinHull_ok (.inr m1)
            · exact Chg.frm (c1.1.trans (Frm.put g2))
          · cases h
        · cases h
      · cases h
    · cases h
  -- pop(draw(len))
  · next i f j k =>
    split at h
    · next hfk =>
      obtain ⟨rfl, rfl⟩ := hfk
      split at h
      · next c f hj hi =>
        split at h
        · next a lo hi2 o hsum =>
          split at h
          · next hc =>
            cases h
            simp only [Bool.and_eq_true, decide_eq_true_eq] at hc
            obtain ⟨q, ys, g1, g2, g3, g4, g5⟩ := var_list I hi
            have g6 := Ct.sum_ok g5
            rw [hsum] at g6
            obtain ⟨b1, b2, b3, _⟩ := sm_ok.mp g6
            rw [evE]
            rw [show evE cl (.var i) r s = .ok (.ref q) s from by rw [evE, g1]; rfl]
            simp only [Res.bind_ok, lstAt, g4, Option.isSome_some, if_true]
            simp only [evEs]
            refine ok_bind (ok_bind (ok_imp (draw_len (m := ys.length) C I ht2 hj g1 (len_of g4) (by omega) (by omega) hc.2) fun z s1 ⟨v, e, v0, v1, i1, s1'⟩ => ?_))
            subst e
            have g4' := s1'.get g4 (by omega)
            obtain ⟨w, hw, hw2⟩ := atD_nat (xs := ys) (i := v) (by omega) (by omega)
            refine ok_ok ?_
            simp only [methD, g4']
            rw [if_pos (by omega)]
            simp only [hw2, Option.map_some]
            refine ok_ok ⟨i1.put C g2 g3 g4' ?_, ?_, b1 w (List.mem_of_getElem? hw2), lies_fl⟩
            · refine sm_ok.mpr ⟨fun z hz => b1 z (List.mem_of_mem_eraseIdx hz), ?_, ?_, rfl⟩
              · rw [List.length_eraseIdx_of_lt (by omega)]; omega
              · rw [List.length_eraseIdx_of_lt (by omega)]; omega
            · exact Chg.frm ((Frm.step s1').trans (Frm.put g2))
          · cases h
        · cases h
      · cases h
    · cases h
  -- pop(e)
  · next i e _ =>
    split at h
    · next c0 f0 hi =>
      split at h
      · next l h' st1 h1 =>
        split at h
        · next c f hi1 =>
          split at h
          · next a lo hi2 o hsum =>
            split at h
            · next hc =>
              cases h
              simp only [Bool.and_eq_true, decide_eq_true_eq] at hc
              obtain ⟨q, ys, g1, g2, g3, g4, g5⟩ := var_list I hi
              rw [evE]
              rw [show evE cl (.var i) r s = .ok (.ref q) s from by rw [evE, g1]; rfl]
              simp only [Res.bind_ok, lstAt, g4, Option.isSome_some, if_true]
              simp only [evEs]
              refine ok_bind (ok_bind (ok_imp (H.e h1 ht I) fun d s1 ⟨i1, c1, m1, _⟩ => ?_))
              obtain ⟨v, rfl, v0, v1⟩ := int_in m1
              obtain ⟨xs, k4, k5⟩ := var_list2 i1 hi1 g2
              have g6 := Ct.sum_ok k5
              rw [hsum] at g6
              obtain ⟨b1, b2, b3, _⟩ := sm_ok.mp g6
              obtain ⟨w, hw, hw2⟩ := atD_nat (xs := xs) (i := v) (by omega) (by omega)
              refine ok_ok ?_
              simp only [methD, k4]
              rw [if_pos (by omega)]
              simp only [hw2, Option.map_some]
              refine ok_ok ⟨i1.put C g2 g3 k4 ?_, ?_, b1 w (List.mem_of_getElem? hw2), lies_fl⟩
              · refine sm_ok.mpr ⟨fun z hz => b1 z (List.mem_of_mem_eraseIdx hz), ?_, ?_, rfl⟩
                · rw [List.length_eraseIdx_of_lt (by omega)]; omega
                · rw [List.length_eraseIdx_of_lt (by omega)]; omega
              · exact Chg.frm (c1.1.trans (Frm.put g2))
            · cases h
          · cases h
        · cases h
      · cases h
    · cases h
  -- extend
  · next i l =>
    split at h
    · next c0 f0 hi =>
      split at h
      · next d st1 h1 =>
        split at h
        · next c f hi1 =>
          split at h
          · next hz =>
            obtain ⟨c2, hc2, e⟩ := map_ok h
            cases e
            obtain ⟨q, ys, g1, g2, g3, g4, g5⟩ := var_list I hi
            rw [evE]
            rw [show evE cl (.var i) r s = .ok (.ref q) s from by rw [evE, g1]; rfl]
            simp only [Res.bind_ok, lstAt, g4, Option.isSome_some, if_true]
            refine ok_bind (ok_imp (H.l h1 ht I) fun ds s1 ⟨i1, c1, m1⟩ => ?_)
            obtain ⟨xs, k4, k5⟩ := var_list2 i1 hi1 g2
            obtain ⟨e1, e2⟩ := catC_ok hc2 k5 m1
            simp only [k4, show small (xs.length + ds.length) = true from small_of (by omega), if_true]
            exact ok_ok ⟨i1.put C g2 g3 k4 e1, Chg.frm (c1.1.trans (Frm.put g2)), rfl, lies_fl⟩
          · cases h
        · cases h
      · cases h
    · cases h
  · cases h
end
end Wb

/-! A9: tests, lists, walks, one step. -/
namespace Wb
open PySem
section
variable {base : Nat} {g : AEnv} {r : Wb.Env} {s : Store} {x : XV} {d : D}
/-- more is known of a name -/
theorem EOk.re (e : EOk base g r s) {i : Nat} (hi : r[i]? = some (some d)) (hx : Hold s x d) : EOk base (g.set i (some x)) r s := by
  refine ⟨by simpa using e.len, e.refs, fun j y h => ?_, e.ap⟩
  by_cases hj : j = i
  · subst hj
    have hl : j < g.length := by
      have := (List.getElem?_eq_some_iff.mp h).1
      simpa using this
    rw [List.getElem?_set_self hl] at h
    cases h
    exact ⟨d, hi, hx⟩
  · rw [List.getElem?_set_ne (Ne.symm hj)] at h
    exact e.val j y h
end
/-- what a target's storing changes -/
def Tgd (js : List Nat) (r1 r : Wb.Env) : Prop := (∀ (i q : Nat), r1[i]? = some (some (D.ref q)) → r[i]? = some (some (D.ref q))) ∧ ∀ i : Nat, i ∉ js → r1[i]? = r[i]?
mutual
theorem asT_ok {cl : Nat → List D → Store → Res D} {base : Nat} {s : Store} : ∀ (t : T) {a : AV} {g g1 : AEnv} {d : D} {r : Wb.Env}, aTg t a g = some g1 → mem a d = true → EOk base g r s → ∃ r1, asT cl t d r s = .ok r1 s ∧ EOk base g1 r1 s ∧ Tgd t.ids r1 r
  | .name i, a, g, g1, d, r, h, m, e => by
    unfold aTg at h
    cases h
    refine ⟨_, by rw [asT], e.asgF m, fun j q hj => ?_, fun j hj => ?_⟩
    · by_cases z : j = i
      · subst z
        have hl : j < r.length := by
          have := (List.getElem?_eq_some_iff.mp hj).1
          simpa using this
        rw [List.getElem?_set_self hl] at hj
        cases hj
        exact (mem_noref m).elim
      · rwa [List.getElem?_set_ne (Ne.symm z)] at hj
    · simp only [T.ids, List.mem_singleton] at hj
      rw [List.getElem?_set_ne (Ne.symm hj)]
  | .tup ts, a, g, g1, d, r, h, m, e => by
    cases a <;> simp only [aTg] at h <;> first | (cases h; done) | skip
    rename_i as
    split at h
    · next hl =>
      cases d <;> simp only [mem] at m <;> first | (cases m; done) | skip
      rename_i ds
      have := (mems_at m).1
      obtain ⟨r1, h1, h2, h3⟩ := asTs_ok (cl := cl) ts h m e
      exact ⟨r1, by rw [asT]; rw [if_pos (by omega)]; exact h1, h2, by rw [T.ids]; exact h3⟩
    · cases h
  | .sub _ _, a, g, g1, d, r, h, m, e => by
    unfold aTg at h
    cases h
theorem asTs_ok {cl : Nat → List D → Store → Res D} {base : Nat} {s : Store} : ∀ (ts : List T) {as : List AV} {g g1 : AEnv} {ds : List D} {r : Wb.Env}, aTgs ts as g = some g1 → mems as ds = true → EOk base g r s → ∃ r1, asTs cl ts ds r s = .ok r1 s ∧ EOk base g1 r1 s ∧ Tgd (T.idss ts) r1 r
  | [], as, g, g1, ds, r, h, m, e => by
    unfold aTgs at h
    cases h
    exact ⟨r, by rw [asTs], e, fun _ _ h => h, fun _ _ => rfl⟩
  | t :: ts, as, g, g1, ds, r, h, m, e => by
    unfold aTgs at h
    split at h
    · cases h
    · next a as' =>
      split at h
      · next g2 h2 =>
        cases ds with
        | nil => simp [mems] at m
        | cons d ds =>
          simp only [mems, Bool.and_eq_true] at m
          obtain ⟨r1, k1, k2, k3⟩ := asT_ok (cl := cl) t h2 m.1 e
          obtain ⟨r2, l1, l2, l3⟩ := asTs_ok (cl := cl) ts h m.2 k2
          refine ⟨r2, by rw [asTs]; simp only [k1, Res.bind_ok]; exact l1, l2, fun i q hi => k3.1 i q (l3.1 i q hi), fun i hi => ?_⟩
          simp only [T.idss, List.mem_append, not_or] at hi
          rw [l3.2 i hi.2, k3.2 i hi.1]
      · cases h
end
section
variable {DR : Nat} {acl : Nat → List XV → Option (XV × Nat)} {cl : Nat → List D → Store → Res D} {Gd : Store → Nat → Prop} {B n : Nat}
theorem snd_in (C : Ctx DR acl cl Gd B) (H : Snd DR acl cl Gd B n) {o : Cp} {a b : E} {st st' : ASt} {x : XV} {base t0 : Nat} {r : Wb.Env} {s : Store} (ho : o = .isin ∨ o = .notin) (h : aIn DR acl (n + 1) o a b st = some (x, st')) (ht : t0 + (n + 1) * Wd + B ≤ TM) (I : Inn Gd base t0 st r s) : Ok (evE cl (.cp o a b) r s) (PE Gd base t0 r s st' x (effE (.cp o a b))) := by
  have ht := up ht
  unfold aIn at h
  split at h
  · next x1 st1 h1 =>
    rw [evE]
    refine ok_bind (ok_imp (H.e h1 ht I) fun d s1 ⟨i1, c1, m1, _⟩ => ?_)
    split at h
    · next y1 st2 h2 =>
      obtain ⟨z, hz, e⟩ := map_ok h
      cases e
      refine ok_bind (ok_imp (H.e h2 ht i1) fun d2 s2 ⟨i2, c2, m2, _⟩ => ?_)
      obtain ⟨b, hb, sb⟩ := cpAA_ok (S := s2) (d := d) m2 hz (alts_memA m1)
      rw [hb]
      exact ok_ok ⟨i2, by rw [effE]; exact c1.trans c2, in_bl sb, lies_fl⟩
    · next c f st2 h2 =>
      have key : dpA 20 x1 = true ∧ (∀ a, c.hull = some a → dpA 20 a = true) ∧ x = .fl (.bl none) ∧ st' = st2 := by
        split at h
        · next hu hh =>
          split at h
          · next hd =>
            cases h
            simp only [Bool.and_eq_true] at hd
            exact ⟨hd.1, fun a ha => by rw [hh] at ha; cases ha; exact hd.2, rfl, rfl⟩
          · cases h
        · next hh =>
          split at h
          · next hd => cases h; exact ⟨hd, fun a ha => (by rw [hh] at ha; cases ha), rfl, rfl⟩
          · cases h
      obtain ⟨k1, k2, rfl, rfl⟩ := key
      refine ok_bind (ok_imp (H.e h2 ht i1) fun d2 s2 ⟨i2, c2, m2, _⟩ => ?_)
      obtain ⟨q, xs, rfl, q2, q3, q4⟩ := m2
      have hin : ∃ b, inD s2 d xs = some b := by
        cases e : c.hull with
        | none =>
          have := Ct.hull_none q4 e
          subst this
          exact inD_nr (mem_nr _ _ m1) (so20 k1 m1) (dp20 k1 m1) rfl rfl (Nat.zero_le _)
        | some a =>
          obtain ⟨h1, h2, h3⟩ := mems_flat (k2 a e) q4 e
          exact inD_nr (mem_nr _ _ m1) (so20 k1 m1) (dp20 k1 m1) h1 h2 h3
      obtain ⟨b, hb⟩ := hin
      have e : ∃ b, cpD s2 o d (.ref q) = some (.bl b) := by
        rcases ho with rfl | rfl
        · exact ⟨b, by cases d <;> simp only [cpD, q3, hb, Option.map_some]⟩
        · exact ⟨!b, by cases d <;> simp only [cpD, q3, hb, Option.map_some, noB]⟩
      obtain ⟨b', hb'⟩ := e
      rw [hb']
      exact ok_ok ⟨i2, by rw [effE]; exact c1.trans c2, rfl, lies_fl⟩
    · cases h
  · cases h
theorem snd_es (C : Ctx DR acl cl Gd B) (H : Snd DR acl cl Gd B n) {es : List E} {st st' : ASt} {xs : List XV} {base t0 : Nat} {r : Wb.Env} {s : Store} (h : aEs DR acl (n + 1) es st = some (xs, st')) (ht : t0 + (n + 1) * Wd + B ≤ TM) (I : Inn Gd base t0 st r s) : Ok (evEs cl es r s) fun ds s' => Inn Gd base t0 st' r s' ∧ Chg (effEs es) r s s' ∧ HoldL base s s' xs ds := by
  have ht := up ht
  unfold aEs at h
  split at h
  · cases h
    rw [evEs]
    exact ok_ok ⟨I, Chg.rfl', rfl⟩
  · next e es =>
    split at h
    · next x st1 h1 =>
      split at h
      · next ys st2 h2 =>
        split at h
        · next ha =>
          cases h
          rw [evEs]
          refine ok_bind (ok_imp (H.e h1 ht I) fun d s1 ⟨i1, c1, m1, l1⟩ => ok_bind (ok_imp (H.es h2 ht i1) fun ds s2 ⟨i2, c2, m2⟩ => ?_))
          refine ok_ok ⟨i2, by rw [effEs]; exact c1.trans c2, d, ds, rfl, ?_, l1, m2.mono c1.1.len⟩
          refine m1.frm c2.1 fun c f ex => ?_
          subst ex
          have hf : f = true := ha
          subst hf
          obtain ⟨q, e1, _, e3⟩ := l1 c true rfl
          have b2 := C.len _ _ I.gd
          exact ⟨q, e1, I.e.no (e3 rfl) (by have := e3 rfl; omega)⟩
        · cases h
      · cases h
    · cases h
theorem snd_o (H : Snd DR acl cl Gd B n) {o : Option E} {st st' : ASt} {x : Option (Int × Int)} {base t0 : Nat} {r : Wb.Env} {s : Store} (h : aO DR acl (n + 1) o st = some (x, st')) (ht : t0 + (n + 1) * Wd + B ≤ TM) (I : Inn Gd base t0 st r s) : Ok (evO cl o r s) fun i s' => Inn Gd base t0 st' r s' ∧ Chg (effO o) r s s' ∧ OkI x i := by
  have ht := up ht
  unfold aO at h
  split at h
  · cases h
    rw [evO]
    exact ok_ok ⟨I, Chg.rfl', trivial⟩
  · split at h
    · next l h' st1 h1 =>
      cases h
      rw [evO]
      refine ok_bind (ok_imp (H.e h1 ht I) fun d s1 ⟨i1, c1, m1, l1⟩ => ?_)
      obtain ⟨i, rfl, g1, g2⟩ := int_in m1
      exact ok_ok ⟨i1, by rw [effO]; exact c1, g1, g2⟩
    · cases h
theorem snd_c (H : Snd DR acl cl Gd B n) {e : Option E} {st : ASt} {a b : Option ASt} {base t0 : Nat} {r : Wb.Env} {s : Store} (h : aC DR acl (n + 1) e st = some (a, b)) (ht : t0 + (n + 1) * Wd + B ≤ TM) (I : Inn Gd base t0 st r s) : Ok (evC cl e r s) fun k s' => Chg (effO e) r s s' ∧ ∃ st', (if k then a else b) = some st' ∧ Inn Gd base t0 st' r s' := by
  have ht := up ht
  unfold aC at h
  split at h
  · cases h
    rw [evC]
    exact ok_ok ⟨Chg.rfl', _, rfl, I⟩
  · rw [evC]
    refine ok_imp (H.tt h ht I) fun k s1 ⟨c1, h2⟩ => ⟨by rw [effO]; exact c1, h2⟩
theorem evT_cp {o : Cp} {a b : E} {r : Wb.Env} {s s' : Store} {c : Bool} (h : evE cl (.cp o a b) r s = .ok (.bl c) s') : evT cl (.cp o a b) r s = .ok c s' := by
  rw [evE] at h
  rw [evT]
  obtain ⟨x, s1, h1, h⟩ := bind_ok h
  obtain ⟨y, s2, h2, h⟩ := bind_ok h
  obtain ⟨h3, rfl⟩ := opt_ok h
  rw [h1, Res.bind_ok, h2, Res.bind_ok, h3]
  rfl
theorem evT_cpL {o : Bool} {a b : Ls} {r : Wb.Env} {s s' : Store} {c : Bool} (h : evE cl (.cpL o a b) r s = .ok (.bl c) s') : evT cl (.cpL o a b) r s = .ok c s' := by
  rw [evE] at h
  rw [evT]
  obtain ⟨x, s1, h1, h⟩ := bind_ok h
  obtain ⟨y, s2, h2, h⟩ := bind_ok h
  rw [h1, Res.bind_ok, h2, Res.bind_ok]
  split at h
  · next hh =>
    rw [if_pos hh]
    obtain ⟨h3, rfl⟩ := opt_ok h
    obtain ⟨k, h4, h5⟩ := map_ok h3
    rw [h4]
    cases h5
    rfl
  · cases h
theorem tf_ok {b : Option Bool} {st : ASt} {k : Bool} (h : Says b k) : (if k then (tfOf b st).1 else (tfOf b st).2) = some st := by
  cases b with
  | none => cases k <;> rfl
  | some c =>
    have := h c rfl
    subst this
    cases k <;> rfl
theorem tf_eq {b : Option Bool} {st : ASt} {k : Bool} {x y : Option ASt} (h : some (tfOf b st) = some (x, y)) (hk : Says b k) : (if k then x else y) = some st := by
  have hh := Option.some.inj h
  have e1 : (tfOf b st).1 = x := congrArg Prod.fst hh
  have e2 : (tfOf b st).2 = y := congrArg Prod.snd hh
  rw [← e1, ← e2]
  exact tf_ok hk
theorem bnd_ok {l h v : Int} (h1 : l ≤ v) (h2 : v ≤ h) : bnd l h = some (l, h) := by
  unfold bnd
  rw [if_pos (by omega)]
theorem refI_ok {S : Store} {o : Cp} {k l h v : Int} {x y : Option (Int × Int)} (e : refI o k l h = some (x, y)) (h1 : l ≤ v) (h2 : v ≤ h) : ∃ b, cpD S o (.int v) (.int k) = some (.bl b) ∧ ∃ l' h', (if b then x else y) = some (l', h') ∧ l' ≤ v ∧ v ≤ h' := by
  unfold refI at e
  split at e <;> first | (cases e; done) | skip
  · cases e
    refine ⟨decide (v < k), rfl, ?_⟩
    by_cases c : v < k
    · rw [decide_eq_true c]
      exact ⟨_, _, bnd_ok (v := v) (by omega) (by omega), by omega, by omega⟩
    · rw [decide_eq_false c]
      exact ⟨_, _, bnd_ok (v := v) (by omega) (by omega), by omega, by omega⟩
  · cases e
    refine ⟨decide (v ≤ k), rfl, ?_⟩
    by_cases c : v ≤ k
    · rw [decide_eq_true c]
      exact ⟨_, _, bnd_ok (v := v) (by omega) (by omega), by omega, by omega⟩
    · rw [decide_eq_false c]
      exact ⟨_, _, bnd_ok (v := v) (by omega) (by omega), by omega, by omega⟩
  · cases e
    refine ⟨decide (k < v), rfl, ?_⟩
    by_cases c : k < v
    · rw [decide_eq_true c]
      exact ⟨_, _, bnd_ok (v := v) (by omega) (by omega), by omega, by omega⟩
    · rw [decide_eq_false c]
      exact ⟨_, _, bnd_ok (v := v) (by omega) (by omega), by omega, by omega⟩
  · cases e
    refine ⟨decide (k ≤ v), rfl, ?_⟩
    by_cases c : k ≤ v
    · rw [decide_eq_true c]
      exact ⟨_, _, bnd_ok (v := v) (by omega) (by omega), by omega, by omega⟩
    · rw [decide_eq_false c]
      exact ⟨_, _, bnd_ok (v := v) (by omega) (by omega), by omega, by omega⟩
  · cases e
    refine ⟨decide (v = k), rfl, ?_⟩
    by_cases c : v = k
    · rw [decide_eq_true c]
      exact ⟨_, _, bnd_ok (v := v) (by omega) (by omega), by omega, by omega⟩
    · rw [decide_eq_false c]
      simp only [Bool.false_eq_true, if_false]
      split
      · exact ⟨_, _, bnd_ok (v := v) (by omega) (by omega), by omega, by omega⟩
      · split
        · exact ⟨_, _, bnd_ok (v := v) (by omega) (by omega), by omega, by omega⟩
        · exact ⟨_, _, rfl, h1, h2⟩
  · cases e
    refine ⟨!decide (v = k), rfl, ?_⟩
    by_cases c : v = k
    · rw [decide_eq_true c]
      exact ⟨_, _, bnd_ok (v := v) (by omega) (by omega), by omega, by omega⟩
    · rw [decide_eq_false c]
      simp only [Bool.not_false, if_true]
      split
      · exact ⟨_, _, bnd_ok (v := v) (by omega) (by omega), by omega, by omega⟩
      · split
        · exact ⟨_, _, bnd_ok (v := v) (by omega) (by omega), by omega, by omega⟩
        · exact ⟨_, _, rfl, h1, h2⟩
theorem someC_ok {c : Ct} {xs : List D} (h : c.ok xs = true) (hx : xs ≠ []) : (someC c).ok xs = true := by
  have h := Ct.sum_ok h
  unfold someC
  obtain ⟨a, l, hi, o, e⟩ := sum_sm c
  rw [e] at h ⊢
  obtain ⟨b1, b2, b3, b4⟩ := sm_ok.mp h
  have := List.length_pos_iff.mpr hx
  exact sm_ok.mpr ⟨b1, by omega, b3, b4⟩
theorem joinO_l {Gd : Store → Nat → Prop} {base t0 : Nat} {r : Wb.Env} {s : Store} {a b : Option ASt} {st : ASt} (C : Ctx DR acl cl Gd B) (h : a = some st) (i : Inn Gd base t0 st r s) : ∃ st', joinO a b = some st' ∧ Inn Gd base t0 st' r s := by
  subst h
  cases b with
  | none => exact ⟨_, rfl, i⟩
  | some c => exact ⟨_, rfl, i.joinL C⟩
theorem joinO_r {Gd : Store → Nat → Prop} {base t0 : Nat} {r : Wb.Env} {s : Store} {a b : Option ASt} {st : ASt} (C : Ctx DR acl cl Gd B) (h : b = some st) (i : Inn Gd base t0 st r s) : ∃ st', joinO a b = some st' ∧ Inn Gd base t0 st' r s := by
  subst h
  cases a with
  | none => exact ⟨_, rfl, i⟩
  | some c => exact ⟨_, rfl, i.joinR C⟩
theorem snd_tt (C : Ctx DR acl cl Gd B) (H : Snd DR acl cl Gd B n) {e : E} {st : ASt} {a b : Option ASt} {base t0 : Nat} {r : Wb.Env} {s : Store} (h : aT DR acl (n + 1) e st = some (a, b)) (ht : t0 + (n + 1) * Wd + B ≤ TM) (I : Inn Gd base t0 st r s) : Ok (evT cl e r s) fun k s' => Chg (effE e) r s s' ∧ ∃ st', (if k then a else b) = some st' ∧ Inn Gd base t0 st' r s' := by
  have ht := up ht
  unfold aT at h
  have cpE : ∀ {o x y}, (match aE DR acl n (.cp o x y) st with
      | some (.fl (.bl b), st1) => some (tfOf b st1)
      | _ => none) = some (a, b) → Ok (evT cl (.cp o x y) r s) fun k s' => Chg (effE (.cp o x y)) r s s' ∧ ∃ st', (if k then a else b) = some st' ∧ Inn Gd base t0 st' r s' := fun {o x y} h => by
    split at h
    · next bb st1 h1 =>
      obtain ⟨d, s1, e1, i1, c1, m1, _⟩ := H.e h1 ht I
      obtain ⟨v, rfl, hv⟩ := bl_in m1
      exact ⟨v, s1, evT_cp e1, c1, st1, tf_eq h hv, i1⟩
    · cases h
  split at h
  · next a' =>
    split at h
    · next x y h1 =>
      cases h
      rw [evT]
      refine ok_bind (ok_imp (H.tt h1 ht I) fun k s1 ⟨c1, st1, e1, i1⟩ => ok_ok ⟨by rw [effE]; exact c1, st1, ?_, i1⟩)
      cases k <;> exact e1
    · cases h
  · next a' b' =>
    rw [evT]
    split at h
    · cases h
    · next f h1 =>
      cases h
      refine ok_bind (ok_imp (H.tt h1 ht I) fun k s1 ⟨c1, st1, e1, i1⟩ => ?_)
      cases k with
      | true => cases e1
      | false => exact ok_ok ⟨by rw [effE]; exact c1.more (by omega), st1, e1, i1⟩
    · next st1 f h1 =>
      split at h
      · next x y h2 =>
        cases h
        refine ok_bind (ok_imp (H.tt h1 ht I) fun k s1 ⟨c1, st2, e1, i1⟩ => ?_)
        cases k with
        | true =>
          cases e1
          refine ok_imp (H.tt h2 ht i1) fun k2 s2 ⟨c2, st3, e2, i2⟩ => ⟨by rw [effE]; exact c1.trans c2, ?_⟩
          cases k2 with
          | true => exact ⟨st3, e2, i2⟩
          | false => exact joinO_r C e2 i2
        | false =>
          refine ok_ok ⟨by rw [effE]; exact c1.more (by omega), ?_⟩
          exact joinO_l C e1 i1
      · cases h
  · next a' b' =>
    rw [evT]
    split at h
    · cases h
    · next f h1 =>
      cases h
      refine ok_bind (ok_imp (H.tt h1 ht I) fun k s1 ⟨c1, st1, e1, i1⟩ => ?_)
      cases k with
      | false => cases e1
      | true => exact ok_ok ⟨by rw [effE]; exact c1.more (by omega), st1, e1, i1⟩
    · next x0 st1 h1 =>
      split at h
      · next z y h2 =>
        cases h
        refine ok_bind (ok_imp (H.tt h1 ht I) fun k s1 ⟨c1, st2, e1, i1⟩ => ?_)
        cases k with
        | false =>
          cases e1
          refine ok_imp (H.tt h2 ht i1) fun k2 s2 ⟨c2, st3, e2, i2⟩ => ⟨by rw [effE]; exact c1.trans c2, ?_⟩
          cases k2 with
          | false => exact ⟨st3, e2, i2⟩
          | true => exact joinO_r C e2 i2
        | true =>
          refine ok_ok ⟨by rw [effE]; exact c1.more (by omega), ?_⟩
          exact joinO_l C e1 i1
      · cases h
  · next o i k =>
    split at h
    · next l h' hi =>
      split at h
      · next x y hr =>
        cases h
        obtain ⟨d, g1, g2, g3⟩ := I.e.var hi
        obtain ⟨v, rfl, v1, v2⟩ := int_in g3
        obtain ⟨b, hb, l2, h2, e1, e2, e3⟩ := refI_ok (S := s) hr v1 v2
        rw [evT]
        simp only [evE, g1, Res.opt_some, Res.bind_ok, hb, Option.bind_some, asBool]
        refine ok_ok ⟨Chg.rfl'.more (Nat.zero_le _), ⟨st.g.set i (some (.fl (.int l2 h2))), st.t⟩, ?_, ⟨I.e.re g2 (x := .fl (.int l2 h2)) (in_int e2 e3), I.gd, I.bl, I.b2⟩⟩
        cases b <;> simp only [Bool.false_eq_true, if_false, if_true] at e1 ⊢ <;> rw [e1] <;> rfl
      · cases h
    · exact cpE h
  · exact cpE h
  · next neg i =>
    split at h
    · next c f hi =>
      obtain ⟨q, xs, g1, g2, g3, g4, g5⟩ := var_list I hi
      have ev : ∀ k : ∀ a, c.hull = some a → dpA 20 a = true, evT cl (.cpL neg (.ofl (.var i)) (.disp [])) r s = .ok (if neg then !decide (xs = []) else decide (xs = [])) s := fun k => by
        rw [evT, evL, evE, g1]
        simp only [Res.opt_some, Res.bind_ok, lstAt, g4]
        rw [evL, evEs]
        simp only [Res.bind_ok, show small ([] : List D).length = true from rfl, if_true]
        rw [if_pos (show heldL (.ofl (.var i)) s s = true by simp [heldL]), cpL_nil g5 k]
        rfl
      have fin : ∀ (P : Bool → Store → Prop), P (if neg then !decide (xs = []) else decide (xs = [])) s → (∀ a, c.hull = some a → dpA 20 a = true) → Ok (evT cl (.cpL neg (.ofl (.var i)) (.disp [])) r s) P := fun P hP k => by
        rw [ev k]; exact ok_ok hP
      split at h
      · next hu hh =>
        split at h
        · next hd =>
          have k1 : ∀ a, c.hull = some a → dpA 20 a = true := fun a ha => by rw [hh] at ha; cases ha; exact hd
          refine fin _ ⟨Chg.rfl'.more (Nat.zero_le _), ?_⟩ k1
          split at h
          · have rest : xs ≠ [] → Inn Gd base t0 ⟨st.g.set i (some (.ls (someC c) false)), st.t⟩ r s := fun hx => ⟨I.e.re g2 (x := .ls (someC c) false) ⟨q, xs, rfl, g3, g4, someC_ok g5 hx⟩, I.gd, I.bl, I.b2⟩
            by_cases hx : xs = []
            · cases neg <;> simp only [hx, decide_true, Bool.not_true, Bool.false_eq_true, if_false, if_true] at h ⊢ <;> cases h <;> exact ⟨_, rfl, I⟩
            · cases neg <;> simp only [hx, decide_false, Bool.not_false, Bool.false_eq_true, if_false, if_true] at h ⊢ <;> cases h <;> exact ⟨_, rfl, rest hx⟩
          · next b he =>
            have := eqNil_says (neg := true) g5 b he
            simp only [if_true] at this
            refine ⟨st, tf_eq h ?_, I⟩
            cases neg <;> simp only [Bool.false_eq_true, if_false, if_true]
            · intro c hc; cases hc; rw [← this]; simp
            · intro c hc; cases hc; exact this
        · cases h
      · next hh =>
        have k1 : ∀ a, c.hull = some a → dpA 20 a = true := fun a ha => by rw [hh] at ha; cases ha
        have := Ct.hull_none g5 hh
        subst this
        refine fin _ ⟨Chg.rfl'.more (Nat.zero_le _), st, tf_eq h ?_, I⟩ k1
        cases neg <;> intro c hc <;> cases hc <;> rfl
    · cases h
  · split at h
    · next bb st1 h1 =>
      obtain ⟨d, s1, e1, i1, c1, m1, _⟩ := H.e h1 ht I
      obtain ⟨v, rfl, hv⟩ := bl_in m1
      exact ⟨v, s1, evT_cpL e1, c1, st1, tf_eq h hv, i1⟩
    · cases h
  · next i =>
    rw [evT]
    split at h
    · next b hi =>
      obtain ⟨d, g1, g2, g3⟩ := I.e.var hi
      obtain ⟨v, rfl, hv⟩ := bl_in g3
      simp only [g1, Option.bind_some, truthD, Res.opt_some]
      exact ok_ok ⟨Chg.rfl', st, tf_eq h hv, I⟩
    · next l h' hi =>
      obtain ⟨b, hb, e⟩ := map_ok h
      obtain ⟨d, g1, g2, g3⟩ := I.e.var hi
      obtain ⟨v, hv, sv⟩ := truthA_ok (S := s) hb g3
      simp only [g1, Option.bind_some, hv, Res.opt_some]
      exact ok_ok ⟨Chg.rfl', st, tf_eq (congrArg some e) sv, I⟩
    · cases h
  · cases h
end
end Wb

/-! A10: comprehensions, lists. -/
namespace Wb
open PySem
theorem memO_repl {a : AV} : ∀ {k : Nat} {ds : List D}, (∀ d ∈ ds, mem a d = true) → ds.length ≤ k → memO (List.replicate k (false, a)) ds = true
  | 0, ds, h, hl => by
    have : ds = [] := List.eq_nil_of_length_eq_zero (by omega)
    subst this; rfl
  | k + 1, ds, h, hl => by
    rw [List.replicate_succ]
    simp only [memO, Bool.or_eq_true, Bool.and_eq_true]
    cases ds with
    | nil => exact .inr ⟨rfl, memO_repl h (Nat.zero_le _)⟩
    | cons d ds =>
      left
      simp only [Bool.and_eq_true]
      exact ⟨h d (List.mem_cons_self ..), memO_repl (fun z hz => h z (List.mem_cons_of_mem _ hz)) (by simpa using hl)⟩
section
variable {DR : Nat} {acl : Nat → List XV → Option (XV × Nat)} {cl : Nat → List D → Store → Res D} {Gd : Store → Nat → Prop} {B n : Nat}
def stepC (cl : Nat → List D → Store → Res D) (own : List Nat) (t : T) (c : Option E) (e : E) (r : Wb.Env) : D → Store → Res (Option D) := fun d s2 => (asT cl t d (Wb.wipe r own) s2).bind fun r3 s3 => (evC cl c r3 s3).bind fun k s4 => if k then (evE cl e r3 s4).bind fun v s5 => .ok (some v) s5 else .ok none s4
def Got (o : Option (Bool × AV)) : Option D → Prop
  | some w => ∃ m a, o = some (m, a) ∧ mem a w = true
  | none => ∀ m a, o = some (m, a) → m = false
theorem Chg.sub {own : List Nat} {r1 r : Wb.Env} {s s' : Store} {k : Nat} (hs : Sub own r1 r) (c : Chg k r1 s s') : Chg k r s s' := ⟨c.1.sub hs, c.2.1, c.2.2⟩
theorem back_inn {base t0 : Nat} {st st2 : ASt} {own : List Nat} {r r1 : Wb.Env} {s s1 : Store} (I : Inn Gd base t0 st r s) (i2 : Inn Gd base t0 st2 r1 s1) (hs : Sub own r1 r) (f : Frm r1 s s1) : Inn Gd base t0 ⟨backG st.g st2.g own, st2.t⟩ r s1 := ⟨I.e.back i2.e hs f, i2.gd, i2.bl, i2.b2⟩
theorem step_ok (C : Ctx DR acl cl Gd B) (H : Snd DR acl cl Gd B n) {own : List Nat} {t : T} {c : Option E} {e : E} {a : AV} {st st' : ASt} {o : Option (Bool × AV)} {base t0 : Nat} {r : Wb.Env} {s : Store} {d : D}
    (h : compStep (aC DR acl n) (aE DR acl n) own t c e a st = some (o, st')) (ht : t0 + n * Wd + B ≤ TM) (I : Inn Gd base t0 st r s) (m : mem a d = true) :
    Ok (stepC cl own t c e r d s) fun v s' => Inn Gd base t0 st' r s' ∧ Chg (max (effO c) (effE e)) r s s' ∧ Got o v := by
  unfold compStep at h
  split at h
  · cases h
  · next hown =>
    have hown : (t.ids.all fun j => own.contains j) = true := by simpa using hown
    split at h
    · cases h
    · next g1 hg =>
      have m2 : mem (tgA t a) d = true := by
        cases t <;> first | exact m | exact flatten_ok m
      obtain ⟨r1, e1, e2, e3⟩ := asT_ok (cl := cl) t hg m2 (I.e.wipe (own := own))
      have sub : Sub own r1 r := by
        refine ⟨fun i q hi => wipe_get (e3.1 i q hi), fun i hi => ?_⟩
        rw [e3.2 i fun hj => hi (List.contains_iff_mem.mp (List.all_eq_true.mp hown i hj)), wipe_keep hi]
      have I1 : Inn Gd base t0 ⟨g1, st.t⟩ r1 s := ⟨e2, I.gd, I.bl, I.b2⟩
      unfold stepC
      rw [e1, Res.bind_ok]
      refine ok_bind ?_
      split at h
      · cases h
      · cases h
      · next st2 h2 =>
        cases h
        refine ok_imp (H.c h2 ht I1) fun k s1 ⟨c1, st3, e4, i1⟩ => ?_
        cases k with
        | true => cases e4
        | false =>
          cases e4
          refine ok_ok ⟨back_inn I i1 sub c1.1, (c1.sub sub).more (by omega), fun m a h => nomatch h⟩
      · next st2 fo h2 =>
        split at h
        · next v st3 h3 =>
          have key : ∀ {ov st'}, (match fo with
            | none => some (some (true, v), ⟨backG st.g st3.g own, st3.t⟩)
            | some st4 => some (some (false, v), ⟨joinG (backG st.g st4.g own) (backG st.g st3.g own), max st4.t st3.t⟩)) = some (ov, st') → (∃ mm, ov = some (mm, v) ∧ (fo ≠ none → mm = false)) ∧ (∀ s2, Inn Gd base t0 ⟨backG st.g st3.g own, st3.t⟩ r s2 → Inn Gd base t0 st' r s2) ∧ ∀ st4 s2, fo = some st4 → Inn Gd base t0 ⟨backG st.g st4.g own, st4.t⟩ r s2 → Inn Gd base t0 st' r s2 := fun {ov st'} h => by
            split at h
            · cases h
              exact ⟨⟨true, rfl, fun h => absurd rfl h⟩, fun _ i => i, fun _ _ h => nomatch h⟩
            · next st4 =>
              cases h
              exact ⟨⟨false, rfl, fun _ => rfl⟩, fun _ i => i.joinR (a := ⟨_, _⟩) C, fun st5 s2 e i => by cases e; exact i.joinL (b := ⟨_, _⟩) C⟩
          obtain ⟨⟨mm, rfl, k1⟩, k2, k3⟩ := key h
          refine ok_imp (H.c h2 ht I1) fun k s1 ⟨c1, st5, e4, i1⟩ => ?_
          cases k with
          | true =>
            cases e4
            simp only [if_true]
            refine ok_bind (ok_imp (H.e h3 ht i1) fun w s2 ⟨i2, c2, m3, _⟩ => ?_)
            exact ok_ok ⟨k2 _ (back_inn I i2 sub (c1.1.trans c2.1)), (c1.trans c2).sub sub, mm, v, rfl, m3⟩
          | false =>
            have e4 : fo = some st5 := e4
            refine ok_ok ⟨k3 _ _ e4 (back_inn I i1 sub c1.1), (c1.sub sub).more (by omega), fun m a h => ?_⟩
            cases h
            exact k1 (by rw [e4]; simp)
        · cases h
/-- what was read as a list ahead stands -/
def GOk (g : Option (Nat × List D)) (s : Store) : Prop := g = none ∨ ∃ q xs, g = some (q, xs) ∧ q ≠ 1 ∧ s[q]? = some (.lst xs)
theorem GOk.still {g : Option (Nat × List D)} {s : Store} (h : GOk g s) : still s g = true := by
  rcases h with rfl | ⟨q, xs, rfl, _, h⟩
  · rfl
  · exact decide_eq_true h
theorem GOk.keep {g : Option (Nat × List D)} {s s' : Store} {k : Nat} {r : Wb.Env} (h : GOk g s) (hk : g = none ∨ k ≤ 1) (c : Chg k r s s') : GOk g s' := by
  rcases h with rfl | ⟨q, xs, rfl, h1, h⟩
  · exact .inl rfl
  · rcases hk with hk | hk
    · cases hk
    · exact .inr ⟨q, xs, rfl, h1, (c.2.1 hk).get h h1⟩
theorem compAll_ok (C : Ctx DR acl cl Gd B) {stp : AV → ASt → Option (Option (Bool × AV) × ASt)} {sc : D → Store → Res (Option D)} {base t0 k : Nat} {r : Wb.Env} {gd : Option (Nat × List D)} (hk : gd = none ∨ k ≤ 1)
    (hs : ∀ {a st o st' s d}, stp a st = some (o, st') → Inn Gd base t0 st r s → mem a d = true → Ok (sc d s) fun v s' => Inn Gd base t0 st' r s' ∧ Chg k r s s' ∧ Got o v) :
    ∀ (es acc : List (Bool × AV)) (st : ASt) {res : List (Bool × AV)} {st' : ASt}, compAll stp es acc st = some (res, st') → ∀ (ds ac : List D) (s : Store), memO es ds = true → memO acc ac = true → acc.length + es.length ≤ 1000 → GOk gd s → Inn Gd base t0 st r s → Ok (compGo sc gd ds ac s) fun out s' => Inn Gd base t0 st' r s' ∧ Chg k r s s' ∧ memO res out = true
  | [], acc, st, res, st', h, ds, ac, s, m, ma, _, g, I => by
    cases ds with
    | cons d ds => simp [memO] at m
    | nil =>
      unfold compAll at h
      cases h
      unfold compGo
      rw [if_pos g.still]
      exact ok_ok ⟨I, Chg.rfl'.more (Nat.zero_le _), ma⟩
  | (mu, a) :: es, acc, st, res, st', h, ds, ac, s, m, ma, hl, g, I => by
    unfold compAll at h
    simp only [List.length_cons] at hl
    have la := (memO_len ma).2
    split at h
    · cases h
    · next o st1 h1 =>
      -- the thing is there
      have go : ∀ (d : D) (ds : List D) (acc2 : List (Bool × AV)) (st2 : ASt), mem a d = true → compAll stp es acc2 st2 = some (res, st') → memO es ds = true → acc2.length ≤ acc.length + 1 → (∀ s1, Inn Gd base t0 st1 r s1 → Inn Gd base t0 st2 r s1) → (∀ w m a', o = some (m, a') → mem a' w = true → memO acc2 (ac ++ [w]) = true) → ((∀ m a', o = some (m, a') → m = false) → memO acc2 ac = true) → Ok (compGo sc gd (d :: ds) ac s) fun out s' => Inn Gd base t0 st' r s' ∧ Chg k r s s' ∧ memO res out = true := by
        intro d ds acc2 st2 md h2 m2 hl2 hI hw hn
        unfold compGo
        rw [if_pos g.still]
        obtain ⟨v, s1, e1, i1, c1, gt⟩ := hs h1 I md
        rw [e1]
        cases v with
        | none =>
          simp only
          refine ok_imp (compAll_ok C hk hs es acc2 st2 h2 ds ac s1 m2 (hn gt) (by omega) (g.keep hk c1) (hI _ i1)) fun out s2 ⟨i2, c2, m3⟩ => ⟨i2, (c1.trans c2).more (by omega), m3⟩
        | some w =>
          simp only
          rw [if_pos (small_of (by omega))]
          obtain ⟨mm, a', eo, mw⟩ := gt
          refine ok_imp (compAll_ok C hk hs es acc2 st2 h2 ds (ac ++ [w]) s1 m2 (hw w mm a' eo mw) (by omega) (g.keep hk c1) (hI _ i1)) fun out s2 ⟨i2, c2, m3⟩ => ⟨i2, (c1.trans c2).more (by omega), m3⟩
      simp only [memO, Bool.or_eq_true, Bool.and_eq_true] at m
      cases mu with
      | true =>
        simp only [if_true] at h
        rcases m with m | m
        · cases ds with
          | nil => simp at m
          | cons d ds =>
            simp only [Bool.and_eq_true] at m
            refine go d ds _ _ m.1 h m.2 ?_ (fun _ i => i) (fun w m a' eo mw => ?_) (fun hn => ?_)
            · cases o with
              | none => simp [optC]
              | some e => simp [optC]
            · subst eo
              exact memO_app ma (by simp only [memO, Bool.and_true, Bool.or_eq_true]; exact .inl mw)
            · cases o with
              | none => exact ma
              | some e =>
                obtain ⟨mm, a'⟩ := e
                have := hn mm a' rfl
                subst this
                have := memO_app (fs := [(false, a')]) (gs := []) ma (by rfl)
                simpa [optC] using this
        · simp at m
      | false =>
        simp only [Bool.false_eq_true, if_false] at h
        have hl2 : (optF acc o).length ≤ acc.length + 1 := by
          cases o <;> simp [optF]
        have skip : memO (optF acc o) ac = true := by
          cases o with
          | some v => simpa [optF] using memO_app (fs := [(false, v.2)]) (gs := []) ma (by rfl)
          | none => exact ma
        rcases m with m | m
        · cases ds with
          | nil => simp at m
          | cons d ds =>
            simp only [Bool.and_eq_true] at m
            refine go d ds _ _ m.1 h m.2 hl2 (fun _ i => i.joinR (a := st) C) (fun w m a' eo mw => ?_) (fun _ => skip)
            subst eo
            exact memO_app ma (by simp only [memO, Bool.and_true, Bool.or_eq_true]; exact .inl mw)
        · exact compAll_ok C hk hs es _ _ h ds ac s m.2 skip (by omega) g (I.joinL (b := st1) C)
/-- of things alike -/
theorem compSm_ok (C : Ctx DR acl cl Gd B) (H : Snd DR acl cl Gd B n) {own : List Nat} {t : T} {c : Option E} {e : E} {a v : AV} {g : AEnv} {mm : Bool} {st2 : ASt} {base : Nat} {r : Wb.Env} {gd : Option (Nat × List D)} (hk : gd = none ∨ max (effO c) (effE e) ≤ 1)
    (h : compStep (aC DR acl n) (aE DR acl n) own t c e a ⟨g, 0⟩ = some (some (mm, v), st2)) (hg : st2.g = g) :
    ∀ (ds : List D) (t0 : Nat) (ac : List D) (s : Store), (∀ d ∈ ds, mem a d = true) → t0 + ds.length * st2.t + n * Wd + B ≤ TM → (∀ d ∈ ac, mem v d = true) → ac.length + ds.length ≤ 1000 → GOk gd s → Inn Gd base t0 ⟨g, 0⟩ r s → Ok (compGo (stepC cl own t c e r) gd ds ac s) fun out s' => Inn Gd base (t0 + ds.length * st2.t) ⟨g, 0⟩ r s' ∧ Chg (max (effO c) (effE e)) r s s' ∧ (∀ d ∈ out, mem v d = true) ∧ out.length ≤ ac.length + ds.length ∧ (mm = true → out.length = ac.length + ds.length)
  | [], t0, ac, s, _, _, ma, _, g, I => by
    unfold compGo
    rw [if_pos g.still]
    refine ok_ok ⟨by simpa using I, Chg.rfl'.more (Nat.zero_le _), ma, by simp, fun _ => by simp⟩
  | d :: ds, t0, ac, s, m, ht, ma, hl, gk, I => by
    simp only [List.length_cons] at hl ht ⊢
    have e0 : (ds.length + 1) * st2.t = st2.t + ds.length * st2.t := by rw [Nat.add_mul, Nat.one_mul, Nat.add_comm]
    rw [e0] at ht ⊢
    unfold compGo
    rw [if_pos gk.still]
    obtain ⟨w, s1, e1, i1, c1, gt⟩ := step_ok C H h (by omega) I (m d (List.mem_cons_self ..))
    rw [e1]
    have I2 : Inn Gd base (t0 + st2.t) ⟨g, 0⟩ r s1 := ⟨by rw [← hg]; exact i1.e, i1.gd, i1.bl, i1.b2⟩
    cases w with
    | none =>
      simp only
      refine ok_imp (compSm_ok C H hk h hg ds (t0 + st2.t) ac s1 (fun z hz => m z (List.mem_cons_of_mem _ hz)) (by omega) ma (by omega) (gk.keep hk c1) I2) fun out s2 ⟨i2, c2, m3, l3, l4⟩ => ⟨by rw [← Nat.add_assoc]; exact i2, (c1.trans c2).more (by omega), m3, by omega, fun z => ?_⟩
      have := gt mm v rfl
      rw [this] at z
      cases z
    | some w =>
      simp only
      rw [if_pos (small_of (by omega))]
      obtain ⟨m', a', eo, mw⟩ := gt
      cases eo
      have := compSm_ok C H hk h hg ds (t0 + st2.t) (ac ++ [w]) s1 (fun z hz => m z (List.mem_cons_of_mem _ hz)) (by omega) (fun z hz => by
        rcases List.mem_append.mp hz with y | y
        · exact ma z y
        · simp only [List.mem_singleton] at y
          subst y; exact mw) (by simp; omega) (gk.keep hk c1) I2
      refine ok_imp this fun out s2 ⟨i2, c2, m3, l3, l4⟩ => ⟨by rw [← Nat.add_assoc]; exact i2, (c1.trans c2).more (by omega), m3, by simp at l3; omega, fun z => by have := l4 z; simp at this; omega⟩
theorem snd_it (C : Ctx DR acl cl Gd B) (H : Snd DR acl cl Gd B n) {it : It} {st st' : ASt} {c : Ct} {gd : Bool} {base t0 : Nat} {r : Wb.Env} {s : Store} (h : aIt DR acl (n + 1) it st = some (c, gd, st')) (ht : t0 + (n + 1) * Wd + B ≤ TM) (I : Inn Gd base t0 st r s) : Ok (evIt cl it r s) fun p s' => Inn Gd base t0 st' r s' ∧ Chg (effIt it) r s s' ∧ c.ok p.1 = true ∧ (gd = false → p.2 = none) ∧ (p.2 = none ∨ ∃ q, p.2 = some (q, p.1) ∧ q ≠ 1 ∧ s'[q]? = some (.lst p.1)) := by
  have ht := up ht
  unfold aIt at h
  split at h
  · split at h
    · next a st1 h1 =>
      obtain ⟨c', hc, e⟩ := map_ok h
      cases e
      rw [evIt]
      refine ok_bind (ok_imp (H.e h1 ht I) fun d s1 ⟨i1, c1, m1, _⟩ => ?_)
      have m1 := flatten_ok m1
      obtain ⟨xs, rfl⟩ := ctOf_tup hc m1
      exact ok_ok ⟨i1, by rw [effIt]; exact c1, ctOf_ok hc m1, fun _ => rfl, .inl rfl⟩
    · next c' f st1 h1 =>
      cases h
      rw [evIt]
      refine ok_bind (ok_imp (H.e h1 ht I) fun d s1 ⟨i1, c1, m1, _⟩ => ?_)
      obtain ⟨q, xs, rfl, q2, q3, q4⟩ := m1
      simp only [q3]
      exact ok_ok ⟨i1, by rw [effIt]; exact c1, q4, (fun h => nomatch h), .inr ⟨q, rfl, by omega, q3⟩⟩
    · cases h
  · split at h
    · next c' st1 h1 =>
      cases h
      rw [evIt]
      refine ok_bind (ok_imp (H.l h1 ht I) fun ds s1 ⟨i1, c1, m1⟩ => ?_)
      exact ok_ok ⟨i1, by rw [effIt]; exact c1, m1, fun _ => rfl, .inl rfl⟩
    · cases h
  · split at h
    · next l hi st1 h1 =>
      split at h
      · next l2 hi2 st2 h2 =>
        obtain ⟨c', hc, e⟩ := map_ok h
        cases e
        rw [evIt]
        refine ok_bind (ok_imp (H.e h1 ht I) fun d s1 ⟨i1, c1, m1, _⟩ => ok_bind (ok_imp (H.e h2 ht i1) fun d2 s2 ⟨i2, c2, m2, _⟩ => ?_))
        obtain ⟨i, rfl, a1, a2⟩ := int_in m1
        obtain ⟨j, rfl, a3, a4⟩ := int_in m2
        obtain ⟨b1, b2⟩ := rngC_ok hc a1 a2 a3 a4
        simp only [b1, if_true]
        exact ok_ok ⟨i2, by rw [effIt]; exact c1.trans c2, b2, fun _ => rfl, .inl rfl⟩
      · cases h
    · cases h
  · cases h
theorem heldA_ok {a : Ls} {k : Nat} {r : Wb.Env} {s1 s2 : Store} (h : heldA a k = true) (c : Chg k r s1 s2) : heldL a s1 s2 = true := by
  unfold heldA at h
  simp only [Bool.or_eq_true, decide_eq_true_eq] at h
  unfold heldL
  rcases h with h | h
  · simp [h]
  · simp [c.2.2 h]
theorem snd_l (C : Ctx DR acl cl Gd B) (H : Snd DR acl cl Gd B n) {l : Ls} {st st' : ASt} {c : Ct} {base t0 : Nat} {r : Wb.Env} {s : Store} (h : aL DR acl (n + 1) l st = some (c, st')) (ht : t0 + (n + 1) * Wd + B ≤ TM) (I : Inn Gd base t0 st r s) : Ok (evL cl l r s) fun ds s' => Inn Gd base t0 st' r s' ∧ Chg (effL l) r s s' ∧ c.ok ds = true := by
  have ht0 := ht
  have ht := up ht
  unfold aL at h
  split at h
  -- of
  · split at h
    · next a st1 h1 =>
      obtain ⟨c', hc, e⟩ := map_ok h
      cases e
      rw [evL]
      refine ok_bind (ok_imp (H.e h1 ht I) fun d s1 ⟨i1, c1, m1, _⟩ => ?_)
      have m1 := flatten_ok m1
      obtain ⟨xs, rfl⟩ := ctOf_tup hc m1
      exact ok_ok ⟨i1, by rw [effL]; exact c1, ctOf_ok hc m1⟩
    · next c' f st1 h1 =>
      cases h
      rw [evL]
      refine ok_bind (ok_imp (H.e h1 ht I) fun d s1 ⟨i1, c1, m1, _⟩ => ?_)
      obtain ⟨q, xs, rfl, q2, q3, q4⟩ := m1
      simp only [seqAt, q3, Res.opt_some]
      exact ok_ok ⟨i1, by rw [effL]; exact c1, q4⟩
    · cases h
  -- ofl
  · split at h
    · next c' f st1 h1 =>
      cases h
      rw [evL]
      refine ok_bind (ok_imp (H.e h1 ht I) fun d s1 ⟨i1, c1, m1, _⟩ => ?_)
      obtain ⟨q, xs, rfl, q2, q3, q4⟩ := m1
      simp only [lstAt, q3, Res.opt_some]
      exact ok_ok ⟨i1, by rw [effL]; exact c1, q4⟩
    · cases h
  -- disp
  · split at h
    · next xs st1 h1 =>
      split at h
      · next as h2 =>
        split at h
        · next hz =>
          cases h
          rw [evL]
          refine ok_bind (ok_imp (H.es h1 ht I) fun ds s1 ⟨i1, c1, hl⟩ => ?_)
          have m := flats_hold h2 hl
          have := (mems_at m).1
          rw [if_pos (small_of (by omega))]
          exact ok_ok ⟨i1, by rw [effL]; exact c1, memO_must.mp m⟩
        · cases h
      · cases h
    · cases h
  -- comp
  · next own t it c0 e =>
    have eW : (n + 1) * Wd = n * Wd + Wd := by rw [Nat.add_mul, Nat.one_mul]
    have w0 : Wd = 2000000 := rfl
    have l0 : lim = 1000000 := rfl
    have hk : ∀ {gd : Bool} {p : List D × Option (Nat × List D)}, (!gd || decide (max (effO c0) (effE e) ≤ 1)) = true → (gd = false → p.2 = none) → p.2 = none ∨ max (effO c0) (effE e) ≤ 1 := fun {gd p} h1 h2 => by
      simp only [Bool.or_eq_true, Bool.not_eq_true', decide_eq_true_eq] at h1
      exact h1.imp h2 id
    have gok : ∀ {p : List D × Option (Nat × List D)} {s' : Store}, (p.2 = none ∨ ∃ q, p.2 = some (q, p.1) ∧ q ≠ 1 ∧ s'[q]? = some (.lst p.1)) → GOk p.2 s' := fun h => h.imp id fun ⟨q, h1, h2, h3⟩ => ⟨q, _, h1, h2, h3⟩
    split at h
    · next es gd st1 h1 =>
      split at h
      · next hc =>
        simp only [Bool.and_eq_true, decide_eq_true_eq] at hc
        split at h
        · next res st2 h2 =>
          cases h
          rw [evL]
          refine ok_bind (ok_imp (H.it h1 ht I) fun p s1 ⟨i1, c1, m1, g1, g2⟩ => ?_)
          have := compAll_ok C (hk hc.2 g1) (sc := stepC cl own t c0 e r) (stp := compStep (aC DR acl n) (aE DR acl n) own t c0 e) (fun {a st o st' s d} h I m => step_ok C H h ht I m) es [] st1 h2 p.1 [] s1 m1 rfl (by simpa using hc.1) (gok g2) i1
          refine ok_imp this fun out s2 ⟨i2, c2, m2⟩ => ⟨i2, by rw [effL]; exact c1.trans c2, m2⟩
        · cases h
      · cases h
    · next a lo hi o gd st1 h1 =>
      split at h
      · next hc =>
        simp only [Bool.and_eq_true, decide_eq_true_eq] at hc
        split at h
        · next mm v st2 h2 =>
          split at h
          · next hc2 =>
            cases h
            simp only [Bool.and_eq_true, decide_eq_true_eq] at hc2
            have hg := gBeq_eq hc2.1
            rw [evL]
            refine ok_bind (ok_imp (H.it h1 ht I) fun p s1 ⟨i1, c1, m1, g1, g2⟩ => ?_)
            obtain ⟨b1, b2, b3, _⟩ := sm_ok.mp m1
            have hle : p.1.length * st2.t ≤ hi * st2.t := Nat.mul_le_mul_right _ b3
            have := compSm_ok C H (hk hc.2 g1) h2 hg p.1 (t0 + st1.t) [] s1 b1 (by omega) (fun _ h => nomatch h) (by simp; omega) (gok g2) ⟨i1.e, by simpa using i1.gd, i1.bl, i1.b2⟩
            refine ok_imp this fun out s2 ⟨i2, c2, m2, l2, l3⟩ => ⟨⟨i2.e, C.more _ _ _ i2.gd (by show t0 + st1.t + p.1.length * st2.t + 0 ≤ t0 + (st1.t + hi * st2.t); omega), i2.bl, i2.b2⟩, by rw [effL]; exact c1.trans c2, sm_ok.mpr ⟨m2, ?_, by simp at l2; omega, rfl⟩⟩
            cases mm with
            | false => exact Nat.zero_le _
            | true =>
              have := l3 rfl
              simp at this
              simp; omega
          · split at h
            · next m3 v3 st3 h3 =>
              split at h
              · next hc4 =>
                cases h
                simp only [Bool.and_eq_true, decide_eq_true_eq] at hc4
                have hg := gBeq_eq hc4.1
                rw [evL]
                refine ok_bind (ok_imp (H.it h1 ht I) fun p s1 ⟨i1, c1, m1, g1, g2⟩ => ?_)
                obtain ⟨b1, b2, b3, _⟩ := sm_ok.mp m1
                have hle : p.1.length * st3.t ≤ hi * st3.t := Nat.mul_le_mul_right _ b3
                have := compSm_ok C H (hk hc.2 g1) h3 hg p.1 (t0 + st1.t) [] s1 b1 (by omega) (fun _ h => nomatch h) (by simp; omega) (gok g2) ⟨i1.e.joinL, by simpa using i1.gd, i1.bl, i1.b2⟩
                refine ok_imp this fun out s2 ⟨i2, c2, m2, l2, l3⟩ => ⟨⟨i2.e, C.more _ _ _ i2.gd (by show t0 + st1.t + p.1.length * st3.t + 0 ≤ t0 + (st1.t + hi * st3.t); omega), i2.bl, i2.b2⟩, by rw [effL]; exact c1.trans c2, sm_ok.mpr ⟨m2, ?_, by simp at l2; omega, rfl⟩⟩
                cases m3 with
                | false => exact Nat.zero_le _
                | true =>
                  have := l3 rfl
                  simp at this
                  simp; omega
              · cases h
            · cases h
        · split at h
          · next h40 =>
            split at h
            · next res st2 h2 =>
              cases h
              rw [evL]
              refine ok_bind (ok_imp (H.it h1 ht I) fun p s1 ⟨i1, c1, m1, g1, g2⟩ => ?_)
              obtain ⟨b1, b2, b3, _⟩ := sm_ok.mp m1
              have := compAll_ok C (hk hc.2 g1) (sc := stepC cl own t c0 e r) (stp := compStep (aC DR acl n) (aE DR acl n) own t c0 e) (fun {a st o st' s d} h I m => step_ok C H h ht I m) (List.replicate hi (false, a)) [] st1 h2 p.1 [] s1 (memO_repl b1 b3) rfl (by simp; omega) (gok g2) i1
              refine ok_imp this fun out s2 ⟨i2, c2, m2⟩ => ⟨i2, by rw [effL]; exact c1.trans c2, m2⟩
            · cases h
          · cases h
      · cases h
    · cases h
  -- list
  · rw [evL]
    exact ok_imp (H.l h ht I) fun ds s1 ⟨i1, c1, m1⟩ => ⟨i1, by rw [effL]; exact c1, m1⟩
  -- range
  · split at h
    · next l hi st1 h1 =>
      split at h
      · next l2 hi2 st2 h2 =>
        obtain ⟨c', hc, e⟩ := map_ok h
        cases e
        rw [evL]
        refine ok_bind (ok_imp (H.e h1 ht I) fun d s1 ⟨i1, c1, m1, _⟩ => ok_bind (ok_imp (H.e h2 ht i1) fun d2 s2 ⟨i2, c2, m2, _⟩ => ?_))
        obtain ⟨i, rfl, a1, a2⟩ := int_in m1
        obtain ⟨j, rfl, a3, a4⟩ := int_in m2
        obtain ⟨b1, b2⟩ := rngC_ok hc a1 a2 a3 a4
        simp only [b1, if_true]
        exact ok_ok ⟨i2, by rw [effL]; exact c1.trans c2, b2⟩
      · cases h
    · cases h
  -- sorted
  · split at h
    · next c1' st1 h1 =>
      obtain ⟨c', hc, e⟩ := map_ok h
      cases e
      rw [evL]
      refine ok_bind (ok_imp (H.l h1 ht I) fun ds s1 ⟨i1, c1, m1⟩ => ?_)
      obtain ⟨ys, hy, my⟩ := sortC_ok hc m1
      rw [hy]
      exact ok_ok ⟨i1, by rw [effL]; exact c1, my⟩
    · cases h
  · split at h
    · next c1' st1 h1 =>
      obtain ⟨c', hc, e⟩ := map_ok h
      cases e
      rw [evL]
      refine ok_bind (ok_imp (H.l h1 ht I) fun ds s1 ⟨i1, c1, m1⟩ => ?_)
      obtain ⟨ys, hy, my⟩ := sortSetC_ok hc m1
      rw [hy]
      exact ok_ok ⟨i1, by rw [effL]; exact c1, my⟩
    · cases h
  -- cat
  · split at h
    · next c1' st1 h1 =>
      split at h
      · next d st2 h2 =>
        split at h
        · next hh =>
          obtain ⟨c', hc, e⟩ := map_ok h
          cases e
          rw [evL]
          refine ok_bind (ok_imp (H.l h1 ht I) fun ds s1 ⟨i1, c1, m1⟩ => ok_bind (ok_imp (H.l h2 ht i1) fun es s2 ⟨i2, c2, m2⟩ => ?_))
          obtain ⟨m3, l3⟩ := catC_ok hc m1 m2
          rw [heldA_ok hh c2, Bool.true_and, if_pos (small_of (by omega))]
          exact ok_ok ⟨i2, by rw [effL]; exact c1.trans c2, m3⟩
        · cases h
      · cases h
    · cases h
  -- rep
  · split at h
    · next c1' st1 h1 =>
      split at h
      · next l hi st2 h2 =>
        split at h
        · next hh =>
          obtain ⟨c', hc, e⟩ := map_ok h
          cases e
          rw [evL]
          refine ok_bind (ok_imp (H.l h1 ht I) fun ds s1 ⟨i1, c1, m1⟩ => ok_bind (ok_imp (H.e h2 ht i1) fun d2 s2 ⟨i2, c2, m2, _⟩ => ?_))
          obtain ⟨i, rfl, a1, a2⟩ := int_in m2
          obtain ⟨m3, b1, b2, b3⟩ := repC_ok hc m1 a1 a2
          simp only [heldA_ok hh c2, Bool.true_and]
          rw [if_pos (by simp only [Bool.and_eq_true, decide_eq_true_eq]; exact ⟨⟨b1, b2⟩, b3⟩)]
          exact ok_ok ⟨i2, by rw [effL]; exact c1.trans c2, m3⟩
        · cases h
      · cases h
    · cases h
  -- sl
  · next a lo hi =>
    split at h
    · next x1 st1 h1 =>
      split at h
      · next l st2 h2 =>
        split at h
        · next h' st3 h3 =>
          split at h
          · next c2 hc =>
            obtain ⟨z, hz, e⟩ := map_ok h
            cases e
            rw [evL]
            refine ok_bind (ok_imp (H.e h1 ht I) fun d s1 ⟨i1, c1, m1, _⟩ => ok_bind (ok_imp (H.o h2 ht i1) fun i s2 ⟨i2, c2, m2⟩ => ok_bind (ok_imp (H.o h3 ht i2) fun j s3 ⟨i3, c3, m3⟩ => ?_)))
            have m1 := flatten_ok m1
            obtain ⟨xs, rfl⟩ := ctOf_tup hc m1
            have m4 := ctOf_ok hc m1
            refine ok_ok ⟨i3, ?_, cutC_ok hz m4 m2 m3⟩
            rw [effL]
            exact c1.trans (c2.trans c3)
          · cases h
        · cases h
      · cases h
    · next c' f st1 h1 =>
      split at h
      rotate_left
      · cases h
      next hfr =>
      split at h
      · next l st2 h2 =>
        split at h
        · next h' st3 h3 =>
          obtain ⟨z, hz, e⟩ := map_ok h
          cases e
          rw [evL]
          refine ok_bind (ok_imp (H.e h1 ht I) fun d s1 ⟨i1, c1, m1, l1⟩ => ok_bind (ok_imp (H.o h2 ht i1) fun i s2 ⟨i2, c2, m2⟩ => ok_bind (ok_imp (H.o h3 ht i2) fun j s3 ⟨i3, c3, m3⟩ => ?_)))
          obtain ⟨q, xs, rfl, q2, q3, q4⟩ := m1
          have q5 : s3[q]? = some (.lst xs) := (Bool.or_eq_true_iff.mp hfr).elim (fun z => by
            subst z
            obtain ⟨q', e1, _, e3⟩ := l1 _ true rfl
            cases e1
            exact ((c2.1.trans c3.1).old q (at_lt q3) (by omega) (I.e.no (e3 rfl) q2)).trans q3) fun z => (((c2.trans c3).2.1 (of_decide_eq_true z)).old q (at_lt q3) (by omega)).trans q3
          simp only [seqAt, q5, Option.map_some, Res.opt_some]
          refine ok_ok ⟨i3, ?_, cutC_ok hz q4 m2 m3⟩
          rw [effL]
          exact c1.trans (c2.trans c3)
        · cases h
      · cases h
    · cases h
theorem snd_zero : Snd DR acl cl Gd B 0 where
  e := fun h => nomatch h
  in_ := fun _ h => nomatch h
  es := fun h => nomatch h
  o := fun h => nomatch h
  tt := fun h => nomatch h
  l := fun h => nomatch h
  it := fun h => nomatch h
  c := fun h => nomatch h
theorem snd_all (C : Ctx DR acl cl Gd B) : ∀ n, Snd DR acl cl Gd B n
  | 0 => snd_zero
  | n + 1 =>
    have H := snd_all C n
    { e := fun h ht I => snd_e C H h ht I, in_ := fun ho h ht I => snd_in C H ho h ht I, es := fun h ht I => snd_es C H h ht I, o := fun h ht I => snd_o H h ht I, tt := fun h ht I => snd_tt C H h ht I, l := fun h ht I => snd_l C H h ht I, it := fun h ht I => snd_it C H h ht I, c := fun h ht I => snd_c H h ht I }
end
end Wb

/-! A11: statements and calls. -/
namespace Wb
open PySem
/-- below base all stays but the feed -/
structure Low (base : Nat) (s s' : Store) : Prop where
  len : s.length ≤ s'.length
  old : ∀ q, q < base → q ≠ 1 → s'[q]? = s[q]?
theorem Low.rfl' {base : Nat} {s : Store} : Low base s s := ⟨Nat.le_refl _, fun _ _ _ => rfl⟩
theorem Low.trans {base : Nat} {s s1 s2 : Store} (a : Low base s s1) (b : Low base s1 s2) : Low base s s2 := ⟨Nat.le_trans a.len b.len, fun q h1 h2 => (b.old q h1 h2).trans (a.old q h1 h2)⟩
def Ret (base : Nat) (s : Store) (x : XV) (d : D) : Prop := Hold s x d ∧ ∀ c f, x = .ls c f → ∃ q, d = .ref q ∧ base ≤ q
section
variable {DR : Nat} {acl : Nat → List XV → Option (XV × Nat)} {cl : Nat → List D → Store → Res D} {Gd : Store → Nat → Prop} {B n F : Nat} {base t0 : Nat} {g : AEnv} {r : Wb.Env} {s : Store} {st : ASt} {sp : List Nat}
theorem Inn.low {st' : ASt} {s' : Store} {k : Nat} (I : Inn Gd base t0 st r s) (c : Chg k r s s') : Low base s s' := ⟨c.1.len, fun q h1 h2 => c.1.old q (Nat.lt_of_lt_of_le h1 I.bl) h2 fun i hi => by
  rcases I.e.refs i q hi with z | z
  · exact h2 z
  · omega⟩
theorem Inn.more (C : Ctx DR acl cl Gd B) {t t' : Nat} (I : Inn Gd base t0 ⟨g, t⟩ r s) (h : t ≤ t') : Inn Gd base t0 ⟨g, t'⟩ r s := ⟨I.e, C.more _ _ _ I.gd (by show t0 + t ≤ t0 + t'; omega), I.bl, I.b2⟩
theorem Inn.env {g' : AEnv} {t : Nat} {r' : Wb.Env} (I : Inn Gd base t0 ⟨g, t⟩ r s) (e : EOk base g' r' s) : Inn Gd base t0 ⟨g', t⟩ r' s := ⟨e, I.gd, I.bl, I.b2⟩
/-- what a statement comes to is one of what it may come to -/
def Po (Gd : Store → Nat → Prop) (base t0 : Nat) (s : Store) (o : AOut) : Out → Store → Prop := fun out s' => Low base s s' ∧ match out with
  | .nx r' => ∃ g' ∈ o.nx, Inn Gd base t0 ⟨g', o.t⟩ r' s'
  | .rt d => (∃ x ∈ o.rts, Ret base s' x d) ∧ Gd s' (t0 + o.t) ∧ base ≤ s'.length
  | _ => False
theorem eachG_of {f : AEnv → Nat → Option AOut} {t : Nat} : ∀ {gs : List AEnv} {o : AOut}, eachG f t gs = some o → t ≤ o.t ∧ ∀ g ∈ gs, ∃ o1, f g t = some o1 ∧ (∀ x ∈ o1.rts, x ∈ o.rts) ∧ (∀ g ∈ o1.nx, g ∈ o.nx) ∧ o1.t ≤ o.t
  | [], o, h => by
    cases h
    exact ⟨Nat.le_refl _, fun _ h => nomatch h⟩
  | g :: gs, o, h => by
    unfold eachG at h
    split at h
    · next a b h1 h2 =>
      cases h
      obtain ⟨e1, e2⟩ := eachG_of h2
      refine ⟨by show t ≤ max a.t b.t; omega, fun g' hg => ?_⟩
      rcases List.mem_cons.mp hg with z | z
      · subst z
        exact ⟨a, h1, fun x hx => List.mem_append_left _ hx, fun x hx => List.mem_append_left _ hx, by show a.t ≤ max a.t b.t; omega⟩
      · obtain ⟨o1, k1, k2, k3, k4⟩ := e2 g' z
        exact ⟨o1, k1, fun x hx => List.mem_append_right _ (k2 x hx), fun x hx => List.mem_append_right _ (k3 x hx), by show o1.t ≤ max a.t b.t; omega⟩
    · cases h
theorem intAs_mem : ∀ {n : Nat} {l v : Int}, l ≤ v → v < l + n → AV.int v v ∈ intAs l n
  | 0, l, v, h1, h2 => by omega
  | n + 1, l, v, h1, h2 => by
    unfold intAs
    by_cases e : v = l
    · subst e; exact List.mem_cons_self ..
    · exact List.mem_cons_of_mem _ (intAs_mem (by omega) (by omega))
theorem splitAt_ok (e : EOk base g r s) (i : Nat) : ∃ g' ∈ splitAt g i, EOk base g' r s := by
  unfold splitAt
  split
  · next l h hi =>
    split
    · next hc =>
      obtain ⟨d, h1, h2⟩ := e.val i _ hi
      obtain ⟨v, rfl, v1, v2⟩ := int_in h2
      exact ⟨_, List.mem_map.mpr ⟨.int v v, intAs_mem v1 (by omega), rfl⟩, e.re h1 (x := .fl (.int v v)) (in_int (Int.le_refl _) (Int.le_refl _))⟩
    · exact ⟨g, by simp, e⟩
  · next as hi =>
    obtain ⟨d, h1, h2⟩ := e.val i _ hi
    have h2 : mem (.alt as) d = true := h2
    simp only [mem] at h2
    obtain ⟨a, ha, m⟩ := memA_iff.mp h2
    exact ⟨_, List.mem_map.mpr ⟨a, ha, rfl⟩, e.re h1 (x := .fl a) m⟩
  · exact ⟨g, by simp, e⟩
theorem splitG_ok : ∀ {is : List Nat} {g : AEnv}, EOk base g r s → ∃ g' ∈ splitG g is, EOk base g' r s
  | [], g, e => ⟨g, by simp [splitG], e⟩
  | i :: is, g, e => by
    obtain ⟨g1, h1, e1⟩ := splitAt_ok e i
    obtain ⟨g2, h2, e2⟩ := splitG_ok (is := is) e1
    exact ⟨g2, by unfold splitG; exact List.mem_flatMap.mpr ⟨g1, h1, h2⟩, e2⟩
theorem foldJ_ok : ∀ {gs : List AEnv} {g g' : AEnv}, EOk base g' r s → (g' = g ∨ g' ∈ gs) → EOk base (gs.foldl joinG g) r s
  | [], g, g', e, h => by
    rcases h with h | h
    · subst h; exact e
    · cases h
  | a :: gs, g, g', e, h => by
    rw [List.foldl_cons]
    rcases h with h | h
    · subst h; exact foldJ_ok e.joinL (.inl rfl)
    · rcases List.mem_cons.mp h with z | z
      · subst z; exact foldJ_ok e.joinR (.inl rfl)
      · exact foldJ_ok e (.inr z)
theorem joinGs_ok {gs : List AEnv} {g' : AEnv} (e : EOk base g' r s) (h : g' ∈ gs) : ∃ g1, joinGs gs = [g1] ∧ EOk base g1 r s := by
  cases gs with
  | nil => cases h
  | cons a gs => exact ⟨_, rfl, foldJ_ok e (List.mem_cons.mp h)⟩
theorem forAll_ok (C : Ctx DR acl cl Gd B) {body : AV → AEnv → Nat → Option AOut} {bd : D → Wb.Env → Store → Res Out}
    (hb : ∀ {a g t o d r s}, body a g t = some o → mem a d = true → Inn Gd base t0 ⟨g, t⟩ r s → Ok (bd d r s) (Po Gd base t0 s o)) :
    ∀ (es : List (Bool × AV)) (g : AEnv) (t : Nat) {o : AOut}, forAll body es g t = some o → ∀ (ds : List D) (r : Wb.Env) (s : Store), memO es ds = true → Inn Gd base t0 ⟨g, t⟩ r s → Ok (forGo bd none ds r s) (Po Gd base t0 s o)
  | [], g, t, o, h, ds, r, s, m, I => by
    cases ds with
    | cons d ds => simp [memO] at m
    | nil =>
      unfold forAll at h
      cases h
      unfold forGo
      rw [if_pos (show still s none = true from rfl)]
      exact ok_ok ⟨Low.rfl', g, by simp, I⟩
  | (mu, a) :: es, g, t, o, h, ds, r, s, m, I => by
    unfold forAll at h
    split at h
    · cases h
    · next o1 h1 =>
      -- what is behind the first
      have nxt : ∀ (g' : AEnv) (r' : Wb.Env) (s' : Store) (ds : List D), g' ∈ (if mu then o1.nx else g :: o1.nx) → Inn Gd base t0 ⟨g', max t o1.t⟩ r' s' → memO es ds = true → Low base s s' → Ok (forGo bd none ds r' s') (Po Gd base t0 s o) := by
        intro g' r' s' ds hg' I' m' lw
        obtain ⟨g1, e1, k1⟩ := joinGs_ok I'.e hg'
        rw [e1] at h
        simp only at h
        split at h
        · next o2 h2 =>
          cases h
          refine ok_imp (forAll_ok C hb es g1 _ h2 ds r' s' m' (I'.env k1)) fun out s2 ⟨l2, p2⟩ => ⟨lw.trans l2, ?_⟩
          cases out with
          | nx r2 =>
            obtain ⟨g2, hg2, I2⟩ := p2
            exact ⟨g2, hg2, I2.more C (by show o2.t ≤ max (max t o1.t) o2.t; omega)⟩
          | rt d =>
            obtain ⟨⟨x, hx, hr⟩, p3, p4⟩ := p2
            exact ⟨⟨x, List.mem_append_right _ hx, hr⟩, C.more _ _ _ p3 (by show t0 + o2.t ≤ t0 + max (max t o1.t) o2.t; omega), p4⟩
          | bk _ => exact p2
          | ct _ => exact p2
        · cases h
      simp only [memO, Bool.or_eq_true, Bool.and_eq_true] at m
      have there : ∀ (d : D) (ds : List D), mem a d = true → memO es ds = true → Ok (forGo bd none (d :: ds) r s) (Po Gd base t0 s o) := by
        intro d ds md m2
        unfold forGo
        rw [if_pos (show still s none = true from rfl)]
        obtain ⟨out, s1, e1, l1, p1⟩ := hb h1 md I
        rw [e1]
        cases out with
        | nx r1 =>
          obtain ⟨g2, hg2, I2⟩ := p1
          refine nxt g2 r1 s1 ds ?_ (I2.more C (by omega)) m2 l1
          cases mu with
          | true => exact hg2
          | false => exact List.mem_cons_of_mem _ hg2
        | rt d' =>
          obtain ⟨⟨x, hx, hr⟩, p3, p4⟩ := p1
          refine ok_ok ⟨l1, ?_⟩
          have key : x ∈ o.rts ∧ o1.t ≤ o.t := by
            split at h
            · split at h
              · cases h
                exact ⟨List.mem_append_left _ hx, by show o1.t ≤ max (max t o1.t) _; omega⟩
              · cases h
            · cases h
              exact ⟨hx, by show o1.t ≤ max t o1.t; omega⟩
          exact ⟨⟨x, key.1, hr⟩, C.more _ _ _ p3 (by omega), p4⟩
        | bk _ => exact p1.elim
        | ct _ => exact p1.elim
      rcases m with m | m
      · cases ds with
        | nil => simp at m
        | cons d ds =>
          simp only [Bool.and_eq_true] at m
          exact there d ds m.1 m.2
      · have hm : mu = false := by simpa using m.1
        subst hm
        exact nxt g r s ds (List.mem_cons_self ..) (I.more C (by omega)) m.2 Low.rfl'
/-- a value is given a name -/
theorem EOk.stored {s s' : Store} {x y : XV} {d : D} (e : EOk base g r s') (hst : Wb.stored x = some y) (h : Hold s' x d) (l : Lies base s x d) (hb : base ≤ s'.length) (h2 : 2 ≤ base) (hl : s.length ≤ s'.length) (hn : ∀ q, s.length ≤ q → ∀ j : Nat, r[j]? ≠ some (some (D.ref q))) {i : Nat} : EOk base (g.set i (some y)) (r.set i (some d)) s' := by
  cases x with
  | fl a => cases hst; exact e.asgF h
  | feed => cases hst
  | ls c f =>
    cases f with
    | false => cases hst
    | true =>
      cases hst
      obtain ⟨q, e1, e2, e3⟩ := l c true rfl
      obtain ⟨q', xs, e4, e5, e6, e7⟩ := h
      subst e1
      cases e4
      exact e.asg (x := .ls c false) ⟨q, xs, rfl, e5, e6, e7⟩ fun p hp => by
        cases hp
        exact ⟨⟨e2, at_lt e6⟩, hn q (e3 rfl)⟩
theorem Inn.nosee {s : Store} (I : Inn Gd base t0 st r s) : ∀ q, s.length ≤ q → ∀ j : Nat, r[j]? ≠ some (some (D.ref q)) := fun q hq => I.e.no hq (by have := I.bl; have := I.b2; omega)
structure SndS (DR : Nat) (acl : Nat → List XV → Option (XV × Nat)) (cl : Nat → List D → Store → Res D) (Gd : Store → Nat → Prop) (B F : Nat) (sp : List Nat) (n : Nat) : Prop where
  s : ∀ {st g t o base t0 r s}, aS DR acl sp n st g t = some o → t0 + n * Wd + B ≤ TM → Inn Gd base t0 ⟨g, t⟩ r s → Ok (evS cl F st r s) (Po Gd base t0 s o)
  ss : ∀ {sts g t o base t0 r s}, aSs DR acl sp n sts g t = some o → t0 + n * Wd + B ≤ TM → Inn Gd base t0 ⟨g, t⟩ r s → Ok (evSs cl F sts r s) (Po Gd base t0 s o)
theorem Po.low {o : AOut} {s0 s : Store} (l : Low base s0 s) {out : Out} {s' : Store} (p : Po Gd base t0 s o out s') : Po Gd base t0 s0 o out s' := ⟨l.trans p.1, p.2⟩
theorem Po.in_ (C : Ctx DR acl cl Gd B) {o o2 : AOut} (h1 : ∀ x ∈ o.rts, x ∈ o2.rts) (h2 : ∀ g ∈ o.nx, g ∈ o2.nx) (h3 : o.t ≤ o2.t) {out : Out} {s' : Store} (p : Po Gd base t0 s o out s') : Po Gd base t0 s o2 out s' := by
  refine ⟨p.1, ?_⟩
  have p2 := p.2
  cases out with
  | nx r =>
    obtain ⟨g, hg, I⟩ := p2
    exact ⟨g, h2 g hg, I.more C h3⟩
  | rt d =>
    obtain ⟨⟨x, hx, hr⟩, p3, p4⟩ := p2
    exact ⟨⟨x, h1 x hx, hr⟩, C.more _ _ _ p3 (by omega), p4⟩
  | bk _ => exact p2
  | ct _ => exact p2
theorem snd_ss (C : Ctx DR acl cl Gd B) (H : SndS DR acl cl Gd B F sp n) {sts : List Wb.S} {g : AEnv} {t : Nat} {o : AOut} {base t0 : Nat} {r : Wb.Env} {s : Store} (h : aSs DR acl sp (n + 1) sts g t = some o) (ht : t0 + (n + 1) * Wd + B ≤ TM) (I : Inn Gd base t0 ⟨g, t⟩ r s) : Ok (evSs cl F sts r s) (Po Gd base t0 s o) := by
  have ht := up ht
  unfold aSs at h
  split at h
  · cases h
    rw [evSs]
    exact ok_ok ⟨Low.rfl', g, by simp, I⟩
  · next st sts =>
    split at h
    · cases h
    · next o1 h1 =>
      split at h
      · next o2 h2 =>
        cases h
        obtain ⟨k1, k2⟩ := eachG_of h2
        rw [evSs]
        refine ok_bind (ok_imp (H.s h1 ht I) fun out s1 ⟨l1, p1⟩ => ?_)
        cases out with
        | nx r1 =>
          obtain ⟨g1, hg1, I1⟩ := p1
          obtain ⟨o3, e1, e2, e3, e4⟩ := k2 g1 hg1
          refine ok_imp (H.ss e1 ht I1) fun out s2 p2 => (p2.in_ C (o2 := ⟨o1.rts ++ o2.rts, o2.nx, o2.t⟩) (fun x hx => List.mem_append_right _ (e2 x hx)) e3 e4).low l1
        | rt d =>
          obtain ⟨⟨x, hx, hr⟩, p3, p4⟩ := p1
          exact ok_ok ⟨l1, ⟨x, List.mem_append_left _ hx, hr⟩, C.more _ _ _ p3 (by show t0 + o1.t ≤ t0 + o2.t; omega), p4⟩
        | bk _ => exact p1.elim
        | ct _ => exact p1.elim
      · cases h
theorem snd_s (C : Ctx DR acl cl Gd B) (H : SndS DR acl cl Gd B F sp n) {st : Wb.S} {g : AEnv} {t : Nat} {o : AOut} {base t0 : Nat} {r : Wb.Env} {s : Store} (h : aS DR acl sp (n + 1) st g t = some o) (ht : t0 + (n + 1) * Wd + B ≤ TM) (I : Inn Gd base t0 ⟨g, t⟩ r s) : Ok (evS cl F st r s) (Po Gd base t0 s o) := by
  have ht := up ht
  have E := snd_all C n
  unfold aS at h
  split at h
  -- a name
  · next i e =>
    split at h
    · next x st1 h1 =>
      obtain ⟨y, hy, eo⟩ := map_ok h
      subst eo
      rw [evS]
      refine ok_bind (ok_imp (E.e h1 ht I) fun d s1 ⟨i1, c1, m1, l1⟩ => ?_)
      rw [asT]
      obtain ⟨g2, hg2, e2⟩ := splitG_ok (is := sp.filter fun j => j == i) (i1.e.stored hy m1 l1 i1.bl i1.b2 c1.1.len I.nosee (i := i))
      rw [Res.bind_ok]
      exact ok_ok ⟨I.low (st' := st1) c1, g2, hg2, e2, i1.gd, i1.bl, i1.b2⟩
    · cases h
  -- names
  · next ts e =>
    split at h
    · next a st1 h1 =>
      obtain ⟨gs, hgs, eo⟩ := map_ok h
      subst eo
      rw [evS]
      refine ok_bind (ok_imp (E.e h1 ht I) fun d s1 ⟨i1, c1, m1, l1⟩ => ?_)
      obtain ⟨b, hb, mb⟩ := alts_mem m1
      obtain ⟨g2, hg2, e2⟩ := mapO_at hgs b hb
      obtain ⟨r1, k1, k2, k3⟩ := asT_ok (cl := cl) (.tup ts) e2 (flatten_ok mb) i1.e
      rw [k1, Res.bind_ok]
      obtain ⟨g3, hg3, e3⟩ := splitG_ok (is := sp.filter fun j => (T.idss ts).contains j) k2
      exact ok_ok ⟨I.low (st' := st1) c1, g3, List.mem_flatMap.mpr ⟨g2, hg2, hg3⟩, e3, i1.gd, i1.bl, i1.b2⟩
    · cases h
  -- an expression
  · next e =>
    split at h
    · next x st1 h1 =>
      cases h
      rw [evS]
      refine ok_bind (ok_imp (E.e h1 ht I) fun d s1 ⟨i1, c1, m1, l1⟩ => ?_)
      exact ok_ok ⟨I.low (st' := st1) c1, st1.g, by simp, i1⟩
    · cases h
  -- return
  · next e =>
    split at h
    · next x st1 h1 =>
      obtain ⟨y, hy, eo⟩ := map_ok h
      subst eo
      rw [evS]
      refine ok_bind (ok_imp (E.e h1 ht I) fun d s1 ⟨i1, c1, m1, l1⟩ => ?_)
      refine ok_ok ⟨I.low (st' := st1) c1, ⟨y, by simp, ?_⟩, i1.gd, i1.bl⟩
      cases x with
      | fl a => cases hy; exact ⟨m1, fun _ _ h => nomatch h⟩
      | feed => cases hy
      | ls c f =>
        cases hy
        exact ⟨m1, fun c' f' e => by
          cases e
          obtain ⟨q, e1, e2, _⟩ := l1 c f rfl
          exact ⟨q, e1, e2⟩⟩
    · cases h
  · cases h
    rw [evS]
    exact ok_ok ⟨Low.rfl', ⟨.fl .non, by simp, rfl, fun _ _ h => nomatch h⟩, I.gd, I.bl⟩
  -- if
  · next c a b =>
    rw [evS]
    split at h
    · cases h
    · cases h
    · next st1 h1 =>
      refine ok_bind (ok_imp (E.tt h1 ht I) fun k s1 ⟨c1, st2, e2, i2⟩ => ?_)
      cases k with
      | false => cases e2
      | true =>
        cases e2
        exact ok_imp (H.ss h ht i2) fun out s2 p => p.low (I.low (st' := st1) c1)
    · next st1 h1 =>
      refine ok_bind (ok_imp (E.tt h1 ht I) fun k s1 ⟨c1, st2, e2, i2⟩ => ?_)
      cases k with
      | true => cases e2
      | false =>
        cases e2
        exact ok_imp (H.ss h ht i2) fun out s2 p => p.low (I.low (st' := st1) c1)
    · next st1 st4 h1 =>
      split at h
      · next o1 o2 h2 h3 =>
        cases h
        have fin : ∀ {o3 : AOut} {s1 s2 : Store} {out : Out}, (∀ x ∈ o3.rts, x ∈ o1.rts ++ o2.rts) → (∀ g ∈ o3.nx, g ∈ o1.nx ++ o2.nx) → o3.t ≤ max o1.t o2.t → Po Gd base t0 s1 o3 out s2 → Po Gd base t0 s1 ⟨o1.rts ++ o2.rts, (joinGs (o1.nx ++ o2.nx)).flatMap fun g => splitG g sp, max o1.t o2.t⟩ out s2 := by
          intro o3 s1 s2 out k1 k2 k3 p
          refine ⟨p.1, ?_⟩
          have p2 := p.2
          cases out with
          | nx r =>
            obtain ⟨g, hg, I⟩ := p2
            obtain ⟨g1, e1, j1⟩ := joinGs_ok I.e (k2 g hg)
            obtain ⟨g2, hg2, j2⟩ := splitG_ok (is := sp) j1
            exact ⟨g2, by rw [e1]; simpa using hg2, (I.env j2).more C k3⟩
          | rt d =>
            obtain ⟨⟨x, hx, hr⟩, p3, p4⟩ := p2
            exact ⟨⟨x, k1 x hx, hr⟩, C.more _ _ _ p3 (by show t0 + o3.t ≤ t0 + max o1.t o2.t; omega), p4⟩
          | bk _ => exact p2
          | ct _ => exact p2
        refine ok_bind (ok_imp (E.tt h1 ht I) fun k s1 ⟨c1, st2, e2, i2⟩ => ?_)
        cases k with
        | true =>
          cases e2
          exact ok_imp (H.ss h2 ht i2) fun out s2 p => (fin (fun x hx => List.mem_append_left _ hx) (fun x hx => List.mem_append_left _ hx) (by omega) p).low (I.low (st' := st1) c1)
        | false =>
          cases e2
          exact ok_imp (H.ss h3 ht i2) fun out s2 p => (fin (fun x hx => List.mem_append_right _ hx) (fun x hx => List.mem_append_right _ hx) (by omega) p).low (I.low (st' := st1) c1)
      · cases h
  -- for
  · next tg it b =>
    rw [evS]
    have bod : ∀ {a : AV} {g : AEnv} {t : Nat} {o : AOut} {d : D} {r : Wb.Env} {s : Store}, (match aTg tg (tgA tg a) g with
          | some g1 => aSs DR acl sp n b g1 t
          | none => none) = some o → mem a d = true → Inn Gd base t0 ⟨g, t⟩ r s → Ok ((asT cl tg d r s).bind fun r3 s3 => evSs cl F b r3 s3) (Po Gd base t0 s o) := by
      intro a g t o d r s h m I
      split at h
      · next g1 hg1 =>
        have m2 : mem (tgA tg a) d = true := by
          cases tg <;> first | exact m | exact flatten_ok m
        obtain ⟨r1, k1, k2, k3⟩ := asT_ok (cl := cl) tg hg1 m2 I.e
        rw [k1, Res.bind_ok]
        exact H.ss h ht (I.env k2)
      · cases h
    split at h
    · cases h
    · next es st1 h1 =>
      refine ok_bind (ok_imp (E.it h1 ht I) fun p s1 ⟨i1, c1, m1, g1, _⟩ => ?_)
      rw [g1 rfl]
      exact ok_imp (forAll_ok C (fun h m I => bod h m I) es st1.g st1.t h p.1 r s1 m1 i1) fun out s2 p => p.low (I.low (st' := st1) c1)
    · next a lo hi o' st1 h1 =>
      split at h
      · next hh =>
        refine ok_bind (ok_imp (E.it h1 ht I) fun p s1 ⟨i1, c1, m1, g1, _⟩ => ?_)
        rw [g1 rfl]
        obtain ⟨b1, b2, b3, _⟩ := sm_ok.mp m1
        exact ok_imp (forAll_ok C (fun h m I => bod h m I) _ st1.g st1.t h p.1 r s1 (memO_repl b1 b3) i1) fun out s2 p => p.low (I.low (st' := st1) c1)
      · cases h
    · cases h
  -- a pair
  · next i j a b =>
    split at h
    · next x st1 h1 =>
      split at h
      · next y st2 h2 =>
        split at h
        · next x' y' hx hy =>
          split at h
          · cases h
          · next hij =>
            cases h
            rw [evS]
            refine ok_bind (ok_imp (E.e h1 ht I) fun d s1 ⟨i1, c1, m1, l1⟩ => ok_bind (ok_imp (E.e h2 ht i1) fun d2 s2 ⟨i2, c2, m2, l2⟩ => ?_))
            have b2 := C.len _ _ I.gd
            have m1' : Hold s2 x d := m1.frm c2.1 fun c f e => by
              subst e
              cases f with
              | false => cases hx
              | true =>
                obtain ⟨q, e1, _, e3⟩ := l1 c true rfl
                exact ⟨q, e1, I.e.no (e3 rfl) (by have := e3 rfl; omega)⟩
            have e1 := i2.e.stored hx m1' l1 i2.bl i2.b2 (Nat.le_trans c1.1.len c2.1.len) I.nosee (i := i)
            have no2 : ∀ q, s1.length ≤ q → ∀ k : Nat, (r.set i (some d))[k]? ≠ some (some (D.ref q)) := fun q hq k hk => by
              by_cases z : k = i
              · subst z
                have hl : k < r.length := by
                  have := (List.getElem?_eq_some_iff.mp hk).1
                  simpa using this
                rw [List.getElem?_set_self hl] at hk
                cases hk
                cases x with
                | fl a => exact mem_noref m1
                | feed => cases hx
                | ls c f =>
                  obtain ⟨q', xs, e4, _, e6, _⟩ := m1
                  cases e4
                  have := at_lt e6
                  omega
              · rw [List.getElem?_set_ne (Ne.symm z)] at hk
                exact i1.nosee q hq k hk
            have e2 := e1.stored hy m2 l2 i2.bl i2.b2 c2.1.len no2 (i := j)
            obtain ⟨g3, hg3, e3⟩ := splitG_ok (is := sp.filter fun k => k == i || k == j) e2
            exact ok_ok ⟨I.low (st' := st1) (c1.trans c2), g3, hg3, e3, i2.gd, i2.bl, i2.b2⟩
        · cases h
      · cases h
    · cases h
  · cases h
    rw [evS]
    exact ok_ok ⟨Low.rfl', g, by simp, I⟩
  · cases h
theorem sndS_all (C : Ctx DR acl cl Gd B) : ∀ n, SndS DR acl cl Gd B F sp n
  | 0 => ⟨fun h => (nomatch h), fun h => (nomatch h)⟩
  | n + 1 =>
    have H := sndS_all C n
    ⟨fun h ht I => snd_s C H h ht I, fun h ht I => snd_ss C H h ht I⟩
end
end Wb

/-! A12: a call that is read abstractly. -/
namespace Wb
open PySem
theorem addAlt_has {a : AV} : ∀ {bs : List AV}, a ∈ addAlt a bs
  | [] => List.mem_cons_self ..
  | b :: r => by
    unfold addAlt
    split
    · next h => rw [AV.beq_eq _ _ h]; exact List.mem_cons_self ..
    · exact List.mem_cons_of_mem _ addAlt_has
theorem addAlt_more {a c : AV} : ∀ {bs : List AV}, c ∈ bs → c ∈ addAlt a bs
  | b :: r, h => by
    unfold addAlt
    split
    · exact h
    · rcases List.mem_cons.mp h with z | z
      · rw [z]; exact List.mem_cons_self ..
      · exact List.mem_cons_of_mem _ (addAlt_more z)
theorem addAlts_has {c : AV} {bs : List AV} : ∀ {as : List AV}, c ∈ as ∨ c ∈ bs → c ∈ as.foldr addAlt bs
  | [], h => by simpa using h
  | a :: as, h => by
    simp only [List.foldr_cons]
    rcases h with h | h
    · rcases List.mem_cons.mp h with z | z
      · rw [z]; exact addAlt_has
      · exact addAlt_more (addAlts_has (.inl z))
    · exact addAlt_more (addAlts_has (.inr h))
theorem addAlts_ok {a b : AV} {d : D} (h : mem a d = true ∨ mem b d = true) : mem (match a.alts.foldr addAlt b.alts with
      | [c] => c
      | cs => .alt cs) d = true := by
  have : ∃ c ∈ a.alts.foldr addAlt b.alts, mem c d = true := by
    rcases h with h | h
    · obtain ⟨c, h1, h2⟩ := alts_mem h
      exact ⟨c, addAlts_has (.inl h1), h2⟩
    · obtain ⟨c, h1, h2⟩ := alts_mem h
      exact ⟨c, addAlts_has (.inr h1), h2⟩
  obtain ⟨c, h1, h2⟩ := this
  split
  · next e =>
    rw [e] at h1
    simp only [List.mem_singleton] at h1
    rw [← h1]; exact h2
  · exact memA_of h1 h2
theorem joinRs_ok : ∀ {xs : List XV} {x y : XV}, joinRs xs = some x → y ∈ xs → (∀ s d, Hold s y d → Hold s x d) ∧ ∀ c f, x = .ls c f → ∃ c2 f2, y = .ls c2 f2
  | [], _, _, h, _ => nomatch h
  | [z], x, y, h, hy => by
    simp only [joinRs, Option.some.injEq] at h
    simp only [List.mem_singleton] at hy
    subst h; subst hy
    exact ⟨fun _ _ h => h, fun c f e => ⟨c, f, e⟩⟩
  | z :: w :: r, x, y, h, hy => by
    unfold joinRs at h
    · split at h
      · next a b e =>
        cases h
        refine ⟨fun s d m => ?_, fun c f e => nomatch e⟩
        rcases List.mem_cons.mp hy with k | k
        · subst k; exact addAlts_ok (.inl m)
        · exact addAlts_ok (.inr ((joinRs_ok e k).1 s d m))
      · next c f c2 f2 e =>
        cases h
        refine ⟨fun s d m => ?_, fun c3 f3 _ => ?_⟩
        · rcases List.mem_cons.mp hy with k | k
          · subst k
            obtain ⟨q, xs, e, h2, h3, h4⟩ := m
            exact ⟨q, xs, e, h2, h3, joinC_ok (.inl h4)⟩
          · obtain ⟨q, xs, e, h2, h3, h4⟩ := (joinRs_ok e k).1 s d m
            exact ⟨q, xs, e, h2, h3, joinC_ok (.inr h4)⟩
        · rcases List.mem_cons.mp hy with k | k
          · subst k; exact ⟨_, _, rfl⟩
          · exact (joinRs_ok e k).2 _ _ rfl
      · cases h
/-- a call's things at its start -/
theorem args_len : ∀ {xs : List XV} {ds : List D}, Args xs ds → ds.length = xs.length
  | [], ds, h => by have : ds = [] := h; subst this; rfl
  | x :: xs, ds, h => by
    obtain ⟨d, r, rfl, _, h2⟩ := h
    simp [args_len h2]
theorem args_at : ∀ {xs : List XV} {ds : List D}, Args xs ds → ∀ (i : Nat) (x : XV), xs[i]? = some x → ∃ d, ds[i]? = some d ∧ HoldF x d
  | x :: xs, ds, h, i, y, hy => by
    obtain ⟨d, r, rfl, h1, h2⟩ := h
    cases i with
    | zero => simp at hy; subst hy; exact ⟨d, rfl, h1⟩
    | succ i => simpa using args_at h2 i y (by simpa using hy)
theorem args_ref : ∀ {xs : List XV} {ds : List D}, Args xs ds → ∀ (i q : Nat), ds[i]? = some (.ref q) → q = 1
  | [], ds, h, i, q, hq => by
    have : ds = [] := h
    subst this; simp at hq
  | x :: xs, ds, h, i, q, hq => by
    obtain ⟨d, r, rfl, h1, h2⟩ := h
    cases i with
    | zero =>
      simp at hq
      subst hq
      cases x with
      | fl a => exact (mem_noref h1).elim
      | feed => cases h1; rfl
      | ls c f => exact h1.elim
    | succ i => exact args_ref h2 i q (by simpa using hq)
theorem holdF_hold {s : Store} {x : XV} {d : D} (h : HoldF x d) : Hold s x d := by
  cases x with
  | fl a => exact h
  | feed => exact h
  | ls c f => exact h.elim
theorem start_ok {xs : List XV} {ds : List D} {m base : Nat} {s : Store} (h : Args xs ds) : EOk base (xs.map some ++ List.replicate m none) (ds.map some ++ List.replicate m none) s := by
  have hl := args_len h
  have key : ∀ (i q : Nat), (ds.map some ++ List.replicate m none)[i]? = some (some (D.ref q)) → q = 1 := fun i q hi => by
    by_cases c : i < ds.length
    · rw [List.getElem?_append_left (by simpa using c), List.getElem?_map] at hi
      obtain ⟨d, h1, h2⟩ := Option.map_eq_some_iff.mp hi
      cases h2
      exact args_ref h i q h1
    · rw [List.getElem?_append_right (by simpa using c)] at hi
      have := List.mem_replicate.mp (List.mem_of_getElem? hi)
      exact nomatch this.2
  refine ⟨by simp [hl], fun i q hi => .inl (key i q hi), fun i x hi => ?_, fun i j q _ hi _ => key i q hi⟩
  by_cases c : i < xs.length
  · rw [List.getElem?_append_left (by simpa using c), List.getElem?_map] at hi
    obtain ⟨y, h1, h2⟩ := Option.map_eq_some_iff.mp hi
    cases h2
    obtain ⟨d, h3, h4⟩ := args_at h i x h1
    exact ⟨d, by rw [List.getElem?_append_left (by simpa [hl] using c), List.getElem?_map, h3]; rfl, holdF_hold h4⟩
  · rw [List.getElem?_append_right (by simpa using c)] at hi
    have := List.mem_replicate.mp (List.mem_of_getElem? hi)
    exact nomatch this.2
/-- of a family: what goes on -/
structure Fam (P : List Fn) (F DR : Nat) (Gd : Store → Nat → Prop) : Prop where
  len : ∀ s t, Gd s t → 2 ≤ s.length
  more : ∀ s t t', Gd s t → t ≤ t' → Gd s t'
  cong : ∀ (s s' : Store) t, Gd s t → 2 ≤ s'.length → s'[0]? = s[0]? → s'[1]? = s[1]? → Gd s' t
  draw : ∀ k s t m, Gd s t → t ≤ TM → 0 < m → m < 1000000 → Ok (call P F (k + 1) DR [.ref 1, .int m] s) fun d s' => ∃ v, d = .int v ∧ 0 ≤ v ∧ v < m ∧ Gd s' (t + 1) ∧ Step 1 s s'
theorem acall_ok {P : List Fn} {F DR N : Nat} {sp : List (Nat × Nat)} {Gd : Store → Nat → Prop} (W : Fam P F DR Gd) : ∀ (k : Nat) {f : Nat} {xs : List XV} {x : XV} {dt : Nat}, acall P DR N sp k f xs = some (x, dt) → ∀ ds s t, Gd s t → t + k * (N * Wd) ≤ TM → Args xs ds → Ok (call P F k f ds s) fun d s' => Gd s' (t + dt) ∧ Step 1 s s' ∧ Hold s' x d ∧ ∀ c f, x = .ls c f → ∃ q, d = .ref q ∧ s.length ≤ q
  | 0, _, _, _, _, h => by simp [acall] at h
  | 1, _, _, _, _, h => by simp [acall] at h
  | k + 2, f, xs, x, dt, h => by
    intro ds s t hg ht ha
    have C : Ctx DR (acall P DR N sp (k + 1)) (call P F (k + 1)) Gd ((k + 1) * (N * Wd)) := ⟨W.len, W.more, fun s s' t hg hl h0 h1 => W.cong s s' t hg (Nat.le_trans (W.len _ _ hg) hl) h0 h1, W.draw k, fun f xs x dt _ h ds s t hg ht ha => acall_ok W (k + 1) h ds s t hg ht ha⟩
    unfold acall at h
    split at h
    · cases h
    · next fn hf =>
      split at h
      · next hn =>
        split at h
        · next o ho =>
          obtain ⟨y, hy, e⟩ := map_ok h
          cases e
          refine ok_call hf (by rw [args_len ha, hn]) ?_
          obtain ⟨g1, hg1, e1⟩ := splitG_ok (is := spOf sp f) (start_ok (base := s.length) (s := s) (m := fn.nn - fn.np) ha)
          obtain ⟨o1, h1, h2, h3, h4⟩ := (eachG_of ho).2 g1 hg1
          have hw : (k + 2) * (N * Wd) = N * Wd + (k + 1) * (N * Wd) := by rw [show k + 2 = (k + 1) + 1 from rfl, Nat.add_mul (k + 1) 1, Nat.one_mul, Nat.add_comm]
          rw [hw] at ht
          have h5 := (sndS_all (F := F) (sp := spOf sp f) C N).ss h1 (t0 := t) (by omega) (base := s.length) ⟨e1, hg, Nat.le_refl _, W.len _ _ hg⟩
          refine ok_imp (ok_imp h5 fun out s1 p => p.in_ C h2 h3 h4) fun out s1 p => ?_
          obtain ⟨lo, p⟩ := p
          have b2 := W.len _ _ hg
          have stp : ∀ s2 : Store, s.length ≤ s2.length → (∀ n, n < s.length → s2[n]? = s1[n]?) → Step 1 s s2 := fun s2 hl ho => ⟨hl, fun q hq h1 => (ho q hq).trans (lo.old q hq h1)⟩
          have gdd : ∀ s2 : Store, s.length ≤ s2.length → (∀ n, n < s.length → s2[n]? = s1[n]?) → Gd s1 (t + o.t) → Gd s2 (t + o.t) := fun s2 hl ho hg => W.cong s1 s2 _ hg (by omega) (ho 0 (by omega)) (ho 1 (by omega))
          cases out with
          | nx r =>
            obtain ⟨g', hg', I⟩ := p
            have hm : XV.fl .non ∈ o.rts ++ (if o.nx.isEmpty then [] else [.fl .non]) := by
              refine List.mem_append_right _ ?_
              rw [if_neg (by cases hz : o.nx with
                | nil => rw [hz] at hg'; cases hg'
                | cons _ _ => simp)]
              exact List.mem_singleton_self _
            obtain ⟨j1, j2⟩ := joinRs_ok hy hm
            refine gc_any rfl lo.len fun s2 hl ho => ⟨gdd s2 hl ho I.gd, stp s2 hl ho, j1 s2 .non rfl, fun c f e => ?_⟩
            obtain ⟨_, _, z⟩ := j2 c f e
            cases z
          | rt d =>
            obtain ⟨⟨z, hz, r1, r2⟩, hg1, hb⟩ := p
            obtain ⟨j1, j2⟩ := joinRs_ok hy (List.mem_append_left _ hz)
            cases z with
            | fl a =>
              refine gc_any (nr_under d _ (mem_nr a d r1)) lo.len fun s2 hl ho => ⟨gdd s2 hl ho hg1, stp s2 hl ho, j1 s2 d r1, fun c f e => ?_⟩
              obtain ⟨_, _, z⟩ := j2 c f e
              cases z
            | feed =>
              have r1 : d = .ref 1 := r1
              subst r1
              refine gc_any (by simp [D.under]; omega) lo.len fun s2 hl ho => ⟨gdd s2 hl ho hg1, stp s2 hl ho, j1 s2 _ rfl, fun c f e => ?_⟩
              obtain ⟨_, _, z⟩ := j2 c f e
              cases z
            | ls c fr =>
              obtain ⟨q, ys, rfl, k2, k3, k4⟩ := r1
              obtain ⟨q', e', k5⟩ := r2 c fr rfl
              cases e'
              refine gc_refS k3 (by exact nrs_under ys _ (Ct.ok_nr k4)) lo.len k5 fun q2 s2 hl ho hq2 hat => ⟨gdd s2 hl ho hg1, stp s2 hl ho, j1 s2 (.ref q2) ⟨q2, ys, rfl, by omega, hat, k4⟩, fun c f e => ⟨q2, rfl, hq2⟩⟩
          | bk _ => exact p.elim
          | ct _ => exact p.elim
        · cases h
      · cases h
end Wb

/-! A13: webs, as they are read, and what is plain about them. -/
namespace Wb
open PySem
def webD (n : Int) (ts : List (Int × Int)) : D := .tup [.int n, .tup (ts.map ofPair)]
def In (n : Int) (ts : List (Int × Int)) : Prop := ∀ p ∈ ts, (0 ≤ p.1 ∧ p.1 < n) ∧ 0 ≤ p.2 ∧ p.2 < n
theorem under_pairs (l : List (Int × Int)) (k : Nat) : D.unders k (l.map ofPair) = true := by
  induction l with
  | nil => rfl
  | cons p l ih => show (D.under k (ofPair p) && D.unders k (l.map ofPair)) = true; rw [ih]; rfl
theorem under_ints (l : List Int) (k : Nat) : D.unders k (l.map D.int) = true := by
  induction l with
  | nil => rfl
  | cons p l ih => show (D.under k (D.int p) && D.unders k (l.map D.int)) = true; rw [ih]; rfl
theorem under_web (n : Int) (l : List (Int × Int)) (k : Nat) : D.under k (webD n l) = true := by
  show (D.under k (.int n) && (D.under k (.tup (l.map ofPair)) && true)) = true
  rw [show D.under k (.tup (l.map ofPair)) = true from under_pairs l k]
  rfl
theorem sm2 (u v : D) : small [u, v].length = true := rfl
theorem In.app {n : Int} {ps qs : List (Int × Int)} (h : In n ps) (g : In n qs) : In n (ps ++ qs) := fun p hp => by
  rcases List.mem_append.mp hp with z | z
  · exact h p z
  · exact g p z
structure Webb (n : Int) (ts : List (Int × Int)) : Prop where
  n0 : 0 ≤ n
  inn : In n ts
  up : Up ts
  nd : ts.Nodup
  few : ts.length ≤ 63
theorem i0 (s : Store) (n : Int) (ts : List (Int × Int)) : ixD s (webD n ts) (.int 0) = some (.int n) := rfl
theorem i1 (s : Store) (n : Int) (ts : List (Int × Int)) : ixD s (webD n ts) (.int 1) = some (.tup (ts.map ofPair)) := rfl
theorem allPairs {l h l2 h2 : Int} : ∀ {ds : List D}, ds.all (mem (.tup [.int l h, .int l2 h2])) = true → ∃ ps : List (Int × Int), ds = ps.map ofPair ∧ ∀ p ∈ ps, (l ≤ p.1 ∧ p.1 ≤ h) ∧ l2 ≤ p.2 ∧ p.2 ≤ h2
  | [], _ => ⟨[], rfl, fun p hp => nomatch hp⟩
  | d :: ds, hd => by
    simp only [List.all_cons, Bool.and_eq_true] at hd
    obtain ⟨ps, rfl, hps⟩ := allPairs hd.2
    obtain ⟨as, rfl, h1⟩ : ∃ as, d = .tup as ∧ mems [.int l h, .int l2 h2] as = true := by
      have := hd.1
      cases d <;> simp [mem] at this
      exact ⟨_, rfl, this⟩
    cases as with
    | nil => simp [mems] at h1
    | cons x as =>
      simp only [mems, Bool.and_eq_true] at h1
      obtain ⟨u, rfl, u1, u2⟩ := int_in h1.1
      cases as with
      | nil => simp [mems] at h1
      | cons y as =>
        simp only [mems, Bool.and_eq_true] at h1
        obtain ⟨v, rfl, v1, v2⟩ := int_in h1.2.1
        cases as with
        | cons _ _ => simp at h1
        | nil =>
          refine ⟨(u, v) :: ps, rfl, fun p hp => ?_⟩
          rcases List.mem_cons.mp hp with z | z
          · subst z; exact ⟨⟨u1, u2⟩, v1, v2⟩
          · exact hps p z
theorem allInts {l h : Int} : ∀ {ds : List D}, ds.all (mem (.int l h)) = true → ∃ ns : List Int, ds = ns.map D.int ∧ ∀ x ∈ ns, l ≤ x ∧ x ≤ h
  | [], _ => ⟨[], rfl, fun p hp => nomatch hp⟩
  | d :: ds, hd => by
    simp only [List.all_cons, Bool.and_eq_true] at hd
    obtain ⟨ps, rfl, hps⟩ := allInts hd.2
    obtain ⟨u, rfl, u1, u2⟩ := int_in hd.1
    refine ⟨u :: ps, rfl, fun p hp => ?_⟩
    rcases List.mem_cons.mp hp with z | z
    · subst z; exact ⟨u1, u2⟩
    · exact hps p z
def webAV (most : Int) (a : AV) : Bool := match a with
  | .tup [.int n n2, b] => decide (n = n2) && decide (0 ≤ n) && decide (n ≤ most) && (match b with
    | .tup [] => true
    | .seq (.tup [.int l h, .int l2 h2]) lo hi o => decide (0 ≤ l) && decide (h < n) && decide (0 ≤ l2) && decide (h2 < n) && decide (hi ≤ 63) && decide (o = 2)
    | _ => false)
  | _ => false
theorem ord2_ok {ps : List (Int × Int)} (h : ordB 2 (ps.map ofPair) = true) : Up ps ∧ ps.Nodup := by
  simp only [ordB, asPairs_of, decide_eq_true_eq] at h
  rw [← h]
  exact ⟨up_srt, (srt_perm _).nodup_iff.mpr (dedup_nodup ps)⟩
theorem webAV_ok {most : Int} {a : AV} {d : D} (h : webAV most a = true) (m : mem a d = true) : ∃ n ts, d = webD n ts ∧ n ≤ most ∧ Webb n ts := by
  unfold webAV at h
  split at h
  · next n n2 b =>
    simp only [Bool.and_eq_true, decide_eq_true_eq] at h
    obtain ⟨⟨⟨rfl, n0⟩, n1⟩, hb⟩ := h
    obtain ⟨as, rfl, h1⟩ : ∃ as, d = .tup as ∧ mems [.int n n, b] as = true := by
      cases d <;> simp [mem] at m
      exact ⟨_, rfl, m⟩
    cases as with
    | nil => simp [mems] at h1
    | cons x as =>
      simp only [mems, Bool.and_eq_true] at h1
      obtain ⟨u, rfl, u1, u2⟩ := int_in h1.1
      obtain rfl : u = n := by omega
      cases as with
      | nil => simp [mems] at h1
      | cons y as =>
        simp only [mems, Bool.and_eq_true] at h1
        cases as with
        | cons _ _ => simp at h1
        | nil =>
          have my := h1.2.1
          split at hb
          · refine ⟨u, [], ?_, n1, n0, fun p hp => (nomatch hp), List.Pairwise.nil, List.nodup_nil, by decide⟩
            cases y <;> simp [mem] at my
            next zs =>
            cases zs <;> simp [mems] at my
            rfl
          · next l h l2 h2 lo hi o =>
            simp only [Bool.and_eq_true, decide_eq_true_eq] at hb
            obtain ⟨⟨⟨⟨⟨b1, b2⟩, b3⟩, b4⟩, b5⟩, rfl⟩ := hb
            cases y with
            | tup zs =>
              replace my : (zs.all (mem (.tup [.int l h, .int l2 h2])) && decide (lo ≤ zs.length) && decide (zs.length ≤ hi) && ordB 2 zs) = true := my
              simp only [Bool.and_eq_true, decide_eq_true_eq] at my
              obtain ⟨⟨⟨m1, m2⟩, m3⟩, m4⟩ := my
              obtain ⟨ps, rfl, hps⟩ := allPairs m1
              obtain ⟨o1, o2⟩ := ord2_ok m4
              refine ⟨u, ps, rfl, n1, n0, fun p hp => ?_, o1, o2, by rw [List.length_map] at m3; omega⟩
              have := hps p hp
              omega
            | _ => simp [mem] at my
          · cases hb
  · cases h
def webXV (most : Int) (T : Nat) (r : Option (XV × Nat)) : Bool := match r with
  | some (.fl a, t) => a.alts.all (webAV most) && decide (t ≤ T)
  | _ => false
theorem webXV_ok {most : Int} {T : Nat} {r : Option (XV × Nat)} (h : webXV most T r = true) : ∃ x t, r = some (x, t) ∧ t ≤ T ∧ ∀ s d, Hold s x d → ∃ n ts, d = webD n ts ∧ n ≤ most ∧ Webb n ts := by
  unfold webXV at h
  split at h
  · next a t =>
    simp only [Bool.and_eq_true, decide_eq_true_eq, List.all_eq_true] at h
    refine ⟨_, t, rfl, h.2, fun s d m => ?_⟩
    obtain ⟨b, hb, mb⟩ := alts_mem m
    exact webAV_ok (h.1 b hb) mb
  · cases h
/-! ### pure calls -/
theorem gc_pure {s s1 : Store} {d : D} (h : s1.take s.length = s) (hd : d.under s.length = true) : gc s d s1 = .ok d s := by
  unfold gc
  rw [h]
  simp only [okOld, decide_true, Bool.true_or, if_true, hd]
theorem call_pure {P : List Fn} {F k f : Nat} {fn : Fn} {ds : List D} {s s1 : Store} {d : D} (hf : P[f]? = some fn) (hl : ds.length = fn.np)
    (h : evSs (call P F k) F fn.body (ds.map some ++ List.replicate (fn.nn - fn.np) none) s = .ok (.rt d) s1) (hs : s1.take s.length = s) (hd : d.under s.length = true) : call P F (k + 1) f ds s = .ok d s := by
  unfold call
  rw [hf]
  simp only
  rw [if_pos hl, h]
  exact gc_pure hs hd
/-- the same, by what it ends with -/
theorem call_pureQ {P : List Fn} {F k f : Nat} {fn : Fn} {ds : List D} {s : Store} {d : D} (hf : P[f]? = some fn) (hl : ds.length = fn.np)
    (h : Ok (evSs (call P F k) F fn.body (ds.map some ++ List.replicate (fn.nn - fn.np) none) s) fun o s1 => o = .rt d ∧ Keep s s1) (hd : d.under s.length = true) : call P F (k + 1) f ds s = .ok d s := by
  obtain ⟨o, s1, h1, rfl, h2⟩ := h
  refine call_pure hf hl h1 ?_ hd
  refine List.ext_getElem? fun i => ?_
  by_cases c : i < s.length
  · rw [List.getElem?_take_of_lt c]; exact h2.old i c
  · rw [List.getElem?_eq_none (by simp; omega), List.getElem?_eq_none (by omega)]
theorem ok_of {α : Type} {m : Res α} {a : α} {S : Store} {Q : α → Store → Prop} (h : m = .ok a S) (q : Q a S) : Ok m Q := ⟨a, S, h, q⟩
/-! ### pairs that rise strictly -/
theorem pairs_eq {l m : List (Int × Int)} (hl : Up l) (nl : l.Nodup) (hm : Up m) (nm : m.Nodup) (h : ∀ x, x ∈ l ↔ x ∈ m) : l = m := by
  have p : l.Perm m := perm_of_nodup nl nm h
  have e1 := srtP_one p hl
  have e2 := srtP_one (List.Perm.refl m) hm
  rw [e1]
  exact e2.symm
theorem srt_eq {l m : List (Int × Int)} (hm : Up m) (nm : m.Nodup) (h : ∀ x, x ∈ l ↔ x ∈ m) : srtP (dedup l) = m :=
  pairs_eq up_srt ((srt_perm _).nodup_iff.mpr (dedup_nodup l)) hm nm fun x => by rw [mem_srtP, mem_dedup]; exact h x
theorem Up.app {l m : List (Int × Int)} (hl : Up l) (hm : Up m) (h : ∀ p ∈ l, ∀ q ∈ m, p.1 < q.1) : Up (l ++ m) := by
  refine List.pairwise_append.mpr ⟨hl, hm, fun p hp q hq => le2_iff.mpr ?_⟩
  have := h p hp q hq
  omega
end Wb

/-! A14: rows of pairs, places and their numbers. -/
namespace Wb
open PySem
theorem in_web {b : Int} {ts : List (Int × Int)} (hb : b ≤ 1000000) (ht : In b ts) (s : Store) {x y : Int} (hx : 0 ≤ x ∧ x < b) (hy : 0 ≤ y ∧ y < b) : cpD s .isin (.tup [.int x, .int y]) (.tup (ts.map ofPair)) = some (.bl (decide ((x, y) ∈ ts))) := by
  show (inD s (ofPair (x, y)) (ts.map ofPair)).map D.bl = _
  rw [inD_pairs hb (p := (x, y)) ⟨hx, hy⟩ ht]
  rfl
theorem set_last {S : Store} {o o' : O} : (S ++ [o]).set S.length o' = S ++ [o'] := by simp
/-- what a comprehension over places takes -/
theorem comp_rng {step : D → Store → Res (Option D)} {s : Store} (c : Int → Bool) (g : Int → D) {m : Int} (hm : m ≤ 1000) (h : ∀ i : Nat, (i : Int) < m → step (.int (0 + (i : Int))) s = .ok (if c i then some (g i) else none) s) : compGo step none (rngL 0 m) [] s = .ok ((taken c m.toNat).map g) s := by
  have := ok_compG (step := step) (gd := none) (s := s) (R := fun acc s' => acc = (taken c m.toNat).map g ∧ s' = s) rfl (fun i acc => acc = (taken c i).map g) (ds := rngL 0 m) (by rw [rng_len]; omega) rfl (fun i d acc hd hI => by
    obtain ⟨rfl, hi⟩ := rng_at hd
    refine ⟨_, h i (by omega), ?_⟩
    subst hI
    cases hc : c i with
    | true => simp [taken_succ, hc]
    | false => simp [taken_succ, hc]) (fun acc hI => by rw [rng_len, Int.sub_zero] at hI; exact ⟨hI, rfl⟩)
  obtain ⟨x, s', e, rfl, rfl⟩ := this
  exact e
/-- what a comprehension over pairs makes of those that it takes -/
theorem comp_pairs {step : D → Store → Res (Option D)} {s : Store} (cnd : Int × Int → Bool) (g : Int × Int → D) {ts : List (Int × Int)} (hl : ts.length ≤ 1000) (h : ∀ p ∈ ts, step (ofPair p) s = .ok (if cnd p then some (g p) else none) s) : compGo step none (ts.map ofPair) [] s = .ok ((ts.filter cnd).map g) s := by
  have := ok_compG (step := step) (gd := none) (s := s) (R := fun acc s' => acc = (ts.filter cnd).map g ∧ s' = s) rfl (fun i acc => acc = ((ts.take i).filter cnd).map g) (ds := ts.map ofPair) (by rw [List.length_map]; omega) rfl (fun i d acc hd hI => by
    rw [List.getElem?_map] at hd
    obtain ⟨t, ht, rfl⟩ := Option.map_eq_some_iff.mp hd
    refine ⟨_, h t (List.mem_of_getElem? ht), ?_⟩
    have e : ts.take (i + 1) = ts.take i ++ [t] := by rw [List.take_succ, ht]; rfl
    subst hI
    cases hc : cnd t with
    | true => simp [e, hc]
    | false => simp [e, hc]) (fun acc hI => by rw [List.length_map, List.take_length] at hI; exact ⟨hI, rfl⟩)
  obtain ⟨x, s', e, rfl, rfl⟩ := this
  exact e
/-- rows of places -/
def rowsL (c : Int → Int → Bool) (n m : Nat) : List (Int × Int) := (List.range n).flatMap fun i : Nat => (taken (c i) m).map fun j => ((i : Int), j)
theorem rowsL_succ {c : Int → Int → Bool} {i m : Nat} : rowsL c (i + 1) m = rowsL c i m ++ (taken (c i) m).map fun j => ((i : Int), j) := by
  unfold rowsL
  rw [List.range_succ, List.flatMap_append]
  simp
theorem mem_rowsL {c : Int → Int → Bool} {n m : Nat} {p : Int × Int} : p ∈ rowsL c n m ↔ ((0 ≤ p.1 ∧ p.1 < n) ∧ 0 ≤ p.2 ∧ p.2 < m) ∧ c p.1 p.2 = true := by
  unfold rowsL
  simp only [List.mem_flatMap, List.mem_range, List.mem_map, mem_taken]
  refine ⟨fun ⟨i, hi, j, ⟨hj, hc⟩, e⟩ => ?_, fun ⟨⟨h1, h2⟩, hc⟩ => ⟨p.1.toNat, by omega, p.2, ⟨h2, ?_⟩, ?_⟩⟩
  · subst e
    exact ⟨⟨⟨by show 0 ≤ (i : Int); omega, by show (i : Int) < n; omega⟩, hj⟩, hc⟩
  · rw [show ((p.1.toNat : Nat) : Int) = p.1 by omega]; exact hc
  · exact Prod.ext (by show ((p.1.toNat : Nat) : Int) = p.1; omega) rfl
theorem rowsL_strict {c : Int → Int → Bool} {m : Nat} : ∀ {n : Nat}, (rowsL c n m).Pairwise fun a b => lt2 a b = true
  | 0 => List.Pairwise.nil
  | i + 1 => by
    rw [rowsL_succ]
    refine List.pairwise_append.mpr ⟨rowsL_strict, List.pairwise_map.mpr (taken_inc.imp fun {a b} h => (lt2_iff (p := ((i : Int), a)) (q := ((i : Int), b))).mpr (.inr ⟨rfl, h⟩)), fun p hp q hq => ?_⟩
    have := (mem_rowsL.mp hp).1.1
    obtain ⟨j, _, rfl⟩ := List.mem_map.mp hq
    exact lt2_iff.mpr (.inl (by show p.1 < (i : Int); omega))
theorem strict_up {l : List (Int × Int)} (h : l.Pairwise fun a b => lt2 a b = true) : Up l ∧ l.Nodup :=
  ⟨h.imp fun {a b} h => by
    have := lt2_iff.mp h
    exact le2_iff.mpr (by omega), h.imp fun {a b} h e => by
    subst e
    have := lt2_iff.mp h
    omega⟩
theorem rowsL_up {c : Int → Int → Bool} {n m : Nat} : Up (rowsL c n m) ∧ (rowsL c n m).Nodup := strict_up rowsL_strict
theorem rowsL_in {c : Int → Int → Bool} {n : Nat} : In n (rowsL c n n) := fun p hp => (mem_rowsL.mp hp).1
theorem taken_len {c : Int → Bool} {i : Nat} : (taken c i).length ≤ i := by
  unfold taken
  refine Nat.le_trans (List.length_filter_le _ _) ?_
  simp
theorem rowsL_len {c : Int → Int → Bool} {m : Nat} : ∀ {n : Nat}, (rowsL c n m).length ≤ n * m
  | 0 => Nat.le_of_eq (by simp [rowsL])
  | i + 1 => by
    rw [rowsL_succ, List.length_append, List.length_map, Nat.add_mul, Nat.one_mul]
    have := rowsL_len (c := c) (m := m) (n := i)
    have := taken_len (c := c i) (i := m)
    omega
/-! ### numbers of places -/
def idxK (k : Int) : List Int → List (L2.Key × D)
  | [] => []
  | x :: r => (.inl x, .int k) :: idxK (k + 1) r
def posI (k : Int) : List Int → Int → Option Int
  | [], _ => none
  | y :: r, x => if y = x then some k else posI (k + 1) r x
theorem getK_idx {x : Int} : ∀ {k : Int} {ps : List Int}, getK (idxK k ps) (.inl x) = (posI k ps x).map D.int
  | k, [] => rfl
  | k, y :: r => by
    have ih := getK_idx (x := x) (k := k + 1) (ps := r)
    unfold getK at ih ⊢
    unfold idxK posI
    by_cases c : y = x
    · subst c; simp
    · rw [List.find?_cons_of_neg (by simpa using c), ih, if_neg c]
theorem posI_none {x : Int} : ∀ {k : Int} {ps : List Int}, posI k ps x = none ↔ x ∉ ps
  | k, [] => by simp [posI]
  | k, y :: r => by
    unfold posI
    by_cases c : y = x
    · subst c; simp
    · rw [if_neg c, posI_none]; simp [Ne.symm c]
theorem posI_some {x i : Int} : ∀ {k : Int} {ps : List Int}, ps.Nodup → (posI k ps x = some i ↔ ∃ j : Nat, i = k + j ∧ ps[j]? = some x)
  | k, [], _ => by simp [posI]
  | k, y :: r, nd => by
    have nd2 := (List.nodup_cons.mp nd)
    unfold posI
    by_cases c : y = x
    · subst c
      rw [if_pos rfl]
      refine ⟨fun h => ⟨0, by simp at h; omega, rfl⟩, fun ⟨j, h1, h2⟩ => ?_⟩
      cases j with
      | zero => simp at h1; rw [h1]
      | succ j =>
        rw [List.getElem?_cons_succ] at h2
        exact absurd (List.mem_of_getElem? h2) nd2.1
    · rw [if_neg c, posI_some nd2.2]
      refine ⟨fun ⟨j, h1, h2⟩ => ⟨j + 1, by omega, by rw [List.getElem?_cons_succ]; exact h2⟩, fun ⟨j, h1, h2⟩ => ?_⟩
      cases j with
      | zero => simp at h2; exact absurd h2 c
      | succ j => exact ⟨j, by omega, by rw [List.getElem?_cons_succ] at h2; exact h2⟩
theorem idxK_app {x : Int} : ∀ {k : Int} {ps : List Int}, idxK k (ps ++ [x]) = idxK k ps ++ [(.inl x, .int (k + ps.length))]
  | k, [] => by simp [idxK]
  | k, y :: r => by
    show _ :: idxK (k + 1) (r ++ [x]) = _ :: (idxK (k + 1) r ++ _)
    rw [idxK_app]
    simp
    omega
theorem idxK_keys {k : Int} {ps : List Int} {kv : L2.Key × D} (h : kv ∈ idxK k ps) : ∃ x ∈ ps, kv.1 = .inl x := by
  induction ps generalizing k with
  | nil => cases h
  | cons y r ih =>
    rcases List.mem_cons.mp h with z | z
    · subst z; exact ⟨y, by simp, rfl⟩
    · obtain ⟨x, hx, e⟩ := ih z
      exact ⟨x, List.mem_cons_of_mem _ hx, e⟩
theorem setK_new {k x : Int} {ps : List Int} {v : D} (h : x ∉ ps) : setK (idxK k ps) (.inl x) v = idxK k ps ++ [(.inl x, v)] := by
  unfold setK
  rw [if_neg]
  rw [List.any_eq_true]
  rintro ⟨kv, h1, h2⟩
  obtain ⟨y, hy, e⟩ := idxK_keys h1
  rw [e] at h2
  have : y = x := by simpa using h2
  exact h (this ▸ hy)
theorem idxK_len {ps : List Int} : ∀ {k : Int}, (idxK k ps).length = ps.length := by
  induction ps with
  | nil => intro k; rfl
  | cons y r ih => intro k; simp [idxK, ih]
end Wb

/-! A15: places that rise, loops over lists that lie. -/
namespace Wb
open PySem
theorem atD_app {α : Type} {xs : List α} {x : α} : atD (xs ++ [x]) (-1) = some x := by
  show L2.atI (xs ++ [x]) (-1) = _
  unfold L2.atI L2.ixN
  rw [if_neg (by decide), if_pos (by simp; omega)]
  simp only [Option.bind_some]
  rw [show ((-1 : Int) + ((xs ++ [x]).length : Int)).toNat = xs.length by simp; omega]
  simp
theorem pl_web {n b : Int} {ts : List (Int × Int)} (hb : b ≤ 1000) (hn : 0 ≤ n ∧ n < 1000) (ht : In b ts) : (webD n ts).pl = true ∧ (webD n ts).dp ≤ 3 ∧ (webD n ts).nds = 3 + 3 * ts.length := by
  obtain ⟨h1, h2, h3⟩ := pls_pairs (b := b) (by omega) ht
  refine ⟨?_, ?_, ?_⟩
  · show (D.pl (.int n) && (D.pls (ts.map ofPair) && true)) = true
    rw [h1]
    simp [D.pl]
    omega
  · show max 0 (max (D.dps (ts.map ofPair) + 1) 0) + 1 ≤ 3
    omega
  · show 1 + ((D.ndss (ts.map ofPair) + 1) + 0) + 1 = _
    omega
/-- what a web's print is -/
theorem repr_web {n b : Int} {ts : List (Int × Int)} (hb : b ≤ 1000) (hn : 0 ≤ n ∧ n < 1000) (ht : In b ts) (hl : ts.length ≤ 1300) : ∃ X, ∀ S, reprD S (webD n ts) = some (.str X) := by
  obtain ⟨h1, h2, h3⟩ := pl_web hb hn ht
  exact ⟨_, fun S => reprD_pl h1 (by omega) (by omega)⟩
/-- places that rise -/
def ris (lo n : Int) : List (Bool × AV) → Bool
  | [] => true
  | (_, .int a b) :: r => decide (a = b) && decide (lo ≤ a) && decide (a < n) && ris (a + 1) n r
  | _ => false
def risAV (n : Int) (a : AV) : Bool := match a with
  | .tup [] => true
  | .tupO es => ris 0 n es && decide (es.length ≤ 20)
  | _ => false
def risXV (n : Int) (T : Nat) (r : Option (XV × Nat)) : Bool := match r with
  | some (.fl a, t) => a.alts.all (risAV n) && decide (t ≤ T)
  | _ => false
structure Plcs (n : Int) (ps : List Int) : Prop where
  inc : ps.Pairwise (· < ·)
  inn : ∀ x ∈ ps, 0 ≤ x ∧ x < n
  few : ps.length ≤ 20
theorem ris_ok {n : Int} : ∀ {es : List (Bool × AV)} {lo : Int} {ds : List D}, ris lo n es = true → memO es ds = true → ∃ ps : List Int, ds = ps.map D.int ∧ ps.Pairwise (· < ·) ∧ (∀ x ∈ ps, lo ≤ x ∧ x < n) ∧ ps.length ≤ es.length
  | [], lo, ds, _, h => by
    cases ds with
    | nil => exact ⟨[], rfl, List.Pairwise.nil, (fun _ h => nomatch h), Nat.le_refl _⟩
    | cons _ _ => simp [memO] at h
  | (m, a) :: es, lo, ds, h, hm => by
    cases a with
    | int u v =>
      simp only [ris, Bool.and_eq_true, decide_eq_true_eq] at h
      obtain ⟨⟨⟨rfl, h1⟩, h2⟩, h3⟩ := h
      unfold memO at hm
      rcases Bool.or_eq_true_iff.mp hm with z | z
      · cases ds with
        | nil => cases z
        | cons d r =>
          simp only [Bool.and_eq_true] at z
          obtain ⟨x, rfl, x1, x2⟩ := int_in z.1
          obtain rfl : x = u := by omega
          obtain ⟨ps, rfl, p1, p2, p3⟩ := ris_ok h3 z.2
          refine ⟨x :: ps, rfl, List.pairwise_cons.mpr ⟨fun y hy => by have := p2 y hy; omega, p1⟩, fun y hy => ?_, by simp; omega⟩
          rcases List.mem_cons.mp hy with w | w
          · subst w; exact ⟨h1, h2⟩
          · have := p2 y w; omega
      · simp only [Bool.and_eq_true] at z
        obtain ⟨ps, rfl, p1, p2, p3⟩ := ris_ok h3 z.2
        exact ⟨ps, rfl, p1, fun y hy => by have := p2 y hy; omega, by simp; omega⟩
    | _ => simp [ris] at h
theorem risXV_ok {n : Int} {T : Nat} {r : Option (XV × Nat)} (h : risXV n T r = true) : ∃ x t, r = some (x, t) ∧ t ≤ T ∧ ∀ s d, Hold s x d → ∃ ps : List Int, d = .tup (ps.map D.int) ∧ Plcs n ps := by
  unfold risXV at h
  split at h
  · next a t =>
    simp only [Bool.and_eq_true, decide_eq_true_eq, List.all_eq_true] at h
    refine ⟨_, t, rfl, h.2, fun s d m => ?_⟩
    obtain ⟨b, hb, mb⟩ := alts_mem m
    have hb := h.1 b hb
    unfold risAV at hb
    split at hb
    · refine ⟨[], ?_, List.Pairwise.nil, (fun _ h => nomatch h), by decide⟩
      cases d <;> simp [mem] at mb
      next zs =>
      cases zs <;> simp [mems] at mb
      rfl
    · simp only [Bool.and_eq_true, decide_eq_true_eq] at hb
      cases d with
      | tup zs =>
        obtain ⟨ps, rfl, p1, p2, p3⟩ := ris_ok hb.1 (show memO _ zs = true from mb)
        exact ⟨ps, rfl, p1, p2, by omega⟩
      | _ => simp [mem] at mb
    · cases hb
  · cases h
theorem Plcs.nd {n : Int} {ps : List Int} (h : Plcs n ps) : ps.Nodup := h.inc.imp fun h e => by omega
/-- all places -/
def allP (n : Int) : List Int := taken (fun _ => true) n.toNat
theorem allP_eq {n : Int} : rngL 0 n = (allP n).map D.int := by
  unfold rngL allP taken
  rw [List.filter_eq_self.mpr fun _ _ => rfl, List.map_map, Int.sub_zero]
  refine List.map_congr_left fun i _ => ?_
  show D.int (0 + (i : Int)) = D.int (i : Int)
  rw [Int.zero_add]
theorem allP_ok {n : Int} (hn : n ≤ 20) : Plcs n (allP n) := ⟨taken_inc, fun x hx => by
  have := (mem_taken.mp hx).1
  omega, Nat.le_trans taken_len (by omega)⟩
theorem allP_at {n : Int} {i : Nat} (h : i < n.toNat) : (allP n).getD i 0 = (i : Int) := by
  unfold allP taken
  rw [List.filter_eq_self.mpr fun _ _ => rfl, List.getD_eq_getElem?_getD, List.getElem?_map, List.getElem?_range h]
  rfl
theorem allP_len {n : Int} : (allP n).length = n.toNat := by
  unfold allP taken
  rw [List.filter_eq_self.mpr fun _ _ => rfl]
  simp
/-- a loop over a list that lies -/
theorem ok_loopG {body : D → Env → Store → Res Out} {g : Option (Nat × List D)} {r : Env} {s : Store} (I : Nat → Env → Store → Prop) {ds : List D} {R : Out → Store → Prop} (hg : ∀ i r s, I i r s → still s g = true) (h0 : I 0 r s) (hs : ∀ i d r s, ds[i]? = some d → I i r s → Ok (body d r s) fun o s1 => match o with
    | .nx r1 => I (i + 1) r1 s1
    | .ct r1 => I (i + 1) r1 s1
    | .bk r1 => R (.nx r1) s1
    | .rt d => R (.rt d) s1) (hd : ∀ r s, I ds.length r s → R (.nx r) s) : Ok (forGo body g ds r s) R := by
  have go : ∀ (n i : Nat) (r : Env) (s : Store), n = ds.length - i → i ≤ ds.length → I i r s → Ok (forGo body g (ds.drop i) r s) R := by
    intro n
    induction n with
    | zero =>
      intro i r s hn hi h
      have : i = ds.length := by omega
      subst this
      rw [List.drop_length]
      unfold forGo
      rw [if_pos (hg _ _ _ h)]
      exact ok_ok (hd r s h)
    | succ n ih =>
      intro i r s hn hi h
      have hlt : i < ds.length := by omega
      rw [List.drop_eq_getElem_cons hlt]
      unfold forGo
      rw [if_pos (hg _ _ _ h)]
      obtain ⟨o, s1, e, q⟩ := hs i ds[i] r s (List.getElem?_eq_getElem hlt) h
      rw [e]
      cases o with
      | nx r1 => exact ih (i + 1) r1 s1 (by omega) (by omega) q
      | ct r1 => exact ih (i + 1) r1 s1 (by omega) (by omega) q
      | bk r1 => exact ok_ok q
      | rt d => exact ok_ok q
  have := go ds.length 0 r s (by omega) (Nat.zero_le _) h0
  rwa [List.drop_zero] at this
end Wb

/-! A16: lists of pairs, lists of lists, as they are read. -/
namespace Wb
open PySem
def pairsXV (n : Int) (most T : Nat) (r : Option (XV × Nat)) : Bool := match r with
  | some (.ls c _, t) => (match c.sum with
    | .sm a _ hi _ => decide (hi ≤ most) && decide (t ≤ T) && (decide (hi = 0) || match a with
      | .tup [.int l h, .int l2 h2] => decide (0 ≤ l) && decide (h < n) && decide (0 ≤ l2) && decide (h2 < n)
      | _ => false)
    | _ => false)
  | _ => false
theorem pairsXV_ok {n : Int} {most T : Nat} {r : Option (XV × Nat)} (h : pairsXV n most T r = true) : ∃ c f t, r = some (.ls c f, t) ∧ t ≤ T ∧ ∀ s d, Hold s (.ls c f) d → ∃ q ps, d = .ref q ∧ 2 ≤ q ∧ s[q]? = some (.lst (ps.map ofPair)) ∧ In n ps ∧ ps.length ≤ most := by
  unfold pairsXV at h
  split at h
  · next c f t =>
    split at h
    · next a lo hi o e =>
      simp only [Bool.and_eq_true, decide_eq_true_eq, Bool.or_eq_true] at h
      obtain ⟨⟨h1, h2⟩, h3⟩ := h
      refine ⟨c, f, t, rfl, h2, fun s d ⟨q, xs, e1, q2, e2, m⟩ => ?_⟩
      have m := Ct.sum_ok m
      rw [e] at m
      obtain ⟨m1, m2, m3, _⟩ := sm_ok.mp m
      subst e1
      rcases h3 with z | z
      · have : xs = [] := List.eq_nil_of_length_eq_zero (by omega)
        subst this
        exact ⟨q, [], rfl, q2, e2, fun p hp => (nomatch hp), by simp⟩
      · split at z
        · next l h l2 h2 =>
          simp only [Bool.and_eq_true, decide_eq_true_eq] at z
          obtain ⟨ps, rfl, hps⟩ := pairs_of_mem m1
          refine ⟨q, ps, rfl, q2, e2, fun p hp => ?_, by rw [List.length_map] at m3; omega⟩
          have := hps p hp
          omega
        · cases z
    · cases h
  · cases h
end Wb

/-! A17: two webs and lists between them. -/
namespace Wb
open PySem
def rowD (xs : List Int) : D := .tup (xs.map D.int)
def lsD (L : List (List Int)) : D := .tup (L.map rowD)
structure Rows (n m : Int) (L : List (List Int)) : Prop where
  len : L.length = n.toNat
  few : ∀ row ∈ L, row.length ≤ 3
  inn : ∀ row ∈ L, ∀ x ∈ row, 0 ≤ x ∧ x < m
structure Two (n1 : Int) (t1 : List (Int × Int)) (n2 : Int) (t2 : List (Int × Int)) (L : List (List Int)) : Prop where
  a0 : 0 ≤ n1
  a1 : n1 ≤ 7
  b0 : 0 ≤ n2
  b1 : n2 ≤ 5
  i1 : In n1 t1
  i2 : In n2 t2
  f1 : t1.length ≤ 63
  f2 : t2.length ≤ 63
  rows : Rows n1 n2 L
def intIn (m : Int) : AV → Bool
  | .int l h => decide (0 ≤ l) && decide (h < m)
  | _ => false
def rowAV (m : Int) : AV → Bool
  | .tup as => as.all (intIn m) && decide (as.length ≤ 3)
  | .tupO es => es.all (fun e => intIn m e.2) && decide (es.length ≤ 3)
  | .seq a _ hi _ => (decide (hi = 0) || intIn m a) && decide (hi ≤ 3)
  | _ => false
theorem intIn_ok {m : Int} {a : AV} {d : D} (h : intIn m a = true) (hm : mem a d = true) : ∃ x : Int, d = .int x ∧ 0 ≤ x ∧ x < m := by
  cases a <;> simp only [intIn] at h <;> try (cases h; done)
  simp only [Bool.and_eq_true, decide_eq_true_eq] at h
  obtain ⟨x, e, h1, h2⟩ := int_in hm
  exact ⟨x, e, by omega, by omega⟩
theorem mems_row {m : Int} : ∀ {as : List AV} {ds : List D}, as.all (intIn m) = true → mems as ds = true → ∃ xs : List Int, ds = xs.map D.int ∧ (∀ x ∈ xs, 0 ≤ x ∧ x < m) ∧ xs.length ≤ as.length
  | [], ds, _, h => by
    cases ds with
    | nil => exact ⟨[], rfl, (fun _ h => nomatch h), Nat.le_refl _⟩
    | cons _ _ => simp [mems] at h
  | a :: as, ds, h, hm => by
    cases ds with
    | nil => simp [mems] at hm
    | cons d r =>
      simp only [mems, Bool.and_eq_true] at hm
      simp only [List.all_cons, Bool.and_eq_true] at h
      obtain ⟨x, rfl, hx⟩ := intIn_ok h.1 hm.1
      obtain ⟨xs, rfl, h2, h3⟩ := mems_row h.2 hm.2
      refine ⟨x :: xs, rfl, fun y hy => ?_, by simp; omega⟩
      rcases List.mem_cons.mp hy with z | z
      · rw [z]; exact hx
      · exact h2 y z
theorem memO_row {m : Int} : ∀ {es : List (Bool × AV)} {ds : List D}, es.all (fun e => intIn m e.2) = true → memO es ds = true → ∃ xs : List Int, ds = xs.map D.int ∧ (∀ x ∈ xs, 0 ≤ x ∧ x < m) ∧ xs.length ≤ es.length
  | [], ds, _, h => by
    cases ds with
    | nil => exact ⟨[], rfl, (fun _ h => nomatch h), Nat.le_refl _⟩
    | cons _ _ => simp [memO] at h
  | (b, a) :: es, ds, h, hm => by
    simp only [List.all_cons, Bool.and_eq_true] at h
    unfold memO at hm
    rcases Bool.or_eq_true_iff.mp hm with z | z
    · cases ds with
      | nil => cases z
      | cons d r =>
        simp only [Bool.and_eq_true] at z
        obtain ⟨x, rfl, hx⟩ := intIn_ok h.1 z.1
        obtain ⟨xs, rfl, h2, h3⟩ := memO_row h.2 z.2
        refine ⟨x :: xs, rfl, fun y hy => ?_, by simp; omega⟩
        rcases List.mem_cons.mp hy with w | w
        · rw [w]; exact hx
        · exact h2 y w
    · simp only [Bool.and_eq_true] at z
      obtain ⟨xs, rfl, h2, h3⟩ := memO_row h.2 z.2
      exact ⟨xs, rfl, h2, by simp; omega⟩
theorem seq_row {m : Int} {a : AV} (h : intIn m a = true) : ∀ {ds : List D}, ds.all (mem a) = true → ∃ xs : List Int, ds = xs.map D.int ∧ ∀ x ∈ xs, 0 ≤ x ∧ x < m
  | [], _ => ⟨[], rfl, fun _ h => nomatch h⟩
  | d :: r, hm => by
    simp only [List.all_cons, Bool.and_eq_true] at hm
    obtain ⟨x, rfl, hx⟩ := intIn_ok h hm.1
    obtain ⟨xs, rfl, h2⟩ := seq_row h hm.2
    refine ⟨x :: xs, rfl, fun y hy => ?_⟩
    rcases List.mem_cons.mp hy with w | w
    · rw [w]; exact hx
    · exact h2 y w
theorem rowAV_ok {m : Int} {a : AV} {d : D} (h : rowAV m a = true) (hm : mem a d = true) : ∃ xs : List Int, d = rowD xs ∧ (∀ x ∈ xs, 0 ≤ x ∧ x < m) ∧ xs.length ≤ 3 := by
  cases a <;> simp only [rowAV] at h <;> try (cases h; done)
  case tup as =>
    simp only [Bool.and_eq_true, decide_eq_true_eq] at h
    cases d <;> simp only [mem] at hm <;> try (cases hm; done)
    obtain ⟨xs, rfl, h1, h2⟩ := mems_row h.1 hm
    exact ⟨xs, rfl, h1, by omega⟩
  case tupO es =>
    simp only [Bool.and_eq_true, decide_eq_true_eq] at h
    cases d <;> simp only [mem] at hm <;> try (cases hm; done)
    obtain ⟨xs, rfl, h1, h2⟩ := memO_row h.1 hm
    exact ⟨xs, rfl, h1, by omega⟩
  case seq a lo hi o =>
    simp only [Bool.and_eq_true, decide_eq_true_eq, Bool.or_eq_true] at h
    cases d <;> simp only [mem] at hm <;> try (cases hm; done)
    next ds =>
    simp only [Bool.and_eq_true, decide_eq_true_eq] at hm
    rcases h.1 with z | z
    · have : ds = [] := List.eq_nil_of_length_eq_zero (by omega)
      subst this
      exact ⟨[], rfl, (fun _ h => nomatch h), by decide⟩
    · obtain ⟨xs, rfl, h1⟩ := seq_row z hm.1.1.1
      exact ⟨xs, rfl, h1, by have := hm.1.2; rw [List.length_map] at this; omega⟩
def lsAV (n m : Int) : AV → Bool
  | .tup rows => decide (rows.length = n.toNat) && rows.all fun r => r.alts.all (rowAV m)
  | _ => false
theorem mems_ls {m : Int} : ∀ {as : List AV} {ds : List D}, (as.all fun r => r.alts.all (rowAV m)) = true → mems as ds = true → ∃ L : List (List Int), ds = L.map rowD ∧ L.length = as.length ∧ (∀ row ∈ L, row.length ≤ 3) ∧ ∀ row ∈ L, ∀ x ∈ row, 0 ≤ x ∧ x < m
  | [], ds, _, h => by
    cases ds with
    | nil => exact ⟨[], rfl, rfl, (fun _ h => nomatch h), fun _ h => nomatch h⟩
    | cons _ _ => simp [mems] at h
  | a :: as, ds, h, hm => by
    cases ds with
    | nil => simp [mems] at hm
    | cons d r =>
      simp only [mems, Bool.and_eq_true] at hm
      simp only [List.all_cons, Bool.and_eq_true] at h
      obtain ⟨b, hb, mb⟩ := alts_mem hm.1
      obtain ⟨xs, rfl, h1, h2⟩ := rowAV_ok (List.all_eq_true.mp h.1 b hb) mb
      obtain ⟨L, rfl, h3, h4, h5⟩ := mems_ls h.2 hm.2
      refine ⟨xs :: L, rfl, by simp [h3], fun row hr => ?_, fun row hr => ?_⟩
      · rcases List.mem_cons.mp hr with z | z
        · rw [z]; exact h2
        · exact h4 row z
      · rcases List.mem_cons.mp hr with z | z
        · rw [z]; exact h1
        · exact h5 row z
def lsXV (n m : Int) (T : Nat) (r : Option (XV × Nat)) : Bool := match r with
  | some (.fl a, t) => a.alts.all (lsAV n m) && decide (t ≤ T)
  | _ => false
theorem lsXV_ok {n m : Int} {T : Nat} {r : Option (XV × Nat)} (h : lsXV n m T r = true) : ∃ x t, r = some (x, t) ∧ t ≤ T ∧ ∀ s d, Hold s x d → ∃ L, d = lsD L ∧ Rows n m L := by
  unfold lsXV at h
  split at h
  · next a t =>
    simp only [Bool.and_eq_true, decide_eq_true_eq, List.all_eq_true] at h
    refine ⟨_, t, rfl, h.2, fun s d m => ?_⟩
    obtain ⟨b, hb, mb⟩ := alts_mem m
    have hb := h.1 b hb
    cases b <;> simp only [lsAV] at hb <;> try (cases hb; done)
    next rows =>
    simp only [Bool.and_eq_true, decide_eq_true_eq] at hb
    cases d <;> simp only [mem] at mb <;> try (cases mb; done)
    obtain ⟨L, rfl, h3, h4, h5⟩ := mems_ls hb.2 mb
    exact ⟨L, rfl, h3.trans hb.1, h4, h5⟩
  · cases h
/-- any web of so many places -/
def anyW (n : Int) : AV := .tup [.int n n, .seq (.tup [.int 0 100, .int 0 100]) 0 63 0]
theorem anyW_mem {n : Int} {ts : List (Int × Int)} (h : In n ts) (hn : n ≤ 100) (hl : ts.length ≤ 63) : mem (anyW n) (webD n ts) = true := by
  have e : (ts.map ofPair).all (mem (.tup [.int 0 100, .int 0 100])) = true := List.all_eq_true.mpr fun d hd => by
    obtain ⟨p, hp, rfl⟩ := List.mem_map.mp hd
    have := h p hp
    exact pair_mem (by omega)
  show (mem (.int n n) (.int n) && ((mem (.seq (.tup [.int 0 100, .int 0 100]) 0 63 0) (.tup (ts.map ofPair))) && true)) = true
  rw [Bool.and_true, Bool.and_eq_true]
  refine ⟨by simp [mem], ?_⟩
  show ((ts.map ofPair).all _ && decide (0 ≤ (ts.map ofPair).length) && decide ((ts.map ofPair).length ≤ 63) && ordB 0 _) = true
  rw [e, List.length_map]
  simp [ordB, hl]
end Wb
namespace Wb
open PySem
theorem ok_asgT {cl : Nat → List D → Store → Res D} {F : Nat} {r : Env} {s : Store} {rest : List Wb.S} {Q : Out → Store → Prop} {e : E} {t : T} (h : Ok (evE cl e r s) fun d s1 => Ok (asT cl t d r s1) fun r2 s2 => Ok (evSs cl F rest r2 s2) Q) : Ok (evSs cl F (.asg t e :: rest) r s) Q := by
  refine ok_cons ?_
  rw [evS]
  exact ok_bind (ok_imp h fun d s1 h => ok_bind (ok_imp h fun r2 s2 h => ok_ok h))
theorem under_ls (L : List (List Int)) (k : Nat) : D.under k (lsD L) = true := by
  show D.unders k (L.map rowD) = true
  induction L with
  | nil => rfl
  | cons x L ih =>
    show (D.unders k (x.map D.int) && D.unders k (L.map rowD)) = true
    rw [ih, under_ints]
    rfl
theorem mem_cut {α : Type} {l : List α} {lo hi : Option Int} {x : α} (h : x ∈ cut l lo hi) : x ∈ l := by
  unfold cut at h
  exact List.mem_of_mem_drop (List.mem_of_mem_take h)
end Wb

/-! A18: strikes. -/
namespace Wb
open PySem
abbrev Lst := List (List Int)
def rowAt (L : Lst) (a : Int) : List Int := L.getD a.toNat []
structure Stk where
  a : Int
  x : Int
  b : Int
  w : Bool
def wayD (w : Bool) : D := .str (if w then "out" else "in")
def stkD (k : Stk) : D := .tup [.int k.a, .int k.x, .int k.b, wayD k.w]
def tieOf (w : Bool) (a b : Int) : Int × Int := if w then (a, b) else (b, a)
def goesB (t1 t2 : List (Int × Int)) (L : Lst) (k : Stk) : Bool := decide (k.x ∈ rowAt L k.a) && (decide (tieOf k.w k.a k.b ∈ t1) && !((rowAt L k.b).any fun y => decide (tieOf k.w k.x y ∈ t2)))
def strike (L : Lst) (k : Stk) : Lst := L.set k.a.toNat ((rowAt L k.a).filter fun y => decide (y ≠ k.x))
def runs (t1 t2 : List (Int × Int)) : Lst → List Stk → Bool
  | _, [] => true
  | L, k :: ks => goesB t1 t2 L k && runs t1 t2 (strike L k) ks
def endsL (L : Lst) (ks : List Stk) : Lst := ks.foldl strike L
def Closed (t1 t2 : List (Int × Int)) (L : Lst) : Prop := ∀ k, goesB t1 t2 L k = false
structure StkIn (n1 n2 : Int) (k : Stk) : Prop where
  ha : 0 ≤ k.a ∧ k.a < n1
  hx : 0 ≤ k.x ∧ k.x < n2
  hb : 0 ≤ k.b ∧ k.b < n1
def SubL (M L : Lst) : Prop := ∀ a x, x ∈ rowAt M a → x ∈ rowAt L a
def tot (L : Lst) : Nat := (L.map List.length).sum
section
variable {t1 t2 : List (Int × Int)} {L M : Lst} {k : Stk} {ks js : List Stk} {n1 n2 : Int}
theorem goes_iff : goesB t1 t2 L k = true ↔ k.x ∈ rowAt L k.a ∧ tieOf k.w k.a k.b ∈ t1 ∧ ∀ y ∈ rowAt L k.b, tieOf k.w k.x y ∉ t2 := by
  unfold goesB
  simp only [Bool.and_eq_true, decide_eq_true_eq, Bool.not_eq_true', List.any_eq_false]
theorem tie_in {w : Bool} {a b : Int} (h : In n1 t1) (ht : tieOf w a b ∈ t1) : (0 ≤ a ∧ a < n1) ∧ 0 ≤ b ∧ b < n1 := by
  have := h _ ht
  cases w
  · exact ⟨this.2, this.1⟩
  · exact this
theorem row_mem {a x : Int} (h : x ∈ rowAt L a) : a.toNat < L.length ∧ rowAt L a ∈ L := by
  unfold rowAt at *
  by_cases c : a.toNat < L.length
  · refine ⟨c, ?_⟩
    rw [List.getD_eq_getElem?_getD, List.getElem?_eq_getElem c]
    exact List.getElem_mem c
  · rw [List.getD_eq_getElem?_getD, List.getElem?_eq_none (by omega)] at h
    cases h
theorem Rows.at_ {a : Int} (r : Rows n1 n2 L) : (rowAt L a).length ≤ 3 ∧ ∀ x ∈ rowAt L a, 0 ≤ x ∧ x < n2 := by
  by_cases c : a.toNat < L.length
  · have e : rowAt L a = L[a.toNat] := by unfold rowAt; rw [List.getD_eq_getElem?_getD, List.getElem?_eq_getElem c]; rfl
    rw [e]
    exact ⟨r.few _ (List.getElem_mem c), r.inn _ (List.getElem_mem c)⟩
  · have e : rowAt L a = [] := by unfold rowAt; rw [List.getD_eq_getElem?_getD, List.getElem?_eq_none (by omega)]; rfl
    rw [e]
    exact ⟨by simp, fun _ h => nomatch h⟩
theorem goes_in (h : In n1 t1) (r : Rows n1 n2 L) (g : goesB t1 t2 L k = true) : StkIn n1 n2 k := by
  obtain ⟨g1, g2, _⟩ := goes_iff.mp g
  have := tie_in h g2
  exact ⟨this.1, r.at_.2 _ g1, this.2⟩
theorem strike_len : (strike L k).length = L.length := by unfold strike; simp
theorem rowAt_strike {a : Int} : rowAt (strike L k) a = if a.toNat = k.a.toNat then (rowAt L a).filter (fun y => decide (y ≠ k.x)) else rowAt L a := by
  unfold strike
  by_cases c : a.toNat = k.a.toNat
  · rw [if_pos c]
    by_cases d : k.a.toNat < L.length
    · unfold rowAt
      rw [List.getD_eq_getElem?_getD, c, List.getElem?_set_self d]
      rfl
    · have e : rowAt L a = [] := by unfold rowAt; rw [List.getD_eq_getElem?_getD, List.getElem?_eq_none (by omega)]; rfl
      rw [e, List.set_eq_of_length_le (by omega), e]
      rfl
  · rw [if_neg c]
    unfold rowAt
    rw [List.getD_eq_getElem?_getD, List.getElem?_set_ne (Ne.symm c), ← List.getD_eq_getElem?_getD]
theorem strike_rows (r : Rows n1 n2 L) : Rows n1 n2 (strike L k) := by
  have key : ∀ row ∈ strike L k, ∃ row2, (row2 ∈ L ∨ row2 = rowAt L k.a) ∧ ∃ p, row = row2.filter p := fun row h => by
    unfold strike at h
    rcases List.mem_or_eq_of_mem_set h with z | z
    · exact ⟨row, .inl z, fun _ => true, (List.filter_eq_self.mpr fun _ _ => rfl).symm⟩
    · exact ⟨_, .inr rfl, _, z⟩
  have k2 : ∀ row2, (row2 ∈ L ∨ row2 = rowAt L k.a) → row2.length ≤ 3 ∧ ∀ x ∈ row2, 0 ≤ x ∧ x < n2 := fun row2 h => by
    rcases h with z | z
    · exact ⟨r.few _ z, r.inn _ z⟩
    · rw [z]; exact r.at_
  refine ⟨strike_len.trans r.len, fun row h => ?_, fun row h => ?_⟩
  · obtain ⟨row2, h2, p, rfl⟩ := key row h
    exact Nat.le_trans (List.length_filter_le _ _) (k2 _ h2).1
  · obtain ⟨row2, h2, p, rfl⟩ := key row h
    exact fun x hx => (k2 _ h2).2 x (List.mem_filter.mp hx).1
theorem Two.strike (w : Two n1 t1 n2 t2 L) : Two n1 t1 n2 t2 (strike L k) := ⟨w.a0, w.a1, w.b0, w.b1, w.i1, w.i2, w.f1, w.f2, strike_rows w.rows⟩
theorem ends_cons : endsL L (k :: ks) = endsL (strike L k) ks := rfl
theorem ends_app : endsL L (ks ++ [k]) = strike (endsL L ks) k := by unfold endsL; rw [List.foldl_append]; rfl
theorem Two.ends (w : Two n1 t1 n2 t2 L) : Two n1 t1 n2 t2 (endsL L ks) := by
  induction ks generalizing L with
  | nil => exact w
  | cons k ks ih => exact ih w.strike
theorem runs_app : ∀ {ks : List Stk} {L : Lst}, runs t1 t2 L (ks ++ [k]) = (runs t1 t2 L ks && goesB t1 t2 (endsL L ks) k)
  | [], L => by show (goesB t1 t2 L k && true) = (true && goesB t1 t2 L k); rw [Bool.and_true, Bool.true_and]
  | j :: ks, L => by
    show (goesB t1 t2 L j && runs t1 t2 (strike L j) (ks ++ [k])) = (goesB t1 t2 L j && runs t1 t2 (strike L j) ks && goesB t1 t2 (endsL (strike L j) ks) k)
    rw [runs_app, Bool.and_assoc]
theorem runs_in (h : In n1 t1) : ∀ {ks : List Stk} {L : Lst}, Rows n1 n2 L → runs t1 t2 L ks = true → ∀ k ∈ ks, StkIn n1 n2 k
  | [], _, _, _, _, h => nomatch h
  | j :: ks, L, r, g, k, hk => by
    simp only [runs, Bool.and_eq_true] at g
    rcases List.mem_cons.mp hk with z | z
    · rw [z]; exact goes_in h r g.1
    · exact runs_in h (strike_rows r) g.2 k z
theorem sub_strike (c : Closed t1 t2 M) (s : SubL M L) (g : goesB t1 t2 L k = true) : SubL M (strike L k) := fun a x hx => by
  rw [rowAt_strike]
  by_cases e : a.toNat = k.a.toNat
  · rw [if_pos e]
    refine List.mem_filter.mpr ⟨s a x hx, decide_eq_true fun z => ?_⟩
    obtain ⟨g1, g2, g3⟩ := goes_iff.mp g
    have hk : k.x ∈ rowAt M k.a := by
      have e2 : rowAt M k.a = rowAt M a := by unfold rowAt; rw [e]
      rw [e2, ← z]; exact hx
    have : goesB t1 t2 M k = true := goes_iff.mpr ⟨hk, g2, fun y hy => g3 y (s _ _ hy)⟩
    rw [c k] at this
    cases this
  · rw [if_neg e]; exact s a x hx
theorem sub_ends (c : Closed t1 t2 M) : ∀ {ks : List Stk} {L : Lst}, SubL M L → runs t1 t2 L ks = true → SubL M (endsL L ks)
  | [], L, s, _ => s
  | k :: ks, L, s, g => by
    simp only [runs, Bool.and_eq_true] at g
    exact sub_ends (L := strike L k) (ks := ks) c (sub_strike c s g.1) g.2
theorem ends_filter : ∀ {ks : List Stk} {L : Lst} {a : Int}, ∃ p : Int → Bool, rowAt (endsL L ks) a = (rowAt L a).filter p
  | [], L, a => ⟨fun _ => true, (List.filter_eq_self.mpr fun _ _ => rfl).symm⟩
  | k :: ks, L, a => by
    obtain ⟨p, hp⟩ := ends_filter (ks := ks) (L := strike L k) (a := a)
    rw [ends_cons, hp, rowAt_strike]
    by_cases e : a.toNat = k.a.toNat
    · rw [if_pos e, List.filter_filter]; exact ⟨_, rfl⟩
    · rw [if_neg e]; exact ⟨p, rfl⟩
theorem ends_sub : SubL (endsL L ks) L := fun a x hx => by
  obtain ⟨p, hp⟩ := ends_filter (ks := ks) (L := L) (a := a)
  rw [hp] at hx
  exact (List.mem_filter.mp hx).1
theorem ends_len : ∀ {ks : List Stk} {L : Lst}, (endsL L ks).length = L.length
  | [], _ => rfl
  | k :: ks, L => by rw [ends_cons, ends_len, strike_len]
theorem ends_one (h1 : runs t1 t2 L ks = true) (h2 : runs t1 t2 L js = true) (c1 : Closed t1 t2 (endsL L ks)) (c2 : Closed t1 t2 (endsL L js)) : endsL L ks = endsL L js := by
  have s1 : SubL (endsL L ks) (endsL L js) := sub_ends c1 ends_sub h2
  have s2 : SubL (endsL L js) (endsL L ks) := sub_ends c2 ends_sub h1
  have row : ∀ a : Int, rowAt (endsL L ks) a = rowAt (endsL L js) a := fun a => by
    obtain ⟨p, hp⟩ := ends_filter (ks := ks) (L := L) (a := a)
    obtain ⟨q, hq⟩ := ends_filter (ks := js) (L := L) (a := a)
    rw [hp, hq]
    refine List.filter_congr fun x hx => ?_
    have i1 := s1 a x
    have i2 := s2 a x
    rw [hp, hq, List.mem_filter, List.mem_filter] at i1
    rw [hp, hq, List.mem_filter, List.mem_filter] at i2
    cases e1 : p x <;> cases e2 : q x <;> simp_all
  refine List.ext_getElem (by rw [ends_len, ends_len]) fun i h1 h2 => ?_
  have := row (i : Int)
  unfold rowAt at this
  rw [Int.toNat_natCast, List.getD_eq_getElem?_getD, List.getD_eq_getElem?_getD, List.getElem?_eq_getElem h1, List.getElem?_eq_getElem h2] at this
  exact this
theorem tot_set : ∀ {L : Lst} {i : Nat} {r : List Int} (h : i < L.length), tot (L.set i r) + (L[i]).length = tot L + r.length
  | [], i, r, h => by simp at h
  | x :: L, 0, r, h => by simp [tot]; omega
  | x :: L, i + 1, r, h => by
    have := tot_set (L := L) (i := i) (r := r) (by simpa using h)
    simp only [tot, List.set_cons_succ, List.map_cons, List.sum_cons, List.getElem_cons_succ] at this ⊢
    omega
theorem filter_less {l : List Int} {x : Int} (h : x ∈ l) : (l.filter fun y => decide (y ≠ x)).length < l.length := by
  induction l with
  | nil => cases h
  | cons y l ih =>
    by_cases c : y = x
    · subst c
      have := List.length_filter_le (fun z => decide (z ≠ y)) l
      simp only [List.filter_cons, ne_eq, not_true_eq_false, decide_false, Bool.false_eq_true, if_false, List.length_cons]
      simp only [ne_eq] at this
      omega
    · have hx : x ∈ l := (List.mem_cons.mp h).resolve_left (Ne.symm c)
      have := ih hx
      simp only [List.filter_cons, ne_eq, c, not_false_eq_true, decide_true, if_true, List.length_cons]
      simp only [ne_eq] at this
      omega
theorem strike_less (g : goesB t1 t2 L k = true) : tot (strike L k) < tot L := by
  obtain ⟨g1, _⟩ := goes_iff.mp g
  obtain ⟨h1, _⟩ := row_mem g1
  have e : rowAt L k.a = L[k.a.toNat] := by unfold rowAt; rw [List.getD_eq_getElem?_getD, List.getElem?_eq_getElem h1]; rfl
  have := tot_set (r := (rowAt L k.a).filter fun y => decide (y ≠ k.x)) h1
  have := filter_less g1
  unfold strike
  rw [e] at *
  omega
theorem tot_le : ∀ {L : Lst}, (∀ row ∈ L, row.length ≤ 8) → tot L ≤ 8 * L.length
  | [], _ => by simp [tot]
  | x :: L, h => by
    have := tot_le fun r hr => h r (List.mem_cons_of_mem _ hr)
    have := h x (by simp)
    simp only [tot, List.map_cons, List.sum_cons, List.length_cons] at *
    omega
theorem runs_tot : ∀ {ks : List Stk} {L : Lst}, runs t1 t2 L ks = true → ks.length + tot (endsL L ks) ≤ tot L
  | [], L, _ => by simp [endsL]
  | k :: ks, L, g => by
    simp only [runs, Bool.and_eq_true] at g
    have := runs_tot g.2
    have := strike_less g.1
    rw [ends_cons, List.length_cons]
    omega
theorem Two.tot_le (w : Two n1 t1 n2 t2 L) : tot L ≤ 56 := by
  have := Wb.tot_le fun r hr => Nat.le_trans (w.rows.few r hr) (by decide : 3 ≤ 8)
  have := w.rows.len
  have := w.a1
  omega
end
/-! ### rows and lists as data -/
section
variable {S : Store} {n m a x : Int} {L : Lst} {row : List Int}
theorem any_intD (x : Int) : ∀ ps : List Int, ((D.pys (ps.map D.int)).any fun z => PyData.eqv z (D.int x).py) = decide (x ∈ ps)
  | [] => rfl
  | q :: r => by
    show (PyData.eqv (.int q) (.int x) || (D.pys (r.map D.int)).any fun z => PyData.eqv z (D.int x).py) = _
    rw [any_intD x r]
    have e : PyData.eqv (.int q) (.int x) = decide (x = q) := by
      show (q == x) = decide (x = q)
      by_cases h : q = x
      · simp [h]
      · simp [h, Ne.symm h]
    rw [e]
    simp only [List.mem_cons, Bool.decide_or]
theorem inD_ints (hm : m ≤ 1000000) (hx : 0 ≤ x ∧ x < m) (h : ∀ y ∈ row, 0 ≤ y ∧ y < m) : inD S (.int x) (row.map .int) = some (decide (x ∈ row)) := by
  obtain ⟨h1, h2, _⟩ := pls_ints hm h
  obtain ⟨g1, g2, _⟩ := pls_ints (ns := [x]) hm (by intro q hq; rw [List.mem_singleton.mp hq]; exact hx)
  have k1 : (D.int x).pl = true := by
    have : (D.pl (.int x) && true) = true := g1
    simpa using this
  unfold inD
  rw [pyOk_pl k1 (by show 0 ≤ 50; omega), pyOks_pl h1 (by omega)]
  exact congrArg some (any_intD x row)
theorem in_row (hm : m ≤ 1000000) (hx : 0 ≤ x ∧ x < m) (h : ∀ y ∈ row, 0 ≤ y ∧ y < m) : cpD S .isin (.int x) (rowD row) = some (.bl (decide (x ∈ row))) := by
  show (inD S (.int x) (row.map .int)).map D.bl = _
  rw [inD_ints hm hx h]
  rfl
theorem notin_row (hm : m ≤ 1000000) (hx : 0 ≤ x ∧ x < m) (h : ∀ y ∈ row, 0 ≤ y ∧ y < m) : cpD S .notin (.int x) (rowD row) = some (.bl (!decide (x ∈ row))) := by
  show (inD S (.int x) (row.map .int)).map noB = _
  rw [inD_ints hm hx h]
  rfl
theorem ls_at (h0 : 0 ≤ a) (h1 : a.toNat < L.length) : ixD S (lsD L) (.int a) = some (rowD (rowAt L a)) := by
  show atD (L.map rowD) a = _
  rw [atD_in h0 (by rw [List.length_map]; omega)]
  unfold rowAt
  rw [List.getD_eq_getElem?_getD, List.getElem?_eq_getElem h1]
  simp
theorem pl_ls {k : Nat} (hm : m ≤ 1000000) : ∀ {L : Lst}, (∀ row ∈ L, row.length ≤ k) → (∀ row ∈ L, ∀ x ∈ row, 0 ≤ x ∧ x < m) → D.pls (L.map rowD) = true ∧ D.dps (L.map rowD) ≤ 1 ∧ D.ndss (L.map rowD) ≤ (k + 1) * L.length
  | [], _, _ => ⟨rfl, by decide, by simp [D.ndss]⟩
  | r :: L, h1, h2 => by
    obtain ⟨a1, a2, a3⟩ := pl_ls (k := k) hm (L := L) (fun row hr => h1 row (List.mem_cons_of_mem _ hr)) fun row hr => h2 row (List.mem_cons_of_mem _ hr)
    obtain ⟨b1, b2, b3⟩ := pls_ints hm (h2 r (by simp))
    have hr := h1 r (by simp)
    refine ⟨?_, ?_, ?_⟩
    · show (D.pls (r.map D.int) && D.pls (L.map rowD)) = true
      rw [a1, b1]; rfl
    · show max (D.dps (r.map D.int) + 1) (D.dps (L.map rowD)) ≤ 1
      omega
    · show D.ndss (r.map D.int) + 1 + D.ndss (L.map rowD) ≤ (k + 1) * (L.length + 1)
      rw [Nat.mul_add]
      omega
theorem pl_lsD (r : Rows n m L) (hn : n ≤ 100) (hm : m ≤ 1000000) : (lsD L).pl = true ∧ (lsD L).dp ≤ 2 ∧ (lsD L).nds ≤ 1000 := by
  obtain ⟨h1, h2, h3⟩ := pl_ls (k := 8) hm (fun row hr => Nat.le_trans (r.few row hr) (by decide)) r.inn
  have := r.len
  refine ⟨h1, ?_, ?_⟩
  · show D.dps (L.map rowD) + 1 ≤ 2
    omega
  · show D.ndss (L.map rowD) + 1 ≤ 1000
    have : (8 + 1) * L.length ≤ 9 * 100 := Nat.mul_le_mul (Nat.le_refl _) (by omega)
    omega
theorem repr_ls (r : Rows n m L) (hn : n ≤ 100) (hm : m ≤ 1000000) : ∃ X, ∀ S, reprD S (lsD L) = some (.str X) := by
  obtain ⟨h1, h2, h3⟩ := pl_lsD r hn hm
  exact ⟨_, fun S => reprD_pl h1 (by omega) (by omega)⟩
theorem repr_two {n1 n2 : Int} {t1 t2 : List (Int × Int)} (w : Two n1 t1 n2 t2 L) : ∃ X, ∀ S, reprD S (.tup [webD n1 t1, webD n2 t2, lsD L]) = some (.str X) := by
  have a0 := w.a0; have a1 := w.a1; have b0 := w.b0; have b1 := w.b1; have f1 := w.f1; have f2 := w.f2
  obtain ⟨h1, h2, h3⟩ := pl_lsD w.rows (by omega) (by omega)
  obtain ⟨g1, g2, g3⟩ := pl_web (n := n1) (b := n1) (by omega) (by omega) w.i1
  obtain ⟨k1, k2, k3⟩ := pl_web (n := n2) (b := n2) (by omega) (by omega) w.i2
  refine ⟨_, fun S => reprD_pl ?_ ?_ ?_⟩
  · show ((webD n1 t1).pl && ((webD n2 t2).pl && ((lsD L).pl && true))) = true
    rw [h1, g1, k1]; rfl
  · show max (webD n1 t1).dp (max (webD n2 t2).dp (max (lsD L).dp 0)) + 1 ≤ 50
    omega
  · show (webD n1 t1).nds + ((webD n2 t2).nds + ((lsD L).nds + 0)) + 1 ≤ 4000
    omega
end
/-! ### pure calls, loops -/
theorem call_pureE {P : List Fn} {F k f : Nat} {fn : Fn} {ds : List D} {s : Store} {R : D → Prop} (hf : P[f]? = some fn) (hl : ds.length = fn.np)
    (h : Ok (evSs (call P F k) F fn.body (ds.map some ++ List.replicate (fn.nn - fn.np) none) s) fun o s1 => ∃ d, o = .rt d ∧ R d ∧ Keep s s1 ∧ d.under s.length = true) : ∃ d, call P F (k + 1) f ds s = .ok d s ∧ R d := by
  obtain ⟨o, s1, h1, d, rfl, h2, h3, h4⟩ := h
  refine ⟨d, call_pureQ hf hl ⟨_, _, h1, rfl, h3⟩ h4, h2⟩
/-- m: at most so many turns are left -/
theorem ok_whl {cl : Nat → List D → Store → Res D} {F : Nat} {r : Env} {s : Store} {c : E} {b : List Wb.S} {R : Out → Store → Prop} (I : Nat → Env → Store → Prop) {m : Nat} (h0 : I m r s) (hm : m < F)
    (hs : ∀ m r s, I m r s → Ok (evT cl c r s) fun k s1 => if k then ∃ m', m = m' + 1 ∧ Ok (evSs cl F b r s1) fun o s2 => (match o with
      | .nx r2 => I m' r2 s2
      | .ct r2 => I m' r2 s2
      | .bk r2 => R (.nx r2) s2
      | .rt d => R (.rt d) s2) else R (.nx r) s1) : Ok (whlGo (evT cl c) (evSs cl F b) F r s) R := by
  have go : ∀ (n m : Nat) (r : Env) (s : Store), m < n → I m r s → Ok (whlGo (evT cl c) (evSs cl F b) n r s) R := by
    intro n
    induction n with
    | zero => intro m r s h _; omega
    | succ n ih =>
      intro m r s h hI
      unfold whlGo
      refine ok_bind (ok_imp (hs m r s hI) fun k s1 h1 => ?_)
      cases k with
      | false => exact ok_ok h1
      | true =>
        obtain ⟨m', e, o, s2, h2, h3⟩ := h1
        rw [if_pos rfl, h2]
        cases o with
        | nx r2 => exact ih m' r2 s2 (by omega) h3
        | ct r2 => exact ih m' r2 s2 (by omega) h3
        | bk r2 => exact ok_ok h3
        | rt d => exact ok_ok h3
  exact go F m r s hm h0
theorem ok_whlS {cl : Nat → List D → Store → Res D} {F : Nat} {r : Env} {s : Store} {c : E} {b rest : List Wb.S} {Q : Out → Store → Prop} (h : Ok (whlGo (evT cl c) (evSs cl F b) F r s) (Cont cl F rest Q)) : Ok (evSs cl F (.whl c b :: rest) r s) Q := by
  refine ok_cons ?_
  rw [evS]
  exact h
/-- pairs in a list that lies -/
theorem comp_pairsG {step : D → Store → Res (Option D)} {gd : Option (Nat × List D)} {s : Store} (cnd : Int × Int → Bool) (g : Int × Int → D) {ts : List (Int × Int)} (hg : still s gd = true) (hl : ts.length ≤ 1000) (h : ∀ p ∈ ts, step (ofPair p) s = .ok (if cnd p then some (g p) else none) s) : compGo step gd (ts.map ofPair) [] s = .ok ((ts.filter cnd).map g) s := by
  have := ok_compG (step := step) (gd := gd) (s := s) (R := fun acc s' => acc = (ts.filter cnd).map g ∧ s' = s) hg (fun i acc => acc = ((ts.take i).filter cnd).map g) (ds := ts.map ofPair) (by rw [List.length_map]; omega) rfl (fun i d acc hd hI => by
    rw [List.getElem?_map] at hd
    obtain ⟨t, ht, rfl⟩ := Option.map_eq_some_iff.mp hd
    refine ⟨_, h t (List.mem_of_getElem? ht), ?_⟩
    have e : ts.take (i + 1) = ts.take i ++ [t] := by rw [List.take_succ, ht]; rfl
    subst hI
    cases hc : cnd t with
    | true => simp [e, hc]
    | false => simp [e, hc]) (fun acc hI => by rw [List.length_map, List.take_length] at hI; exact ⟨hI, rfl⟩)
  obtain ⟨x, s', e, rfl, rfl⟩ := this
  exact e
/-- what a comprehension over ints takes -/
theorem comp_ints {step : D → Store → Res (Option D)} {s : Store} {c : Int → Bool} {ns : List Int} (hl : ns.length ≤ 1000) (h : ∀ x ∈ ns, step (.int x) s = .ok (if c x then some (.int x) else none) s) : compGo step none (ns.map D.int) [] s = .ok ((ns.filter c).map D.int) s := by
  have := ok_compG (step := step) (gd := none) (s := s) (R := fun acc s' => acc = (ns.filter c).map D.int ∧ s' = s) rfl (fun i acc => acc = ((ns.take i).filter c).map D.int) (ds := ns.map D.int) (by rw [List.length_map]; omega) rfl (fun i d acc hd hI => by
    rw [List.getElem?_map] at hd
    obtain ⟨t, ht, rfl⟩ := Option.map_eq_some_iff.mp hd
    refine ⟨_, h t (List.mem_of_getElem? ht), ?_⟩
    have e : ns.take (i + 1) = ns.take i ++ [t] := by rw [List.take_succ, ht]; rfl
    subst hI
    cases hc : c t with
    | true => simp [e, hc]
    | false => simp [e, hc]) (fun acc hI => by rw [List.length_map, List.take_length] at hI; exact ⟨hI, rfl⟩)
  obtain ⟨x, s', e, rfl, rfl⟩ := this
  exact e
theorem asBools_map {α : Type} (f : α → Bool) : ∀ l : List α, asBools (l.map fun x => D.bl (f x)) = some (l.map f)
  | [] => rfl
  | x :: r => by
    have ih := asBools_map f r
    unfold asBools at ih ⊢
    show mapO asBool (.bl (f x) :: r.map fun x => D.bl (f x)) = _
    unfold mapO
    rw [ih]
    rfl
end Wb
namespace Wb
open PySem
/-- what a comprehension makes of those that it takes -/
theorem comp_selG {α : Type} {step : D → Store → Res (Option D)} {gd : Option (Nat × List D)} {s : Store} (f g : α → D) (cnd : α → Bool) {xs : List α} (hg : still s gd = true) (hl : xs.length ≤ 1000000) (h : ∀ x ∈ xs, step (f x) s = .ok (if cnd x then some (g x) else none) s) : compGo step gd (xs.map f) [] s = .ok ((xs.filter cnd).map g) s := by
  have := ok_compG (step := step) (gd := gd) (s := s) (R := fun acc s' => acc = (xs.filter cnd).map g ∧ s' = s) hg (fun i acc => acc = ((xs.take i).filter cnd).map g) (ds := xs.map f) (by rw [List.length_map]; omega) rfl (fun i d acc hd hI => by
    rw [List.getElem?_map] at hd
    obtain ⟨t, ht, rfl⟩ := Option.map_eq_some_iff.mp hd
    refine ⟨_, h t (List.mem_of_getElem? ht), ?_⟩
    have e : xs.take (i + 1) = xs.take i ++ [t] := by rw [List.take_succ, ht]; rfl
    subst hI
    cases hc : cnd t with
    | true => simp [e, hc]
    | false => simp [e, hc]) (fun acc hI => by rw [List.length_map, List.take_length] at hI; exact ⟨hI, rfl⟩)
  obtain ⟨x, s', e, rfl, rfl⟩ := this
  exact e
theorem under_stk (k : Stk) (m : Nat) : D.under m (stkD k) = true := by
  show (true && (true && (true && (D.under m (wayD k.w) && true)))) = true
  rfl
theorem under_stks (ks : List Stk) (m : Nat) : D.unders m (ks.map stkD) = true := by
  induction ks with
  | nil => rfl
  | cons k ks ih =>
    show (D.under m (stkD k) && D.unders m (ks.map stkD)) = true
    rw [ih, under_stk]
    rfl
def wayP (w : Bool) : PyData := .str (if w then "out" else "in")
def stkP (k : Stk) : PyData := .tuple [.int k.a, .int k.x, .int k.b, wayP k.w]
theorem toPy_stks {S : Store} {n : Nat} : ∀ ks : List Stk, mapO (toPy S (n + 2)) (ks.map stkD) = some (ks.map stkP)
  | [] => rfl
  | k :: ks => by
    show mapO _ (stkD k :: ks.map stkD) = _
    unfold mapO
    rw [toPy_stks ks]
    rfl
theorem way_lay (w : Bool) : (wayP w).canLay0 = true := by cases w <;> decide +kernel
theorem lay_stks : ∀ ks : List Stk, PyData.canLayAll0 (ks.map stkP) = true ∧ PyData.depthAll (ks.map stkP) ≤ 2
  | [] => ⟨rfl, by decide⟩
  | k :: ks => by
    obtain ⟨h1, h2⟩ := lay_stks ks
    have hw := way_lay k.w
    have dw : (wayP k.w).depth = 0 := by cases k.w <;> rfl
    refine ⟨?_, ?_⟩
    · simp only [List.map_cons, PyData.canLayAll0, h1, Bool.and_true]
      show PyData.canLay0 (.tuple _) = true
      simp [PyData.canLay0, PyData.canLayAll0, hw]
    · simp only [List.map_cons, PyData.depthAll]
      have : (stkP k).depth ≤ 2 := by
        show PyData.depthAll [.int k.a, .int k.x, .int k.b, wayP k.w] + 1 ≤ 2
        simp [PyData.depthAll, PyData.depth, dw]
      omega
theorem eqL_stks {S : Store} (ks : List Stk) : eqL S (ks.map stkD) [] = some (decide (ks = [])) := by
  have p : pyOks S (ks.map stkD) = some (ks.map stkP) := by
    unfold pyOks
    rw [toPy_stks ks]
    obtain ⟨h1, h2⟩ := lay_stks ks
    have sh : SeqAt.shaped (.list (ks.map stkP)) = true := by
      unfold SeqAt.shaped
      have e1 : (PyData.list (ks.map stkP)).canLay0 = true := h1
      rw [e1, Bool.true_and]
      refine decide_eq_true ?_
      show PyData.depthAll _ + 1 ≤ 64
      omega
    simp only [sh, if_true]
  have p0 : pyOks S [] = some [] := by rfl
  unfold eqL
  rw [p, p0]
  cases ks <;> rfl
theorem way_two {S : Store} (w : Bool) : inD S (wayD w) [.str "out", .str "in"] = some true := by
  have sh : ∀ w, SeqAt.shaped (wayP w) = true := fun w => by cases w <;> decide +kernel
  have sh2 : SeqAt.shaped (.list [wayP true, wayP false]) = true := by decide +kernel
  have p1 : pyOk S (wayD w) = some (wayP w) := by
    unfold pyOk
    have : toPy S 60 (wayD w) = some (wayP w) := rfl
    rw [this]
    simp only [sh w, if_true]
  have p2 : pyOks S [.str "out", .str "in"] = some [wayP true, wayP false] := by
    unfold pyOks
    have : mapO (toPy S 59) [.str "out", .str "in"] = some [wayP true, wayP false] := rfl
    rw [this]
    simp only [sh2, if_true]
  unfold inD
  rw [p1, p2]
  cases w <;> decide +kernel
theorem runs_pre {t1 t2 : List (Int × Int)} : ∀ {ks js : List Stk} {L : Lst}, runs t1 t2 L (ks ++ js) = true → runs t1 t2 L ks = true
  | [], _, _, _ => rfl
  | k :: ks, js, L, h => by
    simp only [List.cons_append, runs, Bool.and_eq_true] at h ⊢
    exact ⟨h.1, runs_pre h.2⟩
/-- what first_strike tells -/
def FS (t1 t2 : List (Int × Int)) (L : Lst) (d : D) : Prop := (d = .non ∧ Closed t1 t2 L) ∨ ∃ st, d = stkD st ∧ goesB t1 t2 L st = true
theorem no_runs {t1 t2 : List (Int × Int)} {L : Lst} {ks : List Stk} (c : Closed t1 t2 L) (h : runs t1 t2 L ks = true) : ks = [] := by
  cases ks with
  | nil => rfl
  | cons k ks =>
    simp only [runs, Bool.and_eq_true] at h
    rw [c k] at h
    cases h.1
end Wb

namespace Wb
open PySem
/-! ### leadings -/
def PreL (t1 t2 : List (Int × Int)) (L : Lst) (a : Nat) (f : List Int) : Prop := f.length = a ∧ (∀ i : Nat, i < a → f.getD i 0 ∈ rowAt L i) ∧ ∀ p ∈ t1, 0 ≤ p.1 → p.1 < (a : Int) → 0 ≤ p.2 → p.2 < (a : Int) → (f.getD p.1.toNat 0, f.getD p.2.toNat 0) ∈ t2
section
variable {t1 t2 : List (Int × Int)} {L M : Lst} {k : Stk} {ks js : List Stk} {n1 n2 : Int} {f : List Int} {a : Nat} {x : Int}
def nearL (t1 : List (Int × Int)) (a : Int) : List (Int × Int) := t1.filter fun p => decide ((if p.1 < p.2 then p.2 else p.1) = a)
theorem getD_app {f : List Int} {x : Int} {i : Nat} : (f ++ [x]).getD i 0 = if i < f.length then f.getD i 0 else if i = f.length then x else 0 := by
  by_cases c : i < f.length
  · rw [if_pos c, List.getD_eq_getElem?_getD, List.getD_eq_getElem?_getD, List.getElem?_append_left c]
  · rw [if_neg c]
    by_cases d : i = f.length
    · rw [if_pos d, List.getD_eq_getElem?_getD, d]
      simp
    · rw [if_neg d, List.getD_eq_getElem?_getD, List.getElem?_eq_none (by simp; omega)]
      rfl
theorem pre_more (h : PreL t1 t2 L a f) (hx : x ∈ rowAt L a) (hn : ∀ p ∈ nearL t1 a, ((f ++ [x]).getD p.1.toNat 0, (f ++ [x]).getD p.2.toNat 0) ∈ t2) : PreL t1 t2 L (a + 1) (f ++ [x]) := by
  obtain ⟨h1, h2, h3⟩ := h
  refine ⟨by simp [h1], fun i hi => ?_, fun p hp q1 q2 q3 q4 => ?_⟩
  · rw [getD_app]
    by_cases c : i < f.length
    · rw [if_pos c]; exact h2 i (by omega)
    · rw [if_neg c, if_pos (by omega), show i = a by omega]; exact hx
  · by_cases c : p ∈ nearL t1 a
    · exact hn p c
    · have hc : ¬ (if p.1 < p.2 then p.2 else p.1) = (a : Int) := fun z => c (List.mem_filter.mpr ⟨hp, decide_eq_true z⟩)
      have l1 : p.1 < a := by split at hc <;> omega
      have l2 : p.2 < a := by split at hc <;> omega
      have := h3 p hp q1 l1 q3 l2
      rw [getD_app, getD_app, if_pos (by omega), if_pos (by omega)]
      exact this
theorem near_lt {p : Int × Int} (h : p ∈ nearL t1 a) : p ∈ t1 ∧ p.1 ≤ a ∧ p.2 ≤ a := by
  obtain ⟨h1, h2⟩ := List.mem_filter.mp h
  have h2 := of_decide_eq_true h2
  refine ⟨h1, ?_⟩
  split at h2 <;> omega
/-- what a leading takes is never struck -/
theorem pre_kept (w : Two n1 t1 n2 t2 L) (h : PreL t1 t2 L n1.toNat f) (hr : runs t1 t2 L ks = true) : ∀ i : Nat, i < n1.toNat → f.getD i 0 ∈ rowAt (endsL L ks) i := by
  obtain ⟨h1, h2, h3⟩ := h
  have at_ : ∀ a : Int, rowAt (f.map fun x => [x]) a = if a.toNat < f.length then [f.getD a.toNat 0] else [] := fun a => by
    unfold rowAt
    by_cases c : a.toNat < f.length
    · rw [if_pos c, List.getD_eq_getElem?_getD, List.getElem?_map, List.getElem?_eq_getElem c, List.getD_eq_getElem?_getD, List.getElem?_eq_getElem c]
      rfl
    · rw [if_neg c, List.getD_eq_getElem?_getD, List.getElem?_map, List.getElem?_eq_none (by omega)]
      rfl
  have cl : Closed t1 t2 (f.map fun x => [x]) := fun k => by
    cases hg : goesB t1 t2 (f.map fun x => [x]) k with
    | false => rfl
    | true =>
      obtain ⟨g1, g2, g3⟩ := goes_iff.mp hg
      have ti := tie_in w.i1 g2
      have la : k.a.toNat < f.length := by omega
      have lb : k.b.toNat < f.length := by omega
      rw [at_, if_pos la] at g1
      rw [at_, if_pos lb] at g3
      have e := List.mem_singleton.mp g1
      have := g3 _ (List.mem_singleton.mpr rfl)
      rw [e] at this
      refine absurd ?_ this
      obtain ⟨ka, kx, kb, kw⟩ := k
      cases kw
      · exact h3 (kb, ka) g2 ti.2.1 (by show kb < ((n1.toNat : Nat) : Int); have := ti.2; simp only at this; omega) ti.1.1 (by show ka < ((n1.toNat : Nat) : Int); have := ti.1; simp only at this; omega)
      · exact h3 (ka, kb) g2 ti.1.1 (by show ka < ((n1.toNat : Nat) : Int); have := ti.1; simp only at this; omega) ti.2.1 (by show kb < ((n1.toNat : Nat) : Int); have := ti.2; simp only at this; omega)
  have sub : SubL (f.map fun x => [x]) L := fun a x hx => by
    rw [at_] at hx
    by_cases c : a.toNat < f.length
    · rw [if_pos c] at hx
      rw [List.mem_singleton.mp hx]
      have := h2 a.toNat (by omega)
      have e : rowAt L ((a.toNat : Nat) : Int) = rowAt L a := by unfold rowAt; rw [Int.toNat_natCast]
      rw [e] at this
      exact this
    · rw [if_neg c] at hx; cases hx
  intro i hi
  refine sub_ends cl sub hr i _ ?_
  rw [at_, Int.toNat_natCast, if_pos (by omega)]
  exact List.mem_singleton.mpr rfl
theorem gone_out : ∀ {ks : List Stk} {L : Lst}, runs t1 t2 L ks = true → k ∈ ks → k.x ∉ rowAt (endsL L ks) k.a
  | j :: ks, L, h, hk => by
    simp only [runs, Bool.and_eq_true] at h
    rcases List.mem_cons.mp hk with z | z
    · subst z
      intro hx
      have := ends_sub (L := strike L k) (ks := ks) _ _ hx
      rw [rowAt_strike, if_pos rfl] at this
      have := of_decide_eq_true (List.mem_filter.mp this).2
      exact this rfl
    · exact gone_out (L := strike L j) (ks := ks) h.2 z
end
theorem any_nil {L : Lst} : ((D.pys (L.map rowD)).any fun z => PyData.eqv z (D.tup []).py) = decide ([] ∈ L) := by
  induction L with
  | nil => rfl
  | cons r L ih =>
    show (PyData.eqv (.tuple (D.pys (r.map D.int))) (.tuple []) || (D.pys (L.map rowD)).any fun z => PyData.eqv z (D.tup []).py) = _
    rw [ih]
    cases r with
    | nil => show (true || _) = _; simp
    | cons x r =>
      have : PyData.eqv (.tuple (D.pys ((x :: r).map D.int))) (.tuple []) = false := rfl
      rw [this]
      simp
theorem nil_in {S : Store} {n m : Int} {L : Lst} (r : Rows n m L) (hm : m ≤ 1000000) : cpD S .isin (.tup []) (lsD L) = some (.bl (decide ([] ∈ L))) := by
  obtain ⟨h1, h2, _⟩ := pl_ls (k := 3) hm r.few r.inn
  show (inD S (.tup []) (L.map rowD)).map D.bl = _
  unfold inD
  rw [pyOk_pl (d := .tup []) rfl (by decide), pyOks_pl h1 (by omega)]
  exact congrArg (fun b => some (D.bl b)) any_nil
theorem notin_web {b : Int} {ts : List (Int × Int)} (hb : b ≤ 1000000) (ht : In b ts) (s : Store) {x y : Int} (hx : 0 ≤ x ∧ x < b) (hy : 0 ≤ y ∧ y < b) : cpD s .notin (.tup [.int x, .int y]) (.tup (ts.map ofPair)) = some (.bl (!decide ((x, y) ∈ ts))) := by
  show (inD s (ofPair (x, y)) (ts.map ofPair)).map noB = _
  rw [inD_pairs hb (p := (x, y)) ⟨hx, hy⟩ ht]
  rfl
end Wb

/-! A19: papers that no leading keeps lists. -/
namespace Wb
open PySem
def voidE (a : Int) : D := .tup [.str ("void" : Str), .int a]
def casesE (a : Int) (ps : List D) : D := .tup [.str ("cases" : Str), .int a, .tup ps]
def papD (ks : List Stk) (e : D) : D := .tup [.tup (ks.map stkD), e]
/-- a paper of at most so many levels that lists bear out -/
def RightP (t1 t2 : List (Int × Int)) (n1 : Int) : Nat → Lst → D → Prop
  | 0, _, _ => False
  | d + 1, L, p => ∃ ks a e, p = papD ks e ∧ runs t1 t2 L ks = true ∧ (0 ≤ a ∧ a < n1) ∧ ((e = voidE a ∧ rowAt (endsL L ks) a = []) ∨ ∃ ps : List D, e = casesE a ps ∧ ps.length = (rowAt (endsL L ks) a).length ∧ ∀ (j : Nat) x q, (rowAt (endsL L ks) a)[j]? = some x → ps[j]? = some q → RightP t1 t2 n1 d ((endsL L ks).set a.toNat [x]) q)
section
variable {t1 t2 : List (Int × Int)} {L M : Lst} {k : Stk} {ks js : List Stk} {n1 n2 a x : Int} {p e : D} {d : Nat} {m : Nat}
theorem Two.put (w : Two n1 t1 n2 t2 L) (hx : x ∈ rowAt L a) : Two n1 t1 n2 t2 (L.set a.toNat [x]) := by
  have r := w.rows
  refine ⟨w.a0, w.a1, w.b0, w.b1, w.i1, w.i2, w.f1, w.f2, by rw [List.length_set]; exact r.len, fun row h => ?_, fun row h => ?_⟩
  · rcases List.mem_or_eq_of_mem_set h with z | z
    · exact r.few _ z
    · rw [z]; simp
  · rcases List.mem_or_eq_of_mem_set h with z | z
    · exact r.inn _ z
    · rw [z]
      intro y hy
      rw [List.mem_singleton.mp hy]
      exact r.at_.2 _ hx
theorem enum_get : ∀ {xs : List D} {k : Int} {i : Nat} {d : D}, (enumL k xs)[i]? = some d → ∃ x, xs[i]? = some x ∧ d = .tup [.int (k + i), x]
  | [], k, i, d, h => by simp [enumL] at h
  | y :: xs, k, 0, d, h => by
    simp only [enumL, List.getElem?_cons_zero, Option.some.injEq] at h
    exact ⟨y, rfl, by rw [← h]; simp⟩
  | y :: xs, k, i + 1, d, h => by
    simp only [enumL, List.getElem?_cons_succ] at h
    obtain ⟨x, hx, e⟩ := enum_get h
    refine ⟨x, by simpa using hx, ?_⟩
    rw [e]
    congr 3
    omega
theorem enum_len : ∀ {xs : List D} {k : Int}, (enumL k xs).length = xs.length
  | [], _ => rfl
  | _ :: xs, k => by simp only [enumL, List.length_cons]; rw [enum_len]
theorem unders_all {ps : List D} (h : ∀ p ∈ ps, D.under m p = true) : D.unders m ps = true := by
  induction ps with
  | nil => rfl
  | cons p ps ih =>
    show (D.under m p && D.unders m ps) = true
    rw [h p (by simp), ih fun q hq => h q (List.mem_cons_of_mem _ hq)]
    rfl
theorem under_pap (h : D.under m e = true) : D.under m (papD ks e) = true := by
  show (D.unders m (ks.map stkD) && (D.under m e && true)) = true
  rw [under_stks, h]
  rfl
theorem right_under : ∀ {d : Nat} {L : Lst} {p : D}, RightP t1 t2 n1 d L p → D.under m p = true
  | 0, _, _, h => h.elim
  | d + 1, L, p, h => by
    obtain ⟨ks, a, e, rfl, h1, h2, h3⟩ := h
    rcases h3 with ⟨rfl, h4⟩ | ⟨ps, rfl, h4, h5⟩
    · exact under_pap rfl
    · refine under_pap ?_
      show (true && (true && (D.unders m ps && true))) = true
      rw [unders_all]
      · rfl
      · intro q hq
        obtain ⟨j, hj, rfl⟩ := List.mem_iff_getElem.mp hq
        exact right_under (h5 j _ _ (List.getElem?_eq_getElem (by omega)) (List.getElem?_eq_getElem hj))
theorem RightP.more : ∀ {d : Nat} {L : Lst} {p : D}, RightP t1 t2 n1 d L p → RightP t1 t2 n1 (d + 1) L p
  | 0, _, _, h => h.elim
  | d + 1, L, p, h => by
    obtain ⟨ks, a, e, rfl, h1, h2, h3⟩ := h
    refine ⟨ks, a, e, rfl, h1, h2, ?_⟩
    rcases h3 with h3 | ⟨ps, rfl, h4, h5⟩
    · exact .inl h3
    · exact .inr ⟨ps, rfl, h4, fun j x q hx hq => (h5 j x q hx hq).more⟩
theorem RightP.up {c : Nat} (h : RightP t1 t2 n1 d L p) (hc : d ≤ c) : RightP t1 t2 n1 c L p := by
  induction hc with
  | refl => exact h
  | step _ ih => exact ih.more
/-- a call that ends without telling anything -/
theorem call_pureN {P : List Fn} {F k f : Nat} {fn : Fn} {ds : List D} {s : Store} (hf : P[f]? = some fn) (hl : ds.length = fn.np)
    (h : Ok (evSs (call P F k) F fn.body (ds.map some ++ List.replicate (fn.nn - fn.np) none) s) fun o s1 => (o = .rt .non ∨ ∃ r, o = .nx r) ∧ Keep s s1) : call P F (k + 1) f ds s = .ok .non s := by
  obtain ⟨o, s1, h1, h3, h2⟩ := h
  have e : s1.take s.length = s := by
    refine List.ext_getElem? fun i => ?_
    by_cases c : i < s.length
    · rw [List.getElem?_take_of_lt c]; exact h2.old i c
    · rw [List.getElem?_eq_none (by simp; omega), List.getElem?_eq_none (by omega)]
  rcases h3 with rfl | ⟨r, rfl⟩
  · exact call_pure hf hl h1 e rfl
  · unfold call
    rw [hf]
    simp only
    rw [if_pos hl, h1]
    exact gc_pure e rfl
theorem ok_retN {cl : Nat → List D → Store → Res D} {F : Nat} {r : Wb.Env} {s : Store} {rest : List Wb.S} {Q : Out → Store → Prop} (h : Q (.rt .non) s) : Ok (evSs cl F (.retN :: rest) r s) Q := by
  refine ok_cons ?_
  rw [evS]
  exact ok_ok h
theorem vv {S : Store} : cpD S .eq (.str ("void" : Str)) (.str ("void" : Str)) = some (.bl true) := by
  show (some (decide _)).map D.bl = _
  rw [decide_eq_true rfl]; rfl
theorem cv {S : Store} : cpD S .eq (.str ("cases" : Str)) (.str ("void" : Str)) = some (.bl false) := by
  show (some (decide _)).map D.bl = _
  rw [decide_eq_false (by decide)]; rfl
theorem cc {S : Store} : cpD S .eq (.str ("cases" : Str)) (.str ("cases" : Str)) = some (.bl true) := by
  show (some (decide _)).map D.bl = _
  rw [decide_eq_true rfl]; rfl
theorem vc {S : Store} : cpD S .eq (.str ("void" : Str)) (.str ("cases" : Str)) = some (.bl false) := by
  show (some (decide _)).map D.bl = _
  rw [decide_eq_false (by decide)]; rfl
theorem way_tup {S : Store} (w : Bool) : cpD S .isin (wayD w) (.tup [.str "out", .str "in"]) = some (.bl true) := by
  show (inD S (wayD w) [.str "out", .str "in"]).map D.bl = _
  rw [way_two]; rfl
theorem row_len (h : 0 ≤ a ∧ a < n1) (r : Rows n1 n2 L) : a.toNat < L.length := by have := r.len; omega
theorem eq_nil {S : Store} {row : List Int} {m : Int} (hm : m ≤ 1000000) (h : ∀ y ∈ row, 0 ≤ y ∧ y < m) : eqD S (rowD row) (.tup []) = some (decide (row = [])) := by
  obtain ⟨h1, h2, _⟩ := pls_ints hm h
  have e : eqD S (rowD row) (.tup []) = (match pyOk S (rowD row), pyOk S (.tup []) with
    | some a, some b => some (PyData.eqv a b)
    | _, _ => none) := rfl
  rw [e, pyOk_pl (d := rowD row) h1 (by show D.dps (row.map D.int) + 1 ≤ 50; omega), pyOk_pl (d := .tup []) rfl (by decide)]
  cases row <;> rfl
theorem row_ne {S : Store} {row : List Int} {m : Int} (hm : m ≤ 1000000) (h : ∀ y ∈ row, 0 ≤ y ∧ y < m) : cpD S .ne (rowD row) (.tup []) = some (.bl (!decide (row = []))) := by
  show (eqD S (rowD row) (.tup [])).map noB = _
  rw [eq_nil hm h]; rfl
theorem row_eq {S : Store} {row : List Int} {m : Int} (hm : m ≤ 1000000) (h : ∀ y ∈ row, 0 ≤ y ∧ y < m) : cpD S .eq (rowD row) (.tup []) = some (.bl (decide (row = []))) := by
  show (eqD S (rowD row) (.tup [])).map D.bl = _
  rw [eq_nil hm h]; rfl
theorem no_false {S : Store} {α : Type} (l : List α) : inD S (.bl false) (l.map fun _ => D.bl true) = some false := by
  have h : ∀ l : List α, D.pls (l.map fun _ => D.bl true) = true ∧ D.dps (l.map fun _ => D.bl true) = 0 ∧ ((D.pys (l.map fun _ => D.bl true)).any fun z => PyData.eqv z (D.bl false).py) = false := fun l => by
    induction l with
    | nil => exact ⟨rfl, rfl, rfl⟩
    | cons x l ih =>
      obtain ⟨h1, h2, h3⟩ := ih
      refine ⟨?_, ?_, ?_⟩
      · show (true && D.pls (l.map fun _ => D.bl true)) = true
        rw [h1]; rfl
      · show max 0 (D.dps (l.map fun _ => D.bl true)) = 0
        rw [h2]; rfl
      · show (PyData.eqv (.bool true) (.bool false) || _) = false
        rw [h3]; rfl
  obtain ⟨h1, h2, h3⟩ := h l
  unfold inD
  rw [pyOk_pl (d := .bl false) rfl (by decide), pyOks_pl h1 (by omega)]
  exact congrArg some h3
theorem cut_mid {α : Type} {l : List α} {j : Nat} {x : α} (h : l[j]? = some x) : cut l (some (j : Int)) (some ((j : Int) + 1)) = [x] := by
  have hj := (List.getElem?_eq_some_iff.mp h).1
  unfold cut
  rw [show (j : Int) + 1 = ((j + 1 : Nat) : Int) by omega, HT.sIx_nat, HT.sIx_nat, Nat.min_eq_left (by omega), Nat.min_eq_left (by omega), List.drop_eq_getElem_cons hj]
  have e : j + 1 - j = 1 := by omega
  rw [e]
  have := (List.getElem?_eq_some_iff.mp h).2
  simp [this]
theorem nil_notin {S : Store} {n m : Int} {L : Lst} (r : Rows n m L) (hm : m ≤ 1000000) : cpD S .notin (.tup []) (lsD L) = some (.bl (!decide ([] ∈ L))) := by
  obtain ⟨h1, h2, _⟩ := pl_ls (k := 3) hm r.few r.inn
  show (inD S (.tup []) (L.map rowD)).map noB = _
  unfold inD
  rw [pyOk_pl (d := .tup []) rfl (by decide), pyOks_pl h1 (by omega)]
  exact congrArg (fun b => some (D.bl (!b))) any_nil
theorem nil_at {L : Lst} : [] ∈ L ↔ ∃ i : Nat, i < L.length ∧ rowAt L (i : Int) = [] := by
  constructor
  · intro h
    obtain ⟨i, hi, e⟩ := List.mem_iff_getElem.mp h
    refine ⟨i, hi, ?_⟩
    unfold rowAt
    rw [Int.toNat_natCast, List.getD_eq_getElem?_getD, List.getElem?_eq_getElem hi, e]; rfl
  · rintro ⟨i, hi, e⟩
    unfold rowAt at e
    rw [Int.toNat_natCast, List.getD_eq_getElem?_getD, List.getElem?_eq_getElem hi] at e
    have : L[i] = [] := e
    rw [← this]
    exact List.getElem_mem hi
theorem len_row {S : Store} {row : List Int} : bltD S .len [rowD row] = some (.int row.length) := by
  show some (D.int ((row.map D.int).length : Nat)) = _
  rw [List.length_map]
end
end Wb

/-! A20: all leadings, in their order; the first one. -/
namespace Wb
open PySem
/-- all tuples with a thing of each list, in their order -/
def consT : Lst → List (List Int)
  | [] => [[]]
  | r :: L => r.flatMap fun x => (consT L).map (x :: ·)
def pairIn (t2 : List (Int × Int)) (f : List Int) (p : Int × Int) : Bool := decide ((f.getD p.1.toNat 0, f.getD p.2.toNat 0) ∈ t2)
def leadsB (t1 t2 : List (Int × Int)) (f : List Int) : Bool := t1.all (pairIn t2 f)
def upB (t1 t2 : List (Int × Int)) (a : Nat) (f : List Int) : Bool := t1.all fun p => !(decide (p.1 < (a : Int)) && decide (p.2 < (a : Int))) || pairIn t2 f p
def allL (t1 t2 : List (Int × Int)) (L : Lst) : List (List Int) := (consT L).filter (leadsB t1 t2)
def nearB (t1 t2 : List (Int × Int)) (a : Nat) (f : List Int) : Bool := (nearL t1 (a : Int)).all (pairIn t2 f)
def ext (t1 t2 : List (Int × Int)) (a : Nat) (row : List Int) (f : List Int) : List (List Int) := (row.filter fun x => nearB t1 t2 a (f ++ [x])).map fun x => f ++ [x]
section
variable {t1 t2 : List (Int × Int)} {L M : Lst} {k : Stk} {ks js : List Stk} {n1 n2 : Int} {f : List Int} {a : Nat} {x : Int} {row : List Int}
theorem consT_app : ∀ {L : Lst}, consT (L ++ [row]) = (consT L).flatMap fun f => row.map fun x => f ++ [x]
  | [] => by
    simp only [consT, List.nil_append, List.map_cons, List.map_nil, List.flatMap_cons, List.flatMap_nil, List.append_nil]
    induction row with
    | nil => rfl
    | cons x r ih => simp only [List.flatMap_cons, List.map_cons, ih]; rfl
  | r :: L => by
    simp only [List.cons_append, consT, consT_app (L := L), List.flatMap_assoc]
    congr 1
    funext x
    rw [List.map_flatMap, List.flatMap_map]
    congr 1
    funext f
    rw [List.map_map]
    rfl
theorem mem_consT : ∀ {L : Lst} {f : List Int}, f ∈ consT L ↔ f.length = L.length ∧ ∀ i : Nat, i < L.length → f.getD i 0 ∈ rowAt L (i : Int)
  | [], f => by
    simp only [consT, List.mem_singleton, List.length_nil]
    constructor
    · rintro rfl; exact ⟨rfl, fun i hi => absurd hi (by omega)⟩
    · rintro ⟨h, _⟩; exact List.eq_nil_of_length_eq_zero h
  | r :: L, f => by
    simp only [consT, List.mem_flatMap, List.mem_map]
    constructor
    · rintro ⟨x, hx, g, hg, rfl⟩
      obtain ⟨h1, h2⟩ := mem_consT.mp hg
      refine ⟨by simp [h1], fun i hi => ?_⟩
      cases i with
      | zero => exact hx
      | succ i =>
        have := h2 i (by simpa using hi)
        unfold rowAt at this ⊢
        rw [Int.toNat_natCast] at this ⊢
        simpa using this
    · rintro ⟨h1, h2⟩
      cases f with
      | nil => simp at h1
      | cons x g =>
        refine ⟨x, h2 0 (by simp), g, mem_consT.mpr ⟨by simpa using h1, fun i hi => ?_⟩, rfl⟩
        have := h2 (i + 1) (by simpa using hi)
        unfold rowAt at this ⊢
        rw [Int.toNat_natCast] at this ⊢
        simpa using this
theorem consT_nil (h : [] ∈ L) : consT L = [] := by
  obtain ⟨i, hi, e⟩ := nil_at.mp h
  refine List.eq_nil_iff_forall_not_mem.mpr fun f hf => ?_
  have := (mem_consT.mp hf).2 i hi
  rw [e] at this
  cases this
theorem flat_filter {α β : Type} {g : α → List β} {q : β → Bool} {p : α → Bool} (h : ∀ y, (g y).filter q = if p y then g y else []) : ∀ r : List α, (r.filter p).flatMap g = (r.flatMap g).filter q
  | [] => rfl
  | y :: r => by
    rw [List.flatMap_cons, List.filter_append, h y, List.filter_cons, ← flat_filter h r]
    cases p y
    · rfl
    · simp
theorem all_cong {α : Type} {f g : α → Bool} : ∀ {l : List α}, (∀ p ∈ l, f p = g p) → l.all f = l.all g
  | [], _ => rfl
  | x :: l, h => by
    rw [List.all_cons, List.all_cons, h x (by simp), all_cong fun p hp => h p (List.mem_cons_of_mem _ hp)]
/-- one list made less -/
theorem consT_less (p : Int → Bool) : ∀ {L : Lst} {i : Nat}, i < L.length → consT (L.set i ((rowAt L (i : Int)).filter p)) = (consT L).filter fun f => p (f.getD i 0)
  | [], i, h => absurd h (by simp)
  | r :: L, 0, _ => by
    have e : rowAt (r :: L) ((0 : Nat) : Int) = r := rfl
    rw [e]
    simp only [List.set_cons_zero, consT]
    refine flat_filter (fun y => ?_) r
    rw [List.filter_map]
    cases h : p y
    · have : ((fun f : List Int => p (f.getD 0 0)) ∘ (y :: ·)) = fun _ => false := by funext g; exact h
      rw [this]; simp
    · have : ((fun f : List Int => p (f.getD 0 0)) ∘ (y :: ·)) = fun _ => true := by funext g; exact h
      rw [this, List.filter_eq_self.mpr fun _ _ => rfl]; rfl
  | r :: L, i + 1, h => by
    have e : rowAt (r :: L) ((i + 1 : Nat) : Int) = rowAt L (i : Int) := by unfold rowAt; rw [Int.toNat_natCast, Int.toNat_natCast]; rfl
    rw [e]
    simp only [List.set_cons_succ, consT, consT_less p (L := L) (i := i) (by simpa using h), List.filter_flatMap]
    congr 1
    funext x
    rw [List.filter_map]
    congr 1
theorem upB_all (h : In n1 t1) (hl : (n1 : Int) = (a : Int)) : upB t1 t2 a f = leadsB t1 t2 f := by
  unfold upB leadsB
  refine all_cong fun p hp => ?_
  have := h p hp
  rw [decide_eq_true (show p.1 < (a : Int) by omega), decide_eq_true (show p.2 < (a : Int) by omega)]
  rfl
theorem up_nil (h : In n1 t1) : ([[]] : List (List Int)) = (consT ([] : Lst)).filter (upB t1 t2 0) := by
  have : upB t1 t2 0 [] = true := by
    unfold upB
    refine List.all_eq_true.mpr fun p hp => ?_
    have := h p hp
    rw [decide_eq_false (show ¬ p.1 < ((0 : Nat) : Int) by omega)]
    rfl
  simp [consT, this]
theorem pair_app {p : Int × Int} (h1 : p.1 < (f.length : Int)) (h2 : p.2 < (f.length : Int)) (h3 : 0 ≤ p.1) (h4 : 0 ≤ p.2) : pairIn t2 (f ++ [x]) p = pairIn t2 f p := by
  unfold pairIn
  rw [getD_app, getD_app, if_pos (by omega), if_pos (by omega)]
theorem upB_more (h : In n1 t1) (hf : f.length = a) : upB t1 t2 (a + 1) (f ++ [x]) = (upB t1 t2 a f && nearB t1 t2 a (f ++ [x])) := by
  rw [Bool.eq_iff_iff, Bool.and_eq_true]
  unfold upB nearB
  simp only [List.all_eq_true, Bool.or_eq_true, Bool.not_eq_true', Bool.and_eq_false_iff, decide_eq_false_iff_not]
  constructor
  · intro q
    refine ⟨fun p hp => ?_, fun p hp => ?_⟩
    · have hin := h p hp
      rcases q p hp with z | z
      · left; omega
      · by_cases c : p.1 < (a : Int) ∧ p.2 < (a : Int)
        · right
          rw [pair_app (by omega) (by omega) hin.1.1 hin.2.1] at z
          exact z
        · left; omega
    · obtain ⟨h1, h2, h3⟩ := near_lt hp
      rcases q p h1 with z | z
      · exfalso; omega
      · exact z
  · rintro ⟨q1, q2⟩ p hp
    have hin := h p hp
    by_cases c : p ∈ nearL t1 (a : Int)
    · right; exact q2 p c
    · have hc : ¬ (if p.1 < p.2 then p.2 else p.1) = (a : Int) := fun z => c (List.mem_filter.mpr ⟨hp, decide_eq_true z⟩)
      rcases q1 p hp with z | z
      · left
        split at hc <;> omega
      · by_cases d : p.1 < (a : Int) ∧ p.2 < (a : Int)
        · right
          rw [pair_app (by omega) (by omega) hin.1.1 hin.2.1]
          exact z
        · left
          split at hc <;> omega
/-- one place more -/
theorem all_more (h : In n1 t1) (hl : L.length = a) : (consT (L ++ [row])).filter (upB t1 t2 (a + 1)) = ((consT L).filter (upB t1 t2 a)).flatMap (ext t1 t2 a row) := by
  rw [consT_app]
  have hlen : ∀ f ∈ consT L, f.length = a := fun f hf => (mem_consT.mp hf).1.trans hl
  generalize consT L = fs at hlen
  induction fs with
  | nil => rfl
  | cons f fs ih =>
    have hf := hlen f (by simp)
    rw [List.flatMap_cons, List.filter_append, ih fun g hg => hlen g (List.mem_cons_of_mem _ hg), List.filter_cons]
    have e : (row.map fun x => f ++ [x]).filter (upB t1 t2 (a + 1)) = if upB t1 t2 a f then ext t1 t2 a row f else [] := by
      rw [List.filter_map]
      have e1 : (upB t1 t2 (a + 1) ∘ fun x => f ++ [x]) = fun x => upB t1 t2 a f && nearB t1 t2 a (f ++ [x]) := by
        funext x; exact upB_more h hf
      rw [e1]
      unfold ext
      cases upB t1 t2 a f <;> simp
    rw [e]
    cases upB t1 t2 a f <;> simp
theorem ext_take {i : Nat} (h : row[i]? = some x) : ext t1 t2 a (row.take (i + 1)) f = ext t1 t2 a (row.take i) f ++ if nearB t1 t2 a (f ++ [x]) then [f ++ [x]] else [] := by
  unfold ext
  rw [List.take_succ, h, List.filter_append, List.map_append]
  congr 1
  rw [Option.toList_some, List.filter_cons]
  cases nearB t1 t2 a (f ++ [x]) <;> rfl
theorem lead_pre (h : f ∈ allL t1 t2 L) (hi : In n1 t1) (hl : (L.length : Int) = n1) : PreL t1 t2 L L.length f := by
  obtain ⟨h1, h2⟩ := List.mem_filter.mp h
  obtain ⟨h3, h4⟩ := mem_consT.mp h1
  exact ⟨h3, h4, fun p hp _ _ _ _ => of_decide_eq_true (List.all_eq_true.mp h2 p hp)⟩
/-- a strike that goes takes no leading -/
theorem all_strike (w : Two n1 t1 n2 t2 L) (g : goesB t1 t2 L k = true) : allL t1 t2 (strike L k) = allL t1 t2 L := by
  have hs := goes_in w.i1 w.rows g
  have hl := w.rows.len
  unfold allL strike
  have ha := hs.ha
  have e1 : rowAt L k.a = rowAt L ((k.a.toNat : Nat) : Int) := by rw [show ((k.a.toNat : Nat) : Int) = k.a by omega]
  rw [e1, consT_less _ (by omega), List.filter_filter]
  refine List.filter_congr fun f hf => ?_
  cases hb : leadsB t1 t2 f with
  | false => rfl
  | true =>
    rw [Bool.true_and]
    refine decide_eq_true fun z => ?_
    obtain ⟨g1, g2, g3⟩ := goes_iff.mp g
    obtain ⟨f1, f2⟩ := mem_consT.mp hf
    have hb' := hs.hb
    have ib := f2 k.b.toNat (by omega)
    rw [show ((k.b.toNat : Nat) : Int) = k.b by omega] at ib
    have := g3 _ ib
    have q := of_decide_eq_true (List.all_eq_true.mp hb _ g2)
    obtain ⟨ka, kx, kb, kw⟩ := k
    cases kw
    · exact this (by show (f.getD kb.toNat 0, kx) ∈ t2; rw [show kx = f.getD ka.toNat 0 from z.symm]; exact q)
    · exact this (by show (kx, f.getD kb.toNat 0) ∈ t2; rw [show kx = f.getD ka.toNat 0 from z.symm]; exact q)
theorem all_ends : ∀ {ks : List Stk} {L : Lst}, Two n1 t1 n2 t2 L → runs t1 t2 L ks = true → allL t1 t2 (endsL L ks) = allL t1 t2 L
  | [], _, _, _ => rfl
  | k :: ks, L, w, h => by
    simp only [runs, Bool.and_eq_true] at h
    rw [ends_cons, all_ends w.strike h.2, all_strike w h.1]
theorem all_nil (h : [] ∈ L) : allL t1 t2 L = [] := by unfold allL; rw [consT_nil h]; rfl
def heads (L : Lst) : List Int := L.map fun r => r.headD 0
theorem consT_one : ∀ {L : Lst}, (∀ r ∈ L, r.length = 1) → consT L = [heads L]
  | [], _ => rfl
  | r :: L, h => by
    have hr := h r (by simp)
    obtain ⟨x, rfl⟩ := List.length_eq_one_iff.mp hr
    simp only [consT, consT_one fun r hr => h r (List.mem_cons_of_mem _ hr)]
    rfl
theorem one_lead (w : Two n1 t1 n2 t2 L) (c : Closed t1 t2 L) (h : ∀ r ∈ L, r.length = 1) : allL t1 t2 L = [heads L] := by
  unfold allL
  rw [consT_one h]
  have hl := w.rows.len
  have at_ : ∀ i : Nat, i < L.length → rowAt L (i : Int) = [(heads L).getD i 0] := fun i hi => by
    obtain ⟨x, hx⟩ := List.length_eq_one_iff.mp (h _ (List.getElem_mem hi))
    have e1 : rowAt L (i : Int) = L[i] := by unfold rowAt; rw [Int.toNat_natCast, List.getD_eq_getElem?_getD, List.getElem?_eq_getElem hi]; rfl
    have e2 : (heads L).getD i 0 = (L[i]).headD 0 := by unfold heads; rw [List.getD_eq_getElem?_getD, List.getElem?_map, List.getElem?_eq_getElem hi]; rfl
    rw [e1, e2, hx]
    rfl
  have : leadsB t1 t2 (heads L) = true := by
    unfold leadsB
    refine List.all_eq_true.mpr fun p hp => decide_eq_true ?_
    have hin := w.i1 p hp
    have a1 := at_ p.1.toNat (by omega)
    have a2 := at_ p.2.toNat (by omega)
    rw [show ((p.1.toNat : Nat) : Int) = p.1 by omega] at a1
    rw [show ((p.2.toNat : Nat) : Int) = p.2 by omega] at a2
    have := c ⟨p.1, (heads L).getD p.1.toNat 0, p.2, true⟩
    cases hd : decide (((heads L).getD p.1.toNat 0, (heads L).getD p.2.toNat 0) ∈ t2) with
    | true => exact of_decide_eq_true hd
    | false =>
      have : goesB t1 t2 L ⟨p.1, (heads L).getD p.1.toNat 0, p.2, true⟩ = true := by
        refine goes_iff.mpr ⟨?_, hp, fun y hy => ?_⟩
        · show _ ∈ rowAt L p.1
          rw [a1]; simp
        · have hy : y ∈ rowAt L p.2 := hy
          rw [a2, List.mem_singleton] at hy
          subst hy
          exact of_decide_eq_false hd
      rw [c] at this
      cases this
  simp [this]
/-- by the things of one list, where all lists ahead of it have one thing -/
theorem consT_by : ∀ {L : Lst} {i : Nat}, i < L.length → (∀ j : Nat, j < i → (rowAt L (j : Int)).length = 1) → consT L = (rowAt L (i : Int)).flatMap fun x => consT (L.set i [x])
  | [], i, h, _ => absurd h (by simp)
  | r :: L, 0, _, _ => by
    have e : rowAt (r :: L) ((0 : Nat) : Int) = r := rfl
    rw [e]
    simp only [consT, List.set_cons_zero, List.flatMap_cons, List.flatMap_nil, List.append_nil]
  | r :: L, i + 1, h, h1 => by
    have e : rowAt (r :: L) ((i + 1 : Nat) : Int) = rowAt L (i : Int) := by unfold rowAt; rw [Int.toNat_natCast, Int.toNat_natCast]; rfl
    have hr := h1 0 (by omega)
    obtain ⟨y, hy⟩ := List.length_eq_one_iff.mp hr
    have hy : r = [y] := hy
    subst hy
    rw [e]
    simp only [consT, List.set_cons_succ, List.flatMap_cons, List.flatMap_nil, List.append_nil]
    rw [consT_by (L := L) (i := i) (by simpa using h) fun j hj => by
      have := h1 (j + 1) (by omega)
      have e : rowAt ([y] :: L) ((j + 1 : Nat) : Int) = rowAt L (j : Int) := by unfold rowAt; rw [Int.toNat_natCast, Int.toNat_natCast]; rfl
      rw [e] at this
      exact this]
    rw [List.map_flatMap]
theorem all_by {i : Nat} (hi : i < L.length) (h : ∀ j : Nat, j < i → (rowAt L (j : Int)).length = 1) : allL t1 t2 L = (rowAt L (i : Int)).flatMap fun x => allL t1 t2 (L.set i [x]) := by
  unfold allL
  rw [consT_by hi h, List.filter_flatMap]
theorem tot_put {i : Nat} (hi : i < L.length) (h : 1 < (rowAt L (i : Int)).length) : tot (L.set i [x]) < tot L := by
  have := tot_set (r := [x]) hi
  have e : rowAt L (i : Int) = L[i] := by unfold rowAt; rw [Int.toNat_natCast, List.getD_eq_getElem?_getD, List.getElem?_eq_getElem hi]; rfl
  rw [e] at h
  simp only [List.length_cons, List.length_nil] at this
  omega
theorem enum_map : enumL 0 (L.map rowD) = (List.range L.length).map fun i : Nat => D.tup [.int (i : Int), rowD (rowAt L (i : Int))] := by
  have key : ∀ {L : Lst} {k : Nat}, enumL (k : Int) (L.map rowD) = (List.range L.length).map fun i : Nat => D.tup [.int ((k + i : Nat) : Int), rowD (rowAt L (i : Int))] := fun {L} => by
    induction L with
    | nil => intro k; rfl
    | cons r L ih =>
      intro k
      have := ih (k := k + 1)
      simp only [List.map_cons, enumL, List.length_cons]
      rw [show ((k : Int) + 1) = ((k + 1 : Nat) : Int) by omega, this, List.range_succ_eq_map, List.map_cons, List.map_map]
      refine congr (congrArg _ ?_) ?_
      · rfl
      · refine List.map_congr_left fun i _ => ?_
        have e : rowAt (r :: L) ((i + 1 : Nat) : Int) = rowAt L (i : Int) := by unfold rowAt; rw [Int.toNat_natCast, Int.toNat_natCast]; rfl
        show _ = D.tup [.int ((k + (i + 1) : Nat) : Int), rowD (rowAt (r :: L) ((i + 1 : Nat) : Int))]
        rw [e, show k + (i + 1) = k + 1 + i by omega]
  have := key (L := L) (k := 0)
  simp only [Nat.zero_add] at this
  exact this
theorem flat_head {α β : Type} {g : α → List β} {f : β} : ∀ {row : List α} {i : Nat} {x : α}, row[i]? = some x → (∀ y ∈ row.take i, g y = []) → (g x).head? = some f → (row.flatMap g).head? = some f
  | [], i, x, h, _, _ => by simp at h
  | y :: row, 0, x, h, _, hf => by
    have : y = x := by simpa using h
    subst this
    rw [List.flatMap_cons, List.head?_append, hf]; rfl
  | y :: row, i + 1, x, h, h0, hf => by
    rw [List.flatMap_cons, h0 y (by simp), List.nil_append]
    exact flat_head (by simpa using h) (fun z hz => h0 z (by simp [hz])) hf
theorem flat_none {α β : Type} {g : α → List β} : ∀ {row : List α}, (∀ y ∈ row, g y = []) → row.flatMap g = []
  | [], _ => rfl
  | y :: row, h => by rw [List.flatMap_cons, h y (by simp), flat_none fun z hz => h z (by simp [hz])]; rfl
def LedR (t1 t2 : List (Int × Int)) (n1 : Int) (L : Lst) (d : D) : Prop := (∃ f, d = .tup [.str ("leading" : Str), rowD f] ∧ (allL t1 t2 L).head? = some f) ∨ ∃ p, d = .tup [.str ("none" : Str), p] ∧ allL t1 t2 L = [] ∧ RightP t1 t2 n1 (tot L + 1) L p
theorem lay_lead : (PyData.str ("leading" : Str)).canLay0 = true ∧ (PyData.str ("leading" : Str)).showable = true ∧ (PyData.str ("leading" : Str)).leavesShort 8 = true ∧ (PyData.str ("leading" : Str)).weight ≤ 100 := by decide +kernel
theorem repr_lead {m : Int} (hm : m ≤ 1000000) (hl : f.length ≤ 100) (hf : ∀ x ∈ f, 0 ≤ x ∧ x < m) : ∃ X, ∀ S, reprD S (.tup [.str ("leading" : Str), rowD f]) = some (.str X) := by
  obtain ⟨h1, h2, h3⟩ := pls_ints hm hf
  have hp : (rowD f).pl = true := h1
  have hd : (rowD f).dp ≤ 1 := by show D.dps (f.map D.int) + 1 ≤ 1; omega
  have hn : (rowD f).nds ≤ 101 := by show D.ndss (f.map D.int) + 1 ≤ 101; omega
  obtain ⟨a1, a2, a3, a4, a5⟩ := py_lay _ hp
  obtain ⟨b1, b2, b3, b4⟩ := lay_lead
  refine ⟨(PyData.tuple [.str ("leading" : Str), (rowD f).py]).shown, fun S => ?_⟩
  have e : toPy S 60 (.tup [.str ("leading" : Str), rowD f]) = some (.tuple [.str ("leading" : Str), (rowD f).py]) := by
    show Option.map PyData.tuple (mapO (toPy S 59) [.str ("leading" : Str), rowD f]) = _
    have e1 : toPy S 59 (.str ("leading" : Str)) = some (.str ("leading" : Str)) := rfl
    have e2 := toPy_pl (S := S) 59 _ hp (by omega)
    simp only [mapO, e1, e2]
    rfl
  unfold reprD pyOk
  rw [e]
  have sh : SeqAt.shaped (.tuple [.str ("leading" : Str), (rowD f).py]) = true := by
    unfold SeqAt.shaped
    have : (PyData.tuple [.str ("leading" : Str), (rowD f).py]).canLay0 = true := by
      show (PyData.canLay0 (.str ("leading" : Str)) && ((rowD f).py.canLay0 && true)) = true
      rw [b1, a1]; rfl
    rw [this, Bool.true_and]
    refine decide_eq_true ?_
    show max 0 (max (rowD f).py.depth 0) + 1 ≤ 64
    omega
  have s3 : (PyData.tuple [.str ("leading" : Str), (rowD f).py]).showable = true := by
    show (PyData.showable (.str ("leading" : Str)) && ((rowD f).py.showable && true)) = true
    rw [b2, a3]; rfl
  have s4 : (PyData.tuple [.str ("leading" : Str), (rowD f).py]).leavesShort 8 = true := by
    show (PyData.leavesShort 8 (.str ("leading" : Str)) && (PyData.leavesShort 8 (rowD f).py && true)) = true
    rw [b3, a4]; rfl
  simp only [sh, if_true, s3, Bool.true_and]
  rw [if_pos (shown_few s4 (by
    simp only [PyData.weight, PyData.weightAll] at b4 ⊢
    omega))]
end
end Wb

/-! A21: lists with at most so many things each. -/
namespace Wb
open PySem
structure RowsC (c : Nat) (n m : Int) (L : List (List Int)) : Prop where
  len : L.length = n.toNat
  few : ∀ row ∈ L, row.length ≤ c
  inn : ∀ row ∈ L, ∀ x ∈ row, 0 ≤ x ∧ x < m
def rowA (c : Nat) (m : Int) : AV → Bool
  | .tup as => as.all (intIn m) && decide (as.length ≤ c)
  | .tupO es => es.all (fun e => intIn m e.2) && decide (es.length ≤ c)
  | .seq a _ hi _ => (decide (hi = 0) || intIn m a) && decide (hi ≤ c)
  | _ => false
theorem rowA_ok {c : Nat} {m : Int} {a : AV} {d : D} (h : rowA c m a = true) (hm : mem a d = true) : ∃ xs : List Int, d = rowD xs ∧ (∀ x ∈ xs, 0 ≤ x ∧ x < m) ∧ xs.length ≤ c := by
  cases a <;> simp only [rowA] at h <;> try (cases h; done)
  case tup as =>
    simp only [Bool.and_eq_true, decide_eq_true_eq] at h
    cases d <;> simp only [mem] at hm <;> try (cases hm; done)
    obtain ⟨xs, rfl, h1, h2⟩ := mems_row h.1 hm
    exact ⟨xs, rfl, h1, by omega⟩
  case tupO es =>
    simp only [Bool.and_eq_true, decide_eq_true_eq] at h
    cases d <;> simp only [mem] at hm <;> try (cases hm; done)
    obtain ⟨xs, rfl, h1, h2⟩ := memO_row h.1 hm
    exact ⟨xs, rfl, h1, by omega⟩
  case seq a lo hi o =>
    simp only [Bool.and_eq_true, decide_eq_true_eq, Bool.or_eq_true] at h
    cases d <;> simp only [mem] at hm <;> try (cases hm; done)
    next ds =>
    simp only [Bool.and_eq_true, decide_eq_true_eq] at hm
    rcases h.1 with z | z
    · have : ds = [] := List.eq_nil_of_length_eq_zero (by omega)
      subst this
      exact ⟨[], rfl, (fun _ h => nomatch h), Nat.zero_le _⟩
    · obtain ⟨xs, rfl, h1⟩ := seq_row z hm.1.1.1
      exact ⟨xs, rfl, h1, by have := hm.1.2; rw [List.length_map] at this; omega⟩
def lsA (c : Nat) (n m : Int) : AV → Bool
  | .tup rows => decide (rows.length = n.toNat) && rows.all fun r => r.alts.all (rowA c m)
  | _ => false
theorem mems_lsC {c : Nat} {m : Int} : ∀ {as : List AV} {ds : List D}, (as.all fun r => r.alts.all (rowA c m)) = true → mems as ds = true → ∃ L : List (List Int), ds = L.map rowD ∧ L.length = as.length ∧ (∀ row ∈ L, row.length ≤ c) ∧ ∀ row ∈ L, ∀ x ∈ row, 0 ≤ x ∧ x < m
  | [], ds, _, h => by
    cases ds with
    | nil => exact ⟨[], rfl, rfl, (fun _ h => nomatch h), fun _ h => nomatch h⟩
    | cons _ _ => simp [mems] at h
  | a :: as, ds, h, hm => by
    cases ds with
    | nil => simp [mems] at hm
    | cons d r =>
      simp only [mems, Bool.and_eq_true] at hm
      simp only [List.all_cons, Bool.and_eq_true] at h
      obtain ⟨b, hb, mb⟩ := alts_mem hm.1
      obtain ⟨xs, rfl, h1, h2⟩ := rowA_ok (List.all_eq_true.mp h.1 b hb) mb
      obtain ⟨L, rfl, h3, h4, h5⟩ := mems_lsC h.2 hm.2
      refine ⟨xs :: L, rfl, by simp [h3], fun row hr => ?_, fun row hr => ?_⟩
      · rcases List.mem_cons.mp hr with z | z
        · rw [z]; exact h2
        · exact h4 row z
      · rcases List.mem_cons.mp hr with z | z
        · rw [z]; exact h1
        · exact h5 row z
def lsXA (c : Nat) (n m : Int) (T : Nat) (r : Option (XV × Nat)) : Bool := match r with
  | some (.fl a, t) => a.alts.all (lsA c n m) && decide (t ≤ T)
  | _ => false
theorem lsXA_ok {c : Nat} {n m : Int} {T : Nat} {r : Option (XV × Nat)} (h : lsXA c n m T r = true) : ∃ x t, r = some (x, t) ∧ t ≤ T ∧ ∀ s d, Hold s x d → ∃ L, d = lsD L ∧ RowsC c n m L := by
  unfold lsXA at h
  split at h
  · next a t =>
    simp only [Bool.and_eq_true, decide_eq_true_eq, List.all_eq_true] at h
    refine ⟨_, t, rfl, h.2, fun s d m => ?_⟩
    obtain ⟨b, hb, mb⟩ := alts_mem m
    have hb := h.1 b hb
    cases b <;> simp only [lsA] at hb <;> try (cases hb; done)
    next rows =>
    simp only [Bool.and_eq_true, decide_eq_true_eq] at hb
    cases d <;> simp only [mem] at mb <;> try (cases mb; done)
    obtain ⟨L, rfl, h3, h4, h5⟩ := mems_lsC hb.2 mb
    exact ⟨L, rfl, h3.trans hb.1, h4, h5⟩
  · cases h
/-- two webs and lists of which all tuples can be gone through -/
structure Lz (n1 : Int) (t1 : List (Int × Int)) (n2 : Int) (t2 : List (Int × Int)) (L : Lst) : Prop where
  a0 : 0 ≤ n1
  a1 : n1 ≤ 100
  b0 : 0 ≤ n2
  b1 : n2 ≤ 100
  i1 : In n1 t1
  i2 : In n2 t2
  f1 : t1.length ≤ 1000
  f2 : t2.length ≤ 1000
  len : L.length = n1.toNat
  few : ∀ row ∈ L, row.length ≤ 50
  inn : ∀ row ∈ L, ∀ x ∈ row, 0 ≤ x ∧ x < n2
  all : ∀ i : Nat, (consT (L.take i)).length ≤ 10000
section
variable {n1 n2 a x : Int} {t1 t2 : List (Int × Int)} {L : Lst} {row f : List Int} {c : Nat}
theorem flat_len {α β : Type} {g : α → List β} {k : Nat} : ∀ {l : List α}, (∀ x ∈ l, (g x).length ≤ k) → (l.flatMap g).length ≤ l.length * k
  | [], _ => by simp
  | x :: l, h => by
    rw [List.flatMap_cons, List.length_append, List.length_cons, Nat.add_mul, Nat.one_mul]
    have := h x (by simp)
    have := flat_len fun y hy => h y (List.mem_cons_of_mem _ hy)
    omega
theorem consT_len : ∀ {L : Lst}, (∀ row ∈ L, row.length ≤ c) → (consT L).length ≤ c ^ L.length
  | [], _ => by simp [consT]
  | r :: L, h => by
    have h1 := consT_len (L := L) fun row hr => h row (List.mem_cons_of_mem _ hr)
    have h2 := h r (by simp)
    simp only [consT, List.length_cons, Nat.pow_succ]
    have := flat_len (g := fun x => (consT L).map (x :: ·)) (k := (consT L).length) (l := r) fun x _ => by simp
    exact Nat.le_trans this (by rw [Nat.mul_comm]; exact Nat.mul_le_mul h1 h2)
theorem Lz.rowIn (w : Lz n1 t1 n2 t2 L) : (rowAt L a).length ≤ 50 ∧ ∀ x ∈ rowAt L a, 0 ≤ x ∧ x < n2 := by
  by_cases c : a.toNat < L.length
  · have e : rowAt L a = L[a.toNat] := by unfold rowAt; rw [List.getD_eq_getElem?_getD, List.getElem?_eq_getElem c]; rfl
    rw [e]
    exact ⟨w.few _ (List.getElem_mem c), w.inn _ (List.getElem_mem c)⟩
  · have e : rowAt L a = [] := by unfold rowAt; rw [List.getD_eq_getElem?_getD, List.getElem?_eq_none (by omega)]; rfl
    rw [e]
    exact ⟨by simp, fun _ h => nomatch h⟩
theorem Lz.at_ {S : Store} (w : Lz n1 t1 n2 t2 L) (h : 0 ≤ a ∧ a < n1) : ixD S (lsD L) (.int a) = some (rowD (rowAt L a)) := ls_at h.1 (by have := w.len; omega)
theorem Lz.fin (w : Lz n1 t1 n2 t2 L) (hf : f ∈ consT L) : f.length = n1.toNat ∧ ∀ x ∈ f, 0 ≤ x ∧ x < n2 := by
  obtain ⟨h1, h2⟩ := mem_consT.mp hf
  refine ⟨h1.trans w.len, fun x hx => ?_⟩
  obtain ⟨i, hi, rfl⟩ := List.mem_iff_getElem.mp hx
  have := w.rowIn.2 _ (h2 i (by omega))
  rw [List.getD_eq_getElem?_getD, List.getElem?_eq_getElem hi] at this
  exact this
theorem rowD_ix {S : Store} {f : List Int} {i : Int} (h0 : 0 ≤ i) (h1 : i < f.length) : ixD S (rowD f) (.int i) = some (.int (f.getD i.toNat 0)) := by
  show atD (f.map D.int) i = _
  rw [atD_in h0 (by rw [List.length_map]; omega), List.getD_eq_getElem?_getD, List.getElem?_eq_getElem (by omega)]
  simp
theorem rowD_add {S : Store} {f : List Int} {x : Int} (h : f.length ≤ 1000) : opD S .add (rowD f) (.tup [.int x]) = some (rowD (f ++ [x]), S) := by
  show (if small ((f.map D.int).length + 1) = true then some (D.tup (f.map D.int ++ [.int x]), S) else none) = _
  rw [if_pos (small_of (by rw [List.length_map]; omega))]
  simp [rowD]
theorem repr_int {i : Int} (h : 0 ≤ i ∧ i < 1000000) : ∃ X, ∀ S : Store, reprD S (.int i) = some (.str X) := by
  obtain ⟨h1, h2, _⟩ := pls_ints (b := 1000000) (by omega) (ns := [i]) fun n hn => by rw [List.mem_singleton.mp hn]; exact h
  have h3 : (D.pl (.int i) && true) = true := h1
  rw [Bool.and_true] at h3
  exact ⟨_, fun S => reprD_pl h3 (Nat.zero_le _) (by show 1 ≤ 4000; omega)⟩
/-- the dict of a web's ties -/
def tieK (p : Int × Int) : List L2.Key := [.inl p.1, .inl p.2]
def knownK (ts : List (Int × Int)) : List (List L2.Key × D) := (ts.map fun p => (tieK p, D.bl true)).foldl (fun a p => setK a p.1 p.2) []
theorem any_setK {κ α : Type} [DecidableEq κ] {kvs : List (κ × α)} {k j : κ} {v : α} : ((setK kvs k v).any fun kv => decide (kv.1 = j)) = ((kvs.any fun kv => decide (kv.1 = j)) || decide (k = j)) := by
  unfold setK
  split
  · next h =>
    have e : ((kvs.map fun kv => if kv.1 = k then (kv.1, v) else kv).any fun kv => decide (kv.1 = j)) = kvs.any fun kv => decide (kv.1 = j) := by
      rw [List.any_map]
      congr 1
      funext kv
      show decide ((if kv.1 = k then (kv.1, v) else kv).1 = j) = _
      split <;> rfl
    rw [e]
    by_cases hj : k = j
    · subst hj
      rw [h]; rfl
    · rw [decide_eq_false hj, Bool.or_false]
  · rw [List.any_append]
    simp
theorem any_fold {κ α : Type} [DecidableEq κ] {j : κ} : ∀ {ps : List (κ × α)} {acc : List (κ × α)}, ((ps.foldl (fun a p => setK a p.1 p.2) acc).any fun kv => decide (kv.1 = j)) = ((acc.any fun kv => decide (kv.1 = j)) || ps.any fun p => decide (p.1 = j))
  | [], acc => by simp
  | p :: ps, acc => by
    rw [List.foldl_cons, any_fold, any_setK, List.any_cons, Bool.or_assoc]
theorem getK_any {κ α : Type} [DecidableEq κ] {kvs : List (κ × α)} {k : κ} : (getK kvs k).isSome = kvs.any fun kv => decide (kv.1 = k) := by
  unfold getK
  rw [Option.isSome_map]
  induction kvs with
  | nil => rfl
  | cons p kvs ih =>
    rw [List.any_cons, List.find?_cons]
    cases h : decide (p.1 = k)
    · simpa using ih
    · rfl
theorem known_in {ts : List (Int × Int)} {p : Int × Int} : (getK (knownK ts) (tieK p)).isSome = decide (p ∈ ts) := by
  rw [getK_any]
  unfold knownK
  rw [any_fold]
  simp only [List.any_nil, Bool.false_or, List.any_map]
  rw [Bool.eq_iff_iff, List.any_eq_true, decide_eq_true_iff]
  constructor
  · rintro ⟨q, hq, e⟩
    have e : tieK q = tieK p := of_decide_eq_true e
    unfold tieK at e
    have : q = p := by
      obtain ⟨q1, q2⟩ := q
      obtain ⟨p1, p2⟩ := p
      simp only [List.cons.injEq, Sum.inl.injEq, and_true] at e
      rw [e.1, e.2]
    rwa [← this]
  · intro h
    exact ⟨p, h, decide_eq_true rfl⟩
theorem in_known {S : Store} {qk : Nat} {ts : List (Int × Int)} {x y : Int} (h : S[qk]? = some (.dit (knownK ts))) : cpD S .isin (.tup [.int x, .int y]) (.ref qk) = some (.bl (decide ((x, y) ∈ ts))) := by
  show (match S[qk]? with
    | some (O.lst xs) => _
    | some (O.dik kvs) => _
    | some (O.dit kvs) => (match D.tup [.int x, .int y] with
      | .tup ds => (D.keys ds).map fun k => D.bl (getK kvs k).isSome
      | _ => none)
    | _ => none) = _
  rw [h]
  show some (D.bl (getK (knownK ts) (tieK (x, y))).isSome) = _
  rw [known_in]
theorem pair_map {ts : List (Int × Int)} : mapO pairK (ts.map fun p => D.tup [ofPair p, .bl true]) = some (ts.map fun p => (tieK p, D.bl true)) := by
  induction ts with
  | nil => rfl
  | cons p ts ih =>
    rw [List.map_cons]
    unfold mapO
    rw [ih]
    rfl
end
end Wb

/-! A22: what is equal to itself; lists side by side. -/
namespace Wb
open PySem
section
variable {S : Store} {d : D} {xs : List D} {q q' : Nat}
theorem eqv_pl (h : d.pl = true) : PyData.eqv d.py d.py = true := PySem.SeqAt.eqv_refl _ (py_lay d h).1
theorem eqD_same (h : d.pl = true) (hd : d.dp ≤ 50) : eqD S d d = some true := by
  have e : ∀ d : D, d.pl = true → d.dp ≤ 50 → (match pyOk S d, pyOk S d with
    | some a, some b => some (PyData.eqv a b)
    | _, _ => none) = some true := fun d h hd => by
    rw [pyOk_pl h hd]
    exact congrArg some (eqv_pl h)
  cases d with
  | int i => show some (decide (i = i)) = _; simp
  | str x => show some (decide (x = x)) = _; simp
  | bl b => show some (decide (b = b)) = _; simp
  | non => exact e _ h hd
  | tup xs => exact e _ h hd
  | fix xs => exact e _ h hd
  | ref n => cases h
theorem toPy_lst (hk : S[q]? = some (.lst xs)) (h : D.pls xs = true) (hd : D.dps xs ≤ 50) : pyOk S (.ref q) = some (.list (D.pys xs)) := by
  obtain ⟨a1, a2, a3, a4, a5⟩ := pys_lay xs h
  have e : toPy S 60 (.ref q) = some (.list (D.pys xs)) := by
    unfold toPy
    show (match S[q]? with
      | some (O.lst xs) => Option.map PyData.list (mapO (toPy S 59) xs)
      | x => none) = _
    rw [hk]
    show Option.map PyData.list (mapO (toPy S 59) xs) = _
    rw [toPys_pl 59 xs h (by omega)]
    rfl
  unfold pyOk
  rw [e]
  have sh : SeqAt.shaped (.list (D.pys xs)) = true := by
    unfold SeqAt.shaped
    have e1 : (PyData.list (D.pys xs)).canLay0 = true := a1
    rw [e1, Bool.true_and]
    refine decide_eq_true ?_
    show PyData.depthAll (D.pys xs) + 1 ≤ 64
    omega
  simp only [sh, if_true]
theorem eqv_lst (h : D.pls xs = true) : PyData.eqv (.list (D.pys xs)) (.list (D.pys xs)) = true := PySem.SeqAt.eqv_refl _ (by
  obtain ⟨a1, _⟩ := pys_lay xs h
  exact a1)
theorem eqD_refs (h1 : S[q]? = some (.lst xs)) (h2 : S[q']? = some (.lst xs)) (h : D.pls xs = true) (hd : D.dps xs ≤ 50) : eqD S (.ref q) (.ref q') = some true := by
  show (match pyOk S (.ref q), pyOk S (.ref q') with
    | some a, some b => some (PyData.eqv a b)
    | _, _ => none) = some true
  rw [toPy_lst h1 h hd, toPy_lst h2 h hd]
  exact congrArg some (eqv_lst h)
theorem eqL_same (h : D.pls xs = true) (hd : D.dps xs ≤ 50) : eqL S xs xs = some true := by
  unfold eqL
  rw [pyOks_pl h hd]
  exact congrArg some (eqv_lst h)
theorem ne_of {x y : D} (h : eqD S x y = some true) : cpD S .ne x y = some (.bl false) := by
  show (eqD S x y).map noB = _
  rw [h]; rfl
end
section
variable {n1 n2 n3 a x : Int} {t1 t2 t3 : List (Int × Int)} {L M : Lst} {row f g : List Int} {c : Nat}
theorem consT_both : ∀ {L M : Lst}, consT (L ++ M) = (consT L).flatMap fun f => (consT M).map (f ++ ·)
  | [], M => by simp [consT]
  | r :: L, M => by
    simp only [List.cons_append, consT, consT_both (L := L), List.flatMap_assoc]
    congr 1
    funext x
    rw [List.map_flatMap, List.flatMap_map]
    congr 1
    funext f
    rw [List.map_map]
    rfl
def shiftT (n : Int) (ts : List (Int × Int)) : List (Int × Int) := ts.map fun p => (p.1 + n, p.2 + n)
theorem getD_both {i : Nat} (h : i < f.length) : (f ++ g).getD i 0 = f.getD i 0 := by
  rw [List.getD_eq_getElem?_getD, List.getD_eq_getElem?_getD, List.getElem?_append_left h]
theorem getD_last {i : Nat} : (f ++ g).getD (f.length + i) 0 = g.getD i 0 := by
  rw [List.getD_eq_getElem?_getD, List.getD_eq_getElem?_getD, List.getElem?_append_right (by omega), Nat.add_sub_cancel_left]
theorem leads_both (h1 : In n1 t1) (h2 : In n2 t2) (hf : (f.length : Int) = n1) : leadsB (t1 ++ shiftT n1 t2) t3 (f ++ g) = (leadsB t1 t3 f && leadsB t2 t3 g) := by
  unfold leadsB
  rw [List.all_append]
  congr 1
  · refine all_cong fun p hp => ?_
    have := h1 p hp
    unfold pairIn
    rw [getD_both (by omega), getD_both (by omega)]
  · unfold shiftT
    rw [List.all_map]
    refine all_cong fun p hp => ?_
    have := h2 p hp
    show decide (((f ++ g).getD (p.1 + n1).toNat 0, (f ++ g).getD (p.2 + n1).toNat 0) ∈ t3) = _
    rw [show (p.1 + n1).toNat = f.length + p.1.toNat by omega, show (p.2 + n1).toNat = f.length + p.2.toNat by omega, getD_last, getD_last]
    rfl
theorem all_both (h1 : In n1 t1) (h2 : In n2 t2) (hl : (L.length : Int) = n1) : allL (t1 ++ shiftT n1 t2) t3 (L ++ M) = (allL t1 t3 L).flatMap fun f => (allL t2 t3 M).map (f ++ ·) := by
  unfold allL
  rw [consT_both, List.filter_flatMap]
  have hf : ∀ f ∈ consT L, (f.length : Int) = n1 := fun f hf => by rw [(mem_consT.mp hf).1]; exact hl
  generalize consT L = fs at hf
  induction fs with
  | nil => rfl
  | cons f fs ih =>
    rw [List.flatMap_cons, ih fun g hg => hf g (List.mem_cons_of_mem _ hg), List.filter_cons]
    have e : ((consT M).map (f ++ ·)).filter (leadsB (t1 ++ shiftT n1 t2) t3) = if leadsB t1 t3 f then ((consT M).filter (leadsB t2 t3)).map (f ++ ·) else [] := by
      rw [List.filter_map]
      have e1 : (leadsB (t1 ++ shiftT n1 t2) t3 ∘ (f ++ ·)) = fun g => leadsB t1 t3 f && leadsB t2 t3 g := by
        funext g; exact leads_both h1 h2 (hf f (by simp))
      rw [e1]
      cases leadsB t1 t3 f <;> simp
    rw [e]
    cases leadsB t1 t3 f
    · simp
    · simp
theorem in_shiftT (hn : 0 ≤ n1) (hu : In n2 t2) : In (n1 + n2) (shiftT n1 t2) := fun p hp => by
  obtain ⟨q, hq, rfl⟩ := List.mem_map.mp hp
  have := hu q hq
  show (0 ≤ q.1 + n1 ∧ q.1 + n1 < n1 + n2) ∧ 0 ≤ q.2 + n1 ∧ q.2 + n1 < n1 + n2
  omega
theorem in_bothT (hn : 0 ≤ n1) (hm : 0 ≤ n2) (ht : In n1 t1) (hu : In n2 t2) : In (n1 + n2) (t1 ++ shiftT n1 t2) := fun p hp => by
  rcases List.mem_append.mp hp with z | z
  · have := ht p z
    omega
  · exact in_shiftT hn hu p z
theorem shift_zero : shiftT 0 t2 = t2 := by
  unfold shiftT
  simp
theorem Lz.of (n0 : 0 ≤ n1 ∧ n1 ≤ 6) (m0 : 0 ≤ n2 ∧ n2 ≤ 100) (i1 : In n1 t1) (i2 : In n2 t2) (f1 : t1.length ≤ 1000) (f2 : t2.length ≤ 1000) (hl : L.length = n1.toNat) (few : ∀ row ∈ L, row.length ≤ 4) (inn : ∀ row ∈ L, ∀ x ∈ row, 0 ≤ x ∧ x < n2) : Lz n1 t1 n2 t2 L :=
  ⟨n0.1, by omega, m0.1, m0.2, i1, i2, f1, f2, hl, fun row hr => Nat.le_trans (few row hr) (by decide), inn, fun i => by
    have h := consT_len (L := L.take i) (c := 4) fun row hr => few row (List.mem_of_mem_take hr)
    have : (4 : Nat) ^ (L.take i).length ≤ 4 ^ 6 := Nat.pow_le_pow_right (by decide) (by rw [List.length_take]; omega)
    have : (4 : Nat) ^ 6 = 4096 := by decide
    omega⟩
def twos (A B : List (List Int)) : List (List Int × List Int) := A.flatMap fun f => B.map fun g => (f, g)
theorem twos_len {A B : List (List Int)} : (twos A B).length = A.length * B.length := by
  unfold twos
  induction A with
  | nil => simp
  | cons f A ih => rw [List.flatMap_cons, List.length_append, ih, List.length_map, List.length_cons, Nat.add_mul, Nat.one_mul]; omega
theorem twos_take {A B : List (List Int)} {j : Nat} {f : List Int} (h : A[j]? = some f) : twos (A.take (j + 1)) B = twos (A.take j) B ++ B.map fun g => (f, g) := by
  unfold twos
  rw [List.take_succ, h, List.flatMap_append]
  simp
theorem mem_twos {A B : List (List Int)} {p : List Int × List Int} (h : p ∈ twos A B) : p.1 ∈ A ∧ p.2 ∈ B := by
  unfold twos at h
  obtain ⟨f, hf, h2⟩ := List.mem_flatMap.mp h
  obtain ⟨g, hg, rfl⟩ := List.mem_map.mp h2
  exact ⟨hf, hg⟩
theorem all_twos (h1 : In n1 t1) (h2 : In n2 t2) (hl : (L.length : Int) = n1) : allL (t1 ++ shiftT n1 t2) t3 (L ++ M) = (twos (allL t1 t3 L) (allL t2 t3 M)).map fun p => p.1 ++ p.2 := by
  rw [all_both h1 h2 hl]
  unfold twos
  rw [List.map_flatMap]
  congr 1
  funext f
  rw [List.map_map]
  rfl
theorem self_leads (h1 : In n1 t1) (h : ∀ p ∈ t1, p ∈ t3) (hf : f.length = n1.toNat) (hi : ∀ i : Nat, i < n1.toNat → f.getD i 0 = (i : Int)) : leadsB t1 t3 f = true := by
  unfold leadsB
  refine List.all_eq_true.mpr fun p hp => decide_eq_true ?_
  have := h1 p hp
  rw [hi _ (by omega), hi _ (by omega), show ((p.1.toNat : Nat) : Int) = p.1 by omega, show ((p.2.toNat : Nat) : Int) = p.2 by omega]
  exact h p hp
theorem last_leads (h2 : In n2 t2) (hf : f.length = n2.toNat) (hi : ∀ i : Nat, i < n2.toNat → f.getD i 0 = n1 + (i : Int)) : leadsB t2 (t1 ++ shiftT n1 t2) f = true := by
  unfold leadsB
  refine List.all_eq_true.mpr fun p hp => decide_eq_true ?_
  have := h2 p hp
  rw [hi _ (by omega), hi _ (by omega), show ((p.1.toNat : Nat) : Int) = p.1 by omega, show ((p.2.toNat : Nat) : Int) = p.2 by omega]
  refine List.mem_append_right _ (List.mem_map.mpr ⟨p, hp, ?_⟩)
  rw [Int.add_comm, Int.add_comm p.2]
theorem rng_row {a b : Int} : D.tup (rngL a b) = rowD ((List.range (b - a).toNat).map fun i : Nat => a + (i : Int)) := by
  unfold rngL rowD
  rw [List.map_map]
  rfl
theorem rng_at2 {a : Int} {n i : Nat} (h : i < n) : ((List.range n).map fun i : Nat => a + (i : Int)).getD i 0 = a + (i : Int) := by
  rw [List.getD_eq_getElem?_getD, List.getElem?_map, List.getElem?_range h]
  rfl
end
end Wb

/-! A23: all places in any order, webs by other names, the place of a thing. -/
namespace Wb
open PySem
/-- all places, each once -/
structure Pm (n : Int) (ps : List Int) : Prop where
  nd : ps.Nodup
  mem : ∀ x, x ∈ ps ↔ 0 ≤ x ∧ x < n
section
variable {n x i j : Int} {ps qs : List Int} {ts us : List (Int × Int)} {S : Store}
theorem mem_allP {x : Int} (hn : 0 ≤ n) : x ∈ allP n ↔ 0 ≤ x ∧ x < n := by
  unfold allP
  rw [mem_taken]
  constructor
  · rintro ⟨h, _⟩; omega
  · intro h; exact ⟨by omega, rfl⟩
theorem Pm.of_perm (hn : 0 ≤ n) (h : ps.Perm (allP n)) : Pm n ps := ⟨h.nodup_iff.mpr (taken_inc.imp fun h e => by omega), fun x => (h.mem_iff).trans (mem_allP hn)⟩
theorem Pm.perm (hn : 0 ≤ n) (h : Pm n ps) : ps.Perm (allP n) := perm_of_nodup h.nd (taken_inc.imp fun h e => by omega) fun x => (h.mem x).trans (mem_allP hn).symm
theorem Pm.len (hn : 0 ≤ n) (h : Pm n ps) : ps.length = n.toNat := by rw [(h.perm hn).length_eq, allP_len]
theorem Pm.all (hn : 0 ≤ n) : Pm n (allP n) := .of_perm hn (.refl _)
theorem getD_mem {ps : List Int} {i : Nat} (h : i < ps.length) : ps.getD i 0 ∈ ps := by
  rw [List.getD_eq_getElem?_getD, List.getElem?_eq_getElem h]
  exact List.getElem_mem h
theorem Pm.at_ (hn : 0 ≤ n) (h : Pm n ps) (hi : 0 ≤ i ∧ i < n) : 0 ≤ ps.getD i.toNat 0 ∧ ps.getD i.toNat 0 < n := (h.mem _).mp (getD_mem (by rw [h.len hn]; omega))
theorem getD_inj {ps : List Int} (nd : ps.Nodup) {i j : Nat} (hi : i < ps.length) (hj : j < ps.length) (e : ps.getD i 0 = ps.getD j 0) : i = j := by
  rw [List.getD_eq_getElem?_getD, List.getD_eq_getElem?_getD, List.getElem?_eq_getElem hi, List.getElem?_eq_getElem hj] at e
  exact (List.getElem_inj nd).mp e
/-- names told to a tie -/
def rp (ps : List Int) (p : Int × Int) : Int × Int := (ps.getD p.1.toNat 0, ps.getD p.2.toNat 0)
/-- a web's ties by other names -/
def ren (ps : List Int) (ts : List (Int × Int)) : List (Int × Int) := srtP (dedup (ts.map (rp ps)))
theorem mem_ren {p : Int × Int} : p ∈ ren ps ts ↔ ∃ q ∈ ts, rp ps q = p := by
  unfold ren
  rw [mem_srtP, mem_dedup, List.mem_map]
theorem ren_up : Up (ren ps ts) ∧ (ren ps ts).Nodup := ⟨up_srt, (srt_perm _).nodup_iff.mpr (dedup_nodup _)⟩
theorem ren_len : (ren ps ts).length ≤ ts.length := by
  unfold ren
  rw [(srt_perm _).length_eq]
  have := dedup_len (ts.map (rp ps))
  rwa [List.length_map] at this
theorem ren_web {m : Int} (w : Webb n ts) (hm : 0 ≤ m) (h : ∀ i, 0 ≤ i → i < n → 0 ≤ ps.getD i.toNat 0 ∧ ps.getD i.toNat 0 < m) : Webb m (ren ps ts) := by
  refine ⟨hm, fun p hp => ?_, ren_up.1, ren_up.2, Nat.le_trans ren_len w.few⟩
  obtain ⟨q, hq, rfl⟩ := mem_ren.mp hp
  have := w.inn q hq
  exact ⟨h q.1 this.1.1 this.1.2, h q.2 this.2.1 this.2.2⟩
theorem dedup_same {α : Type} [DecidableEq α] : ∀ {l : List α}, l.Nodup → dedup l = l
  | [], _ => rfl
  | x :: l, h => by
    have h' := List.nodup_cons.mp h
    unfold dedup
    rw [if_neg h'.1, dedup_same h'.2]
theorem rp_nodup (w : Webb n ts) (h : Pm n ps) : (ts.map (rp ps)).Nodup := by
  refine List.pairwise_map.mpr (w.nd.imp_of_mem fun {p q} hp hq ne e => ne ?_)
  have a := w.inn p hp
  have b := w.inn q hq
  have hl := h.len w.n0
  have e1 : ps.getD p.1.toNat 0 = ps.getD q.1.toNat 0 := congrArg Prod.fst e
  have e2 : ps.getD p.2.toNat 0 = ps.getD q.2.toNat 0 := congrArg Prod.snd e
  have f1 := getD_inj h.nd (by omega) (by omega) e1
  have f2 := getD_inj h.nd (by omega) (by omega) e2
  exact Prod.ext (by omega) (by omega)
theorem ren_srt (w : Webb n ts) (h : Pm n ps) : srtP (ts.map (rp ps)) = ren ps ts := by
  unfold ren
  rw [dedup_same (rp_nodup w h)]
/-- names one behind the other -/
theorem ren_ren (w : Webb n ts) (r : List Int) (hr : ∀ i, 0 ≤ i → i < n → r.getD i.toNat 0 = qs.getD (ps.getD i.toNat 0).toNat 0) : ren qs (ren ps ts) = ren r ts := by
  refine pairs_eq ren_up.1 ren_up.2 ren_up.1 ren_up.2 fun p => ?_
  rw [mem_ren, mem_ren]
  have e : ∀ q ∈ ts, rp qs (rp ps q) = rp r q := fun q hq => by
    have := w.inn q hq
    unfold rp
    rw [hr _ this.1.1 this.1.2, hr _ this.2.1 this.2.2]
  constructor
  · rintro ⟨q, hq, rfl⟩
    obtain ⟨q', hq', rfl⟩ := mem_ren.mp hq
    exact ⟨q', hq', (e q' hq').symm⟩
  · rintro ⟨q, hq, rfl⟩
    exact ⟨_, mem_ren.mpr ⟨q, hq, rfl⟩, e q hq⟩
theorem ren_self (w : Webb n ts) (r : List Int) (hr : ∀ i, 0 ≤ i → i < n → r.getD i.toNat 0 = i) : ren r ts = ts := by
  refine pairs_eq ren_up.1 ren_up.2 w.up w.nd fun p => ?_
  have e : ∀ q ∈ ts, rp r q = q := fun q hq => by
    have := w.inn q hq
    unfold rp
    rw [hr _ this.1.1 this.1.2, hr _ this.2.1 this.2.2]
  rw [mem_ren]
  exact ⟨fun ⟨q, hq, h⟩ => by rw [e q hq] at h; exact h ▸ hq, fun h => ⟨p, h, e p h⟩⟩
/-! ### the place of a thing -/
def plcOf (ps : List Int) (x : Int) : Int := ((ps.findIdx? fun y => decide (y = x)).getD 0 : Nat)
theorem findIdx_pys (x : Int) : ∀ ps : List Int, ((D.pys (ps.map D.int)).findIdx? fun z => PyData.eqv z (D.int x).py) = ps.findIdx? fun y => decide (y = x)
  | [] => rfl
  | y :: r => by
    have e : PyData.eqv (D.int y).py (D.int x).py = decide (y = x) := by
      show PyData.eqv (.int y) (.int x) = _
      by_cases c : y = x
      · rw [c, decide_eq_true rfl]; simp [PyData.eqv]
      · rw [decide_eq_false c]; simp [PyData.eqv, c]
    show (PyData.int y :: D.pys (r.map D.int)).findIdx? _ = _
    have e' : PyData.eqv (PyData.int y) (D.int x).py = decide (y = x) := e
    rw [List.findIdx?_cons, List.findIdx?_cons, e', findIdx_pys x r]
theorem plc_some (h : x ∈ ps) : ∃ i : Nat, (ps.findIdx? fun y => decide (y = x)) = some i ∧ i < ps.length ∧ ps.getD i 0 = x := by
  cases e : ps.findIdx? fun y => decide (y = x) with
  | none => exact absurd rfl (of_decide_eq_false (List.findIdx?_eq_none_iff.mp e x h))
  | some i =>
    obtain ⟨h1, h2, _⟩ := List.findIdx?_eq_some_iff_getElem.mp e
    refine ⟨i, rfl, h1, ?_⟩
    rw [List.getD_eq_getElem?_getD, List.getElem?_eq_getElem h1]
    exact of_decide_eq_true h2
theorem plc_at (h : x ∈ ps) : 0 ≤ plcOf ps x ∧ (plcOf ps x).toNat < ps.length ∧ ps.getD (plcOf ps x).toNat 0 = x := by
  obtain ⟨i, h1, h2, h3⟩ := plc_some h
  unfold plcOf
  rw [h1]
  exact ⟨Int.natCast_nonneg _, by simpa using h2, by simpa using h3⟩
theorem index_row {m : Int} (hm : m ≤ 1000000) (hx : 0 ≤ x ∧ x < m) (hp : ∀ y ∈ ps, 0 ≤ y ∧ y < m) (h : x ∈ ps) : indexD S (rowD ps) (.int x) = some (.int (plcOf ps x)) := by
  obtain ⟨i, h1, h2, h3⟩ := plc_some h
  have p1 : pyOk S (.int x) = some (D.int x).py := pyOk_pl (by simp [D.pl]; omega) (by show (0 : Nat) ≤ 50; decide)
  obtain ⟨a, b, _⟩ := pls_ints hm hp
  have p2 : pyOks S (ps.map D.int) = some (D.pys (ps.map D.int)) := pyOks_pl a (by omega)
  unfold indexD
  show (match some (ps.map D.int), pyOk S (.int x) with
    | some xs, some a => match pyOks S xs with
      | some ps => (ps.findIdx? fun z => PyData.eqv z a).map fun i => D.int (i : Nat)
      | none => none
    | _, _ => none) = _
  rw [p1]
  show (match pyOks S (ps.map D.int) with
      | some ps => (ps.findIdx? fun z => PyData.eqv z (D.int x).py).map fun i => D.int (i : Nat)
      | none => none) = _
  rw [p2]
  show ((D.pys (ps.map D.int)).findIdx? fun z => PyData.eqv z (D.int x).py).map _ = _
  rw [findIdx_pys, h1]
  unfold plcOf
  rw [h1]
  rfl
theorem erase_map {α β : Type} {f : α → β} : ∀ (l : List α) (i : Nat), (l.map f).eraseIdx i = (l.eraseIdx i).map f
  | [], _ => rfl
  | _ :: _, 0 => rfl
  | x :: r, i + 1 => by
    show f x :: (r.map f).eraseIdx i = f x :: (r.eraseIdx i).map f
    rw [erase_map r i]
theorem erase_perm {α : Type} : ∀ {l : List α} {i : Nat} (h : i < l.length), (l[i] :: l.eraseIdx i).Perm l
  | x :: r, 0, _ => .refl _
  | x :: r, i + 1, h => by
    show (r[i]'(by simpa using h) :: x :: r.eraseIdx i).Perm (x :: r)
    exact (List.Perm.swap _ _ _).trans (.cons x (erase_perm (by simpa using h)))
theorem rng_map {a : Int} {n : Nat} {f : Int → Int} {i : Nat} (h : i < n) : ((List.range n).map fun i : Nat => f (i : Int)).getD i 0 = f (i : Int) := by
  rw [List.getD_eq_getElem?_getD, List.getElem?_map, List.getElem?_range h]
  rfl
end
end Wb

namespace K05
open PySem Wb
def c_is_whole : List S := [.ret (.and (.isi .isInt (.var 0)) (.not (.isi .isBool (.var 0))))]
def c_is_place : List S := [.ret (.and (.call 0 [(.var 1)]) (.chain .le .lt (.lit (D.int 0)) (.var 1) (.var 0)))]
def c_is_tie : List S := [.ret (.and (.isi .isTup (.var 1)) (.and (.cp .eq (.blt .len [(.var 1)]) (.lit (D.int 2))) (.and (.call 1 [(.var 0), (.ix (.var 1) (.lit (D.int 0)))]) (.call 1 [(.var 0), (.ix (.var 1) (.lit (D.int 1)))]))))]
def c_is_rising : List S := [.ret (.con .all (.comp [1, 2] (.name 2) (.rng (.lit (D.int 1)) (.blt .len [(.var 0)])) none (.cp .lt (.ix (.var 0) (.op .sub (.var 2) (.lit (D.int 1)))) (.ix (.var 0) (.var 2)))))]
def c_is_web : List S := [.ite (.or (.not (.isi .isTup (.var 0))) (.or (.cp .ne (.blt .len [(.var 0)]) (.lit (D.int 2))) (.not (.call 1 [(.op .add (.lit (D.int 64)) (.lit (D.int 1))), (.ix (.var 0) (.lit (D.int 0)))])))) [
    .ret (.lit (D.bl false))] [],
  .asg (.tup [(.name 1), (.name 2)]) (.var 0),
  .ite (.or (.not (.isi .isTup (.var 2))) (.not (.con .all (.comp [3, 4] (.name 4) (.of (.var 2)) none (.call 2 [(.var 1), (.var 4)]))))) [
    .ret (.lit (D.bl false))] [],
  .ret (.call 3 [(.var 2)])]
def c_web_of : List S := [.ret (.tup [(.var 0), (.con .tup (.sortedSet (.ofl (.var 1))))])]
def c_renamed : List S := [.ret (.call 5 [(.ix (.var 0) (.lit (D.int 0))), (.newL (.comp [2, 3, 4] (.tup [(.name 3), (.name 4)]) (.of (.ix (.var 0) (.lit (D.int 1)))) none (.tup [(.ix (.var 1) (.var 3)), (.ix (.var 1) (.var 4))])))])]
def c_law_feed : List S := [.ret (.newL (.disp [(.newL (.cat (.list (.sl (.var 0) none (some (.lit (D.int 63))))) (.disp [(.lit (D.int 7))]))), (.lit (D.int 0)), (.lit (D.int 0)), (.lit (D.int 0))]))]
def c_law_draw : List S := [.asg (.sub (.var 0) (.lit (D.int 3))) (.op .add (.ix (.var 0) (.lit (D.int 3))) (.lit (D.int 1))),
  .ite (.cp .gt (.ix (.var 0) (.lit (D.int 2))) (.lit (D.int 0))) [
    .asg (.name 2) (.op .mod (.ix (.var 0) (.lit (D.int 2))) (.var 1)),
    .asg (.sub (.var 0) (.lit (D.int 2))) (.op .fdiv (.ix (.var 0) (.lit (D.int 2))) (.var 1)),
    .ret (.var 2)] [],
  .asg (.name 3) (.ix (.ix (.var 0) (.lit (D.int 0))) (.op .mod (.ix (.var 0) (.lit (D.int 1))) (.blt .len [(.ix (.var 0) (.lit (D.int 0)))]))),
  .asg (.sub (.var 0) (.lit (D.int 1))) (.op .add (.ix (.var 0) (.lit (D.int 1))) (.lit (D.int 1))),
  .ite (.and (.cp .ge (.var 3) (.op .pow (.lit (D.int 10)) (.lit (D.int 18)))) (.cp .le (.ix (.var 0) (.lit (D.int 1))) (.blt .len [(.ix (.var 0) (.lit (D.int 0)))]))) [
    .asg (.sub (.var 0) (.lit (D.int 2))) (.op .fdiv (.var 3) (.var 1)),
    .ret (.op .mod (.var 3) (.var 1))] [],
  .asg (.name 4) (.op .mod (.op .mul (.op .add (.op .mod (.var 3) (.lit (D.int 1000003))) (.op .mul (.lit (D.int 5003)) (.ix (.var 0) (.lit (D.int 3))))) (.lit (D.int 48271))) (.lit (D.int 2147483629))),
  .asg (.name 4) (.op .mod (.op .mul (.op .add (.op .fdiv (.var 4) (.lit (D.int 13))) (.op .mul (.op .mul (.lit (D.int 7919)) (.ix (.var 0) (.lit (D.int 3)))) (.ix (.var 0) (.lit (D.int 3))))) (.lit (D.int 69621))) (.lit (D.int 2147483587))),
  .ret (.op .mod (.op .fdiv (.var 4) (.lit (D.int 64))) (.var 1))]
def c_law_masked : List S := [.asg (.name 2) (.call 8 [(.var 0), (.lit (D.int 3))]),
  .asg (.name 3) (.newL (.disp [])),
  .for_ (.name 4) (.rng (.lit (D.int 0)) (.var 1)) [
    .asg (.name 5) (.call 8 [(.var 0), (.op .shl (.lit (D.int 1)) (.var 1))]),
    .ite (.cp .gt (.var 2) (.lit (D.int 0))) [
      .asg (.name 5) (.op .band (.var 5) (.call 8 [(.var 0), (.op .shl (.lit (D.int 1)) (.var 1))]))] [],
    .ex (.ext (.var 3) (.comp [6, 7] (.name 7) (.rng (.lit (D.int 0)) (.var 1)) (some (.and (.cp .eq (.op .band (.op .shr (.var 5) (.var 7)) (.lit (D.int 1))) (.lit (D.int 1))) (.or (.cp .lt (.var 2) (.lit (D.int 2))) (.cp .ne (.var 4) (.var 7))))) (.tup [(.var 4), (.var 7)])))],
  .ret (.var 3)]
def c_law_web : List S := [.asg (.name 2) (.ix (.newL (.disp [(.var 1), (.op .add (.lit (D.int 1)) (.call 8 [(.var 0), (.var 1)])), (.call 8 [(.var 0), (.op .add (.var 1) (.lit (D.int 1)))])])) (.call 8 [(.var 0), (.lit (D.int 3))])),
  .asg (.name 3) (.call 8 [(.var 0), (.lit (D.int 7))]),
  .ite (.cp .eq (.var 3) (.lit (D.int 0))) [
    .asg (.name 5) (.newL (.comp [8, 4] (.name 4) (.rng (.lit (D.int 0)) (.var 2)) none (.tup [(.var 4), (.op .mod (.op .add (.var 4) (.lit (D.int 1))) (.var 2))])))] [
    .ite (.cp .eq (.var 3) (.lit (D.int 1))) [
      .asg (.name 5) (.newL (.disp [])),
      .for_ (.name 4) (.rng (.lit (D.int 0)) (.var 2)) [
        .ex (.ext (.var 5) (.comp [8, 9] (.name 9) (.rng (.op .add (.var 4) (.lit (D.int 1))) (.var 2)) none (.tup [(.var 4), (.var 9)])))]] [
      .ite (.cp .eq (.var 3) (.lit (D.int 2))) [
        .asg (.name 5) (.newL (.comp [8, 4] (.name 4) (.rng (.lit (D.int 0)) (.op .sub (.var 2) (.lit (D.int 1)))) none (.ix (.newL (.disp [(.tup [(.var 4), (.op .add (.var 4) (.lit (D.int 1)))]), (.tup [(.op .add (.var 4) (.lit (D.int 1))), (.var 4)])])) (.call 8 [(.var 0), (.lit (D.int 2))]))))] [
        .ite (.cp .eq (.var 3) (.lit (D.int 3))) [
          .asg (.name 6) (.op .fdiv (.op .add (.var 2) (.lit (D.int 1))) (.lit (D.int 2))),
          .asg (.name 5) (.newL (.comp [8, 4] (.name 4) (.rng (.lit (D.int 0)) (.var 6)) none (.tup [(.var 4), (.op .mod (.op .add (.var 4) (.lit (D.int 1))) (.var 6))]))),
          .asg (.name 5) (.newL (.cat (.ofl (.var 5)) (.comp [8, 4] (.name 4) (.rng (.lit (D.int 0)) (.op .sub (.var 2) (.var 6))) none (.tup [(.op .add (.var 6) (.var 4)), (.op .add (.var 6) (.op .mod (.op .add (.var 4) (.lit (D.int 1))) (.op .sub (.var 2) (.var 6))))]))))] [
          .asg (.name 5) (.call 9 [(.var 0), (.var 2)])]]]],
  .ite (.and (.cp .gt (.var 2) (.lit (D.int 0))) (.cp .eq (.call 8 [(.var 0), (.lit (D.int 2))]) (.lit (D.int 0)))) [
    .asg (.name 7) (.tup [(.call 8 [(.var 0), (.var 2)]), (.call 8 [(.var 0), (.var 2)])]),
    .asg (.name 5) (.newL (.cat (.comp [8, 10] (.name 10) (.of (.var 5)) (some (.cp .ne (.var 10) (.var 7))) (.var 10)) (.rep (.disp [(.var 7)]) (.blt .int [(.cp .notin (.var 7) (.var 5))]))))] [],
  .ret (.tup [(.var 2), (.con .tup (.sortedSet (.ofl (.var 5))))])]
def c_law_names : List S := [.asg (.name 2) (.newL (.rng (.lit (D.int 0)) (.var 1))),
  .asg (.name 3) (.newL (.disp [])),
  .for_ (.name 4) (.rng (.lit (D.int 0)) (.var 1)) [
    .ex (.meth .append (.var 3) [(.meth .popAt (.var 2) [(.call 8 [(.var 0), (.blt .len [(.var 2)])])])])],
  .ret (.con .tup (.of (.var 3)))]
def c_law_renamed : List S := [.ret (.tup [(.ix (.var 0) (.lit (D.int 0))), (.con .tup (.sorted (.comp [2, 3, 4] (.tup [(.name 3), (.name 4)]) (.of (.ix (.var 0) (.lit (D.int 1)))) none (.tup [(.ix (.var 1) (.var 3)), (.ix (.var 1) (.var 4))]))))])]
def c_law_wide : List S := [.asg (.name 1) (.newL (.cat (.comp [2, 3] (.name 3) (.rng (.lit (D.int 0)) (.var 0)) none (.tup [(.var 3), (.op .mod (.op .mul (.var 3) (.lit (D.int 7))) (.var 0))])) (.disp [(.tup [(.lit (D.int 2)), (.lit (D.int 10))]), (.tup [(.lit (D.int 10)), (.lit (D.int 2))]), (.tup [(.lit (D.int 9)), (.lit (D.int 11))]), (.tup [(.lit (D.int 11)), (.lit (D.int 9))]), (.tup [(.lit (D.int 11)), (.lit (D.int 11))])]))),
  .ret (.tup [(.var 0), (.con .tup (.sortedSet (.ofl (.var 1))))])]
def c_law : List S := [.asg (.name 1) (.call 7 [(.var 0)]),
  .for_ (.name 2) (.ofL (.cat (.comp [11, 12] (.name 12) (.rng (.lit (D.int 0)) (.lit (D.int 6))) none (.call 10 [(.var 1), (.lit (D.int 7))])) (.disp [(.call 13 [(.op .add (.lit (D.int 12)) (.call 8 [(.var 1), (.lit (D.int 4))]))])]))) [
    .asg (.name 3) (.blt .repr [(.var 2)]),
    .asg (.tup [(.name 4), (.name 5)]) (.tup [(.call 11 [(.var 1), (.ix (.var 2) (.lit (D.int 0)))]), (.call 11 [(.var 1), (.ix (.var 2) (.lit (D.int 0)))])]),
    .asg (.name 6) (.call 6 [(.var 2), (.var 4)]),
    .ite (.or (.cp .ne (.blt .repr [(.var 6)]) (.blt .repr [(.call 12 [(.var 2), (.var 4)])])) (.cp .isnt (.call 4 [(.var 6)]) (.lit (D.bl true)))) [
      .ret (.lit (D.bl false))] [],
    .asg (.name 7) (.con .tup (.comp [11, 13] (.name 13) (.rng (.lit (D.int 0)) (.ix (.var 2) (.lit (D.int 0)))) none (.index (.var 4) (.var 13)))),
    .ite (.or (.cp .ne (.blt .repr [(.call 6 [(.var 6), (.var 7)])]) (.var 3)) (.cp .ne (.blt .repr [(.call 6 [(.var 2), (.tupRng (.lit (D.int 0)) (.ix (.var 2) (.lit (D.int 0))))])]) (.var 3))) [
      .ret (.lit (D.bl false))] [],
    .asg (.name 8) (.con .tup (.comp [11, 13] (.name 13) (.rng (.lit (D.int 0)) (.ix (.var 2) (.lit (D.int 0)))) none (.ix (.var 5) (.ix (.var 4) (.var 13))))),
    .ite (.or (.cp .ne (.blt .repr [(.call 6 [(.var 6), (.var 5)])]) (.blt .repr [(.call 6 [(.var 2), (.var 8)])])) (.cp .ne (.blt .repr [(.var 2)]) (.var 3))) [
      .ret (.lit (D.bl false))] []],
  .asg (.name 9) (.op .add (.lit (D.int 2)) (.call 8 [(.var 1), (.lit (D.int 9))])),
  .asg (.name 10) (.tup [(.var 9), (.con .tup (.sorted (.comp [11, 13] (.name 13) (.rng (.lit (D.int 0)) (.var 9)) none (.tup [(.var 13), (.op .mod (.op .add (.var 13) (.lit (D.int 1))) (.var 9))]))))]),
  .ret (.cp .eq (.blt .repr [(.call 6 [(.var 10), (.con .tup (.comp [11, 13] (.name 13) (.rng (.lit (D.int 0)) (.var 9)) none (.op .mod (.op .add (.var 13) (.lit (D.int 1))) (.var 9))))])]) (.blt .repr [(.var 10)]))]
def PP : List Fn := [⟨1, 1, c_is_whole⟩, ⟨2, 2, c_is_place⟩, ⟨2, 2, c_is_tie⟩, ⟨1, 3, c_is_rising⟩, ⟨1, 5, c_is_web⟩, ⟨2, 2, c_web_of⟩, ⟨2, 5, c_renamed⟩, ⟨1, 1, c_law_feed⟩, ⟨2, 5, c_law_draw⟩, ⟨2, 8, c_law_masked⟩, ⟨2, 11, c_law_web⟩, ⟨2, 5, c_law_names⟩, ⟨2, 5, c_law_renamed⟩, ⟨1, 4, c_law_wide⟩, ⟨1, 14, c_law⟩]
abbrev i_is_whole : Nat := 0
abbrev i_is_place : Nat := 1
abbrev i_is_tie : Nat := 2
abbrev i_is_rising : Nat := 3
abbrev i_is_web : Nat := 4
abbrev i_web_of : Nat := 5
abbrev i_renamed : Nat := 6
abbrev i_law_feed : Nat := 7
abbrev i_law_draw : Nat := 8
abbrev i_law_masked : Nat := 9
abbrev i_law_web : Nat := 10
abbrev i_law_names : Nat := 11
abbrev i_law_renamed : Nat := 12
abbrev i_law_wide : Nat := 13
abbrev i_law : Nat := 14
def feedL (c : Nat) (a l t : Int) : List D := [.ref c, .int a, .int l, .int t]
structure Fd (S : Store) (f c : Nat) (cs : List Int) (a l t : Int) : Prop where
  ne : c ≠ f
  some_ : cs ≠ []
  cells : S[c]? = some (.lst (cs.map .int))
  feed : S[f]? = some (.lst (feedL c a l t))
/-- T: at most so many were drawn -/
def Fed (S : Store) (f c : Nat) (T : Nat) : Prop := ∃ cs a l t, 0 ≤ a ∧ 0 ≤ t ∧ t ≤ (T : Int) ∧ Fd S f c cs a l t
section
variable {S S1 : Store} {f c : Nat} {cs : List Int} {a l t u : Int}
theorem Fd.turn (h : Fd S f c cs a l t) : ixD S (.ref f) (.int 3) = some (.int t) := by simp only [ixD, h.feed]; rfl
theorem Fd.left (h : Fd S f c cs a l t) : ixD S (.ref f) (.int 2) = some (.int l) := by simp only [ixD, h.feed]; rfl
theorem Fd.at_ (h : Fd S f c cs a l t) : ixD S (.ref f) (.int 1) = some (.int a) := by simp only [ixD, h.feed]; rfl
theorem Fd.cel (h : Fd S f c cs a l t) : ixD S (.ref f) (.int 0) = some (.ref c) := by simp only [ixD, h.feed]; rfl
theorem Fd.put {a' l' t' : Int} (h : Fd S f c cs a l t) : Fd (S.set f (.lst (feedL c a' l' t'))) f c cs a' l' t' := ⟨h.ne, h.some_, by rw [set_other h.ne]; exact h.cells, set_self h.feed⟩
theorem Fd.sTurn (h : Fd S f c cs a l t) : setD S (.ref f) (.int 3) (.int u) = some (S.set f (.lst (feedL c a l u))) := by simp only [setD, h.feed]; rfl
theorem Fd.sLeft (h : Fd S f c cs a l t) : setD S (.ref f) (.int 2) (.int u) = some (S.set f (.lst (feedL c a u t))) := by simp only [setD, h.feed]; rfl
theorem Fd.sAt (h : Fd S f c cs a l t) : setD S (.ref f) (.int 1) (.int u) = some (S.set f (.lst (feedL c u l t))) := by simp only [setD, h.feed]; rfl
theorem Fd.len (h : Fd S f c cs a l t) : bltD S .len [.ref c] = some (.int cs.length) := by simp only [bltD, h.cells, List.length_map]
theorem Fed.more {T T' : Nat} (h : Fed S f c T) (hT : T ≤ T') : Fed S f c T' := by
  obtain ⟨cs, a, l, t, h0, t0, t1, h1⟩ := h
  exact ⟨cs, a, l, t, h0, t0, by omega, h1⟩
theorem Fed.step {T : Nat} (h : Fed S f c T) (s : Step f S S1) (e : S1[f]? = S[f]?) : Fed S1 f c T := by
  obtain ⟨cs, a, l, t, h0, t0, t1, h1⟩ := h
  exact ⟨cs, a, l, t, h0, t0, t1, h1.ne, h1.some_, s.get h1.cells h1.ne, e.trans h1.feed⟩
theorem Fed.keep {T : Nat} (h : Fed S f c T) (hl : S.length ≤ S1.length) (hk : ∀ n, n < S.length → S1[n]? = S[n]?) : Fed S1 f c T := by
  obtain ⟨cs, a, l, t, h0, t0, t1, h1⟩ := h
  exact ⟨cs, a, l, t, h0, t0, t1, h1.ne, h1.some_, by rw [hk _ (at_lt h1.cells)]; exact h1.cells, by rw [hk _ (at_lt h1.feed)]; exact h1.feed⟩
end
theorem Fed.keepLow {S2 s : Store} {f c T L : Nat} (h : Fed s f c T) (hf : f < L) (hc : c < L) (hk : ∀ n, n < L → S2[n]? = s[n]?) : Fed S2 f c T := by
  obtain ⟨cs, a, l, t, h0, t0, t1, h1⟩ := h
  exact ⟨cs, a, l, t, h0, t0, t1, h1.ne, h1.some_, by rw [hk _ hc]; exact h1.cells, by rw [hk _ hf]; exact h1.feed⟩
theorem draw_ok {F k f c T : Nat} {m : Int} {S : Store} (hT : T ≤ TM) (hf : Fed S f c T) (h0 : 0 < m) (h1 : m < 1000000) : Ok (call PP F (k + 1) i_law_draw [.ref f, .int m] S) fun d S' => ∃ v, d = .int v ∧ 0 ≤ v ∧ v < m ∧ Fed S' f c (T + 1) ∧ Step f S S' := by
  replace hT : T ≤ 1099511627776 := hT
  obtain ⟨cs, a, l, t, ha, t0, t1, hF⟩ := hf
  have fin : ∀ (v : Int) (S1 : Store) (a' l' : Int), 0 ≤ v → v < m → 0 ≤ a' → Fd S1 f c cs a' l' (t + 1) → Step f S S1 → Ok (gc S (.int v) S1) fun d S' => ∃ v, d = .int v ∧ 0 ≤ v ∧ v < m ∧ Fed S' f c (T + 1) ∧ Step f S S' := fun v S1 a' l' v0 v1 ha' g st =>
    gc_any rfl st.len fun S2 hl ho => ⟨v, rfl, v0, v1, ⟨cs, a', l', t + 1, ha', by omega, by omega, g.ne, g.some_, by rw [ho c (at_lt hF.cells)]; exact g.cells, by rw [ho f (at_lt hF.feed)]; exact g.feed⟩, ⟨hl, fun n hn e => (ho n hn).trans (st.old n hn e)⟩⟩
  refine ok_call rfl rfl ?_
  show Ok (evSs (call PP F k) F c_law_draw [some (.ref f), some (.int m), none, none, none] S) _
  have hm : (decide (0 < m) && decide (m < 1073741824)) = true := by simp only [Bool.and_eq_true, decide_eq_true_eq]; omega
  have dm : decide (0 < m) = true := decide_eq_true h0
  unfold c_law_draw
  refine ok_asub ?_
  simp only [evE, evT, evEs, evO, evL, ok_bindI, ok_okI, ok_optI, look, List.getElem?_cons_zero, List.getElem?_cons_succ, List.set_cons_zero, List.set_cons_succ, Option.some.injEq, exists_eq_left', Option.bind_some, Option.map_some, asBool, ltD, eqD, hF.turn, opD]
  refine ⟨_, hF.sTurn, ?_⟩
  have g1 : Fd _ f c cs a l (t + 1) := hF.put
  have p1 : Step f S (S.set f (.lst (feedL c a l (t + 1)))) := Step.put
  generalize S.set f (.lst (feedL c a l (t + 1))) = S1 at g1 p1
  refine ok_when ?_
  simp only [evE, evT, evEs, evO, evL, ok_bindI, ok_okI, ok_optI, look, List.getElem?_cons_zero, List.getElem?_cons_succ, List.set_cons_zero, List.set_cons_succ, Option.some.injEq, exists_eq_left', Option.bind_some, Option.map_some, asBool, ltD, eqD, g1.left, cpD]
  by_cases hl : 0 < l
  · rw [if_pos (decide_eq_true hl)]
    refine ok_asg ?_
    simp only [evE, evT, evEs, evO, evL, ok_bindI, ok_okI, ok_optI, look, List.getElem?_cons_zero, List.getElem?_cons_succ, List.set_cons_zero, List.set_cons_succ, Option.some.injEq, exists_eq_left', Option.bind_some, Option.map_some, asBool, ltD, eqD, g1.left, opD, dm, if_true]
    refine ok_asub ?_
    simp only [evE, evT, evEs, evO, evL, ok_bindI, ok_okI, ok_optI, look, List.getElem?_cons_zero, List.getElem?_cons_succ, List.set_cons_zero, List.set_cons_succ, Option.some.injEq, exists_eq_left', Option.bind_some, Option.map_some, asBool, ltD, eqD, g1.left, opD, hm, if_true]
    refine ⟨_, g1.sLeft, ok_ret ?_⟩
    simp only [evE, evT, evEs, evO, evL, ok_bindI, ok_okI, ok_optI, look, List.getElem?_cons_zero, List.getElem?_cons_succ, List.set_cons_zero, List.set_cons_succ, Option.some.injEq, exists_eq_left', Option.bind_some, Option.map_some, asBool, ltD, eqD]
    exact fin _ _ _ _ (Int.emod_nonneg _ (by omega)) (Int.emod_lt_of_pos _ h0) ha g1.put (p1.trans Step.put)
  · rw [if_neg (by simpa using hl)]
    have hp : (0 : Int) < cs.length := by
      have := List.length_pos_iff.mpr hF.some_
      omega
    have e1 : ixD S1 (.ref c) (.int (a % (cs.length : Int))) = some (.int (cs[(a % (cs.length : Int)).toNat]'(by
      have := Int.emod_lt_of_pos a hp
      have := Int.emod_nonneg a (b := (cs.length : Int)) (by omega)
      omega))) := by
      simp only [ixD, g1.cells]
      rw [atD_in (Int.emod_nonneg _ (by omega)) (by rw [List.length_map]; exact Int.emod_lt_of_pos _ hp)]
      simp
    refine ok_asg ?_
    simp only [evE, evT, evEs, evO, evL, ok_bindI, ok_okI, ok_optI, look, List.getElem?_cons_zero, List.getElem?_cons_succ, List.set_cons_zero, List.set_cons_succ, Option.some.injEq, exists_eq_left', Option.bind_some, Option.map_some, asBool, ltD, eqD, g1.cel, g1.at_, g1.len, opD, decide_eq_true hp, if_true, e1]
    generalize cs[(a % (cs.length : Int)).toNat]'_ = x
    refine ok_asub ?_
    simp only [evE, evT, evEs, evO, evL, ok_bindI, ok_okI, ok_optI, look, List.getElem?_cons_zero, List.getElem?_cons_succ, List.set_cons_zero, List.set_cons_succ, Option.some.injEq, exists_eq_left', Option.bind_some, Option.map_some, asBool, ltD, eqD, opD, g1.at_]
    refine ⟨_, g1.sAt, ?_⟩
    have g2 : Fd _ f c cs (a + 1) l (t + 1) := g1.put
    have p2 : Step f S (S1.set f (.lst (feedL c (a + 1) l (t + 1)))) := p1.trans Step.put
    generalize S1.set f (.lst (feedL c (a + 1) l (t + 1))) = S2 at g2 p2
    have tail : Ok (evSs (call PP F k) F (c_law_draw.drop 5) [some (.ref f), some (.int m), none, some (.int x), none] S2) (fun o s1 => match o with
      | .rt d => Ok (gc S d s1) fun d S' => ∃ v, d = .int v ∧ 0 ≤ v ∧ v < m ∧ Fed S' f c (T + 1) ∧ Step f S S'
      | .nx _ => Ok (gc S .non s1) fun d S' => ∃ v, d = .int v ∧ 0 ≤ v ∧ v < m ∧ Fed S' f c (T + 1) ∧ Step f S S'
      | _ => False) := by
      show Ok (evSs (call PP F k) F [_, _, _] _ S2) _
      have d1 : ∀ u : Int, okMul 5003 u = true := fun u => okMul_l (by decide)
      have d3 : ∀ u : Int, okMul u 48271 = true := fun u => okMul_r (by decide)
      have d4 : ∀ u : Int, okMul 7919 u = true := fun u => okMul_l (by decide)
      have d5 : ∀ u : Int, okMul u 69621 = true := fun u => okMul_r (by decide)
      have b1 : (decide ((0 : Int) < 1000003)) = true := by decide
      have b2 : (decide ((0 : Int) < 2147483629)) = true := by decide
      have b3 : (decide ((0 : Int) < 2147483587)) = true := by decide
      have b4 : (decide ((0 : Int) < 64) && decide ((64 : Int) < 1073741824)) = true := by decide
      have b5 : (decide ((0 : Int) < 13) && decide ((13 : Int) < 1073741824)) = true := by decide
      have d6 : ∀ u : Int, okMul (7919 * (t + 1)) u = true := fun u => okMul_l (by omega)
      refine ok_asg ?_
      simp only [evE, evT, evEs, evO, evL, ok_bindI, ok_okI, ok_optI, look, List.getElem?_cons_zero, List.getElem?_cons_succ, List.set_cons_zero, List.set_cons_succ, Option.some.injEq, exists_eq_left', Option.bind_some, Option.map_some, asBool, ltD, eqD, opD, g2.turn, d1, d3, b1, b2, if_true]
      refine ok_asg ?_
      simp only [evE, evT, evEs, evO, evL, ok_bindI, ok_okI, ok_optI, look, List.getElem?_cons_zero, List.getElem?_cons_succ, List.set_cons_zero, List.set_cons_succ, Option.some.injEq, exists_eq_left', Option.bind_some, Option.map_some, asBool, ltD, eqD, opD, g2.turn, d4, d5, d6, b3, b5, if_true]
      refine ok_ret ?_
      simp only [evE, evT, evEs, evO, evL, ok_bindI, ok_okI, ok_optI, look, List.getElem?_cons_zero, List.getElem?_cons_succ, List.set_cons_zero, List.set_cons_succ, Option.some.injEq, exists_eq_left', Option.bind_some, Option.map_some, asBool, ltD, eqD, opD, b4, dm, if_true]
      exact fin _ _ _ _ (Int.emod_nonneg _ (by omega)) (Int.emod_lt_of_pos _ h0) (by omega) g2 p2
    refine ok_when ?_
    have b1 : (decide ((0 : Int) ≤ 18) && decide ((18 : Int) ≤ 1000000) && decide ((10 : Int).natAbs < 2 ^ 64)) = true := by decide
    simp only [evE, evT, evEs, evO, evL, ok_bindI, ok_okI, ok_optI, look, List.getElem?_cons_zero, List.getElem?_cons_succ, List.set_cons_zero, List.set_cons_succ, Option.some.injEq, exists_eq_left', Option.bind_some, Option.map_some, asBool, ltD, eqD, opD, cpD, b1, if_true, g2.cel, g2.len, g2.at_]
    by_cases h5 : (10 : Int) ^ (18 : Int).toNat ≤ x
    · simp only [decide_eq_true h5, if_true, evE, evT, evEs, evO, evL, ok_bindI, ok_okI, ok_optI, look, List.getElem?_cons_zero, List.getElem?_cons_succ, List.set_cons_zero, List.set_cons_succ, Option.some.injEq, exists_eq_left', Option.bind_some, Option.map_some, asBool, ltD, eqD, opD, cpD, g2.cel, g2.len, g2.at_]
      by_cases h6 : a + 1 ≤ (cs.length : Int)
      · rw [if_pos (decide_eq_true h6)]
        refine ok_asub ?_
        simp only [evE, evT, evEs, evO, evL, ok_bindI, ok_okI, ok_optI, look, List.getElem?_cons_zero, List.getElem?_cons_succ, List.set_cons_zero, List.set_cons_succ, Option.some.injEq, exists_eq_left', Option.bind_some, Option.map_some, asBool, ltD, eqD, opD, hm, if_true]
        refine ⟨_, g2.sLeft, ok_ret ?_⟩
        simp only [evE, evT, evEs, evO, evL, ok_bindI, ok_okI, ok_optI, look, List.getElem?_cons_zero, List.getElem?_cons_succ, List.set_cons_zero, List.set_cons_succ, Option.some.injEq, exists_eq_left', Option.bind_some, Option.map_some, asBool, ltD, eqD, opD, dm, if_true]
        exact fin _ _ _ _ (Int.emod_nonneg _ (by omega)) (Int.emod_lt_of_pos _ h0) (by omega) g2.put (p2.trans Step.put)
      · rw [if_neg (by simpa using h6)]
        exact tail
    · simp only [decide_eq_false h5, Bool.false_eq_true, if_false, evE, evT, evEs, evO, evL, ok_bindI, ok_okI, ok_optI, look, List.getElem?_cons_zero, List.getElem?_cons_succ, List.set_cons_zero, List.set_cons_succ, Option.some.injEq, exists_eq_left', Option.bind_some, Option.map_some, asBool, ltD, eqD]
      exact tail
theorem feed_ok {F k : Nat} (ns : List Int) : Ok (call PP F (k + 1) i_law_feed [.fix (ns.map .int)] []) fun d S' => d = .ref 1 ∧ Fed S' 1 0 0 ∧ S'.length = 2 := by
  refine ok_call rfl rfl ?_
  show Ok (evSs (call PP F k) F c_law_feed [some (.fix (ns.map .int))] []) _
  unfold c_law_feed
  refine ok_ret ?_
  simp only [evE, evT, evEs, evO, evL, ok_bindI, ok_okI, ok_optI, look, List.getElem?_cons_zero, List.getElem?_cons_succ, List.set_cons_zero, List.set_cons_succ, Option.some.injEq, exists_eq_left', Option.bind_some, Option.map_some, asBool, ltD, eqD, Wb.alloc, seqAt, cut_map, show ∀ u : D, small [u].length = true from fun _ => rfl, heldL, Ls.kd, decide_true, Bool.true_or, Bool.true_and, if_true]
  have hc : (cut ns none (some 63)).length ≤ 63 := by
    unfold cut
    rw [List.length_take]
    have e1 : HT.sIx ns.length 0 none = 0 := rfl
    have e2 : HT.sIx ns.length ns.length (some (63 : Int)) ≤ 63 := by
      have : ((63 : Nat) : Int) = 63 := rfl
      rw [← this, HT.sIx_nat]
      omega
    rw [e1]
    omega
  generalize cut ns none (some 63) = cs at hc
  rw [if_pos (small_of (by simp; omega))]
  simp only [evE, evT, evEs, evO, evL, ok_bindI, ok_okI, ok_optI, look, List.getElem?_cons_zero, List.getElem?_cons_succ, List.set_cons_zero, List.set_cons_succ, Option.some.injEq, exists_eq_left', Option.bind_some, Option.map_some, asBool, ltD, eqD, show ∀ u v w x : D, small [u, v, w, x].length = true from fun _ _ _ _ => rfl, if_true]
  refine ⟨.ref 1, [.lst ((cs ++ [7]).map .int), .lst (feedL 0 0 0 0)], ?_, rfl, ⟨cs ++ [7], 0, 0, 0, Int.le_refl _, Int.le_refl _, Int.le_refl _, by decide, by simp, rfl, rfl⟩, rfl⟩
  rw [show cs.map D.int ++ [D.int 7] = (cs ++ [7]).map D.int by simp]
  rfl
/-- what goes on while things are drawn -/
def Gd (s : Store) (t : Nat) : Prop := Fed s 1 0 t ∧ 2 ≤ s.length
theorem fam {F : Nat} : Fam PP F i_law_draw Gd := ⟨fun s t h => h.2, fun s t t' h ht => ⟨h.1.more ht, h.2⟩, fun s s' t h h2 h0 h1 => ⟨h.1.keepLow (L := 2) (by decide) (by decide) fun n hn => by
    have : n = 0 ∨ n = 1 := by omega
    rcases this with rfl | rfl
    · exact h0
    · exact h1, h2⟩, fun k s t m h ht h0 h1 => ok_imp (draw_ok (k := k) ht h.1 h0 h1) fun d s' ⟨v, e, v0, v1, g, st⟩ => ⟨v, e, v0, v1, ⟨g, Nat.le_trans h.2 st.len⟩, st⟩⟩
theorem Gd.keep {s s1 : Store} {t : Nat} (h : Gd s t) (k : Keep s s1) : Gd s1 t := ⟨h.1.keep k.len k.old, Nat.le_trans h.2 k.len⟩
theorem Gd.more {s : Store} {t t' : Nat} (h : Gd s t) (ht : t ≤ t') : Gd s t' := ⟨h.1.more ht, h.2⟩
theorem Gd.cong {s s' : Store} {t : Nat} (g : Gd s t) (h : 2 ≤ s'.length) (h0 : s'[0]? = s[0]?) (h1 : s'[1]? = s[1]?) : Gd s' t := (fam (F := 0)).cong _ _ _ g h h0 h1
theorem Gd.set {s : Store} {t q : Nat} {o : O} (g : Gd s t) (h : 2 ≤ q) : Gd (s.set q o) t := g.cong (by simpa using g.2) (by rw [set_other (by omega)]) (by rw [set_other (by omega)])
section
variable {F k : Nat} {S : Store} {n m a b : Int} {ts us : List (Int × Int)}
theorem whole_ok : call PP F (k + 1) i_is_whole [.int a] S = .ok (.bl true) S := by
  refine call_pureQ rfl rfl ?_ rfl
  show Ok (evSs (call PP F k) F c_is_whole [some (.int a)] S) _
  unfold c_is_whole
  refine ok_ret ?_
  simp only [evE, evT, evEs, evO, evL, ok_bindI, ok_okI, ok_optI, look, List.getElem?_cons_zero, List.getElem?_cons_succ, List.set_cons_zero, List.set_cons_succ, Option.some.injEq, exists_eq_left', Option.bind_some, Option.map_some, asBool, ltD, eqD, isiD, if_true, Bool.not_false]
  exact ⟨_, rfl, rfl, Keep.rfl'⟩
theorem place_ok (h : 0 ≤ a ∧ a < n) : call PP F (k + 2) i_is_place [.int n, .int a] S = .ok (.bl true) S := by
  refine call_pureQ rfl rfl ?_ rfl
  show Ok (evSs (call PP F (k + 1)) F c_is_place [some (.int n), some (.int a)] S) _
  unfold c_is_place
  refine ok_ret ?_
  simp only [evE, evT, evEs, evO, evL, ok_bindI, ok_okI, ok_optI, look, List.getElem?_cons_zero, List.getElem?_cons_succ, List.set_cons_zero, List.set_cons_succ, Option.some.injEq, exists_eq_left', Option.bind_some, Option.map_some, asBool, ltD, eqD]
  refine ok_of whole_ok ?_
  simp only [evE, evT, evEs, evO, evL, ok_bindI, ok_okI, ok_optI, look, List.getElem?_cons_zero, List.getElem?_cons_succ, List.set_cons_zero, List.set_cons_succ, Option.some.injEq, exists_eq_left', Option.bind_some, Option.map_some, asBool, ltD, eqD, cpD, decide_eq_true h.1, decide_eq_true h.2, if_true]
  exact ⟨trivial, Keep.rfl'⟩
theorem istie_ok {p : Int × Int} (h : (0 ≤ p.1 ∧ p.1 < n) ∧ 0 ≤ p.2 ∧ p.2 < n) : call PP F (k + 3) i_is_tie [.int n, ofPair p] S = .ok (.bl true) S := by
  refine call_pureQ rfl rfl ?_ rfl
  show Ok (evSs (call PP F (k + 2)) F c_is_tie [some (.int n), some (.tup [.int p.1, .int p.2])] S) _
  have e0 : ∀ S : Store, ixD S (.tup [.int p.1, .int p.2]) (.int 0) = some (.int p.1) := fun _ => rfl
  have e1 : ∀ S : Store, ixD S (.tup [.int p.1, .int p.2]) (.int 1) = some (.int p.2) := fun _ => rfl
  unfold c_is_tie
  refine ok_ret ?_
  have l2 : ∀ S : Store, bltD S .len [.tup [.int p.1, .int p.2]] = some (.int 2) := fun _ => rfl
  simp only [evE, evT, evEs, evO, evL, ok_bindI, ok_okI, ok_optI, look, List.getElem?_cons_zero, List.getElem?_cons_succ, List.set_cons_zero, List.set_cons_succ, Option.some.injEq, exists_eq_left', Option.bind_some, Option.map_some, asBool, ltD, eqD, isiD, l2, if_true, cpD, e0, e1, decide_true]
  refine ok_of (place_ok h.1) ?_
  simp only [evE, evT, evEs, evO, evL, ok_bindI, ok_okI, ok_optI, look, List.getElem?_cons_zero, List.getElem?_cons_succ, List.set_cons_zero, List.set_cons_succ, Option.some.injEq, exists_eq_left', Option.bind_some, Option.map_some, asBool, ltD, eqD, e1, if_true]
  refine ok_of (place_ok h.2) ?_
  exact ⟨rfl, Keep.rfl'⟩
theorem all_true {α : Type} (l : List α) : asBools (l.map fun _ => D.bl true) = some (l.map fun _ => true) := by
  induction l with
  | nil => rfl
  | cons x r ih =>
    unfold asBools at ih ⊢
    show mapO asBool (.bl true :: r.map fun _ => D.bl true) = _
    unfold mapO
    rw [ih]
    rfl
theorem all_id {α : Type} (l : List α) : (l.map fun _ => true).all id = true := by
  induction l with
  | nil => rfl
  | cons x r ih => simpa using ih
theorem lex_pair {p q : Int × Int} : ltD (ofPair p) (ofPair q) = some (lt2 p q) := by
  show some (HT.lexLt [p.1, p.2] [q.1, q.2]) = _
  congr 1
  simp only [HT.lexLt, lt2]
  by_cases c : p.1 = q.1
  · by_cases d : p.2 = q.2
    · simp [c, d]
    · simp [c, d]
  · by_cases d : p.1 < q.1
    · simp [c, d]
    · simp [c, d]
theorem rising_ok (hu : Up ts) (nd : ts.Nodup) (hl : ts.length ≤ 1000) : call PP F (k + 1) i_is_rising [.tup (ts.map ofPair)] S = .ok (.bl true) S := by
  refine call_pureQ rfl rfl ?_ rfl
  show Ok (evSs (call PP F k) F c_is_rising [some (.tup (ts.map ofPair)), none, none] S) _
  unfold c_is_rising
  refine ok_ret ?_
  have st := up_strict hu nd
  have er : rngL 1 (ts.length : Int) = (List.range ((ts.length : Int) - 1).toNat).map fun i : Nat => D.int (1 + (i : Int)) := rfl
  simp only [evE, evT, evEs, evO, evL, ok_bindI, ok_okI, ok_optI, look, List.getElem?_cons_zero, List.getElem?_cons_succ, List.set_cons_zero, List.set_cons_succ, Option.some.injEq, exists_eq_left', Option.bind_some, Option.map_some, asBool, ltD, eqD, evIt, bltD, List.length_map, rngOk_of (a := 1) (b := (ts.length : Int)) (by omega), if_true, er]
  refine ⟨(List.range ((ts.length : Int) - 1).toNat).map fun _ => D.bl true, S, ?_, ?_⟩
  · refine comp_map (by simp; omega) fun i hi => ?_
    have hi := List.mem_range.mp hi
    have a1 : ixD S (.tup (ts.map ofPair)) (.int (1 + (i : Int) - 1)) = some (ofPair (ts[i]'(by omega))) := by
      show atD _ _ = _
      rw [atD_in (by omega) (by rw [List.length_map]; omega)]
      simp [show (1 + (i : Int) - 1).toNat = i by omega]
    have a2 : ixD S (.tup (ts.map ofPair)) (.int (1 + (i : Int))) = some (ofPair (ts[i + 1]'(by omega))) := by
      show atD _ _ = _
      rw [atD_in (by omega) (by rw [List.length_map]; omega)]
      simp [show (1 + (i : Int)).toNat = i + 1 by omega]
    have lt : lt2 (ts[i]'(by omega)) (ts[i + 1]'(by omega)) = true := List.pairwise_iff_getElem.mp st i (i + 1) (by omega) (by omega) (by omega)
    simp only [asT, evC, evE, look, Wb.wipe, List.length_cons, List.length_nil, Res.bind_ok, Res.opt_some, if_true, List.set_cons_zero, List.set_cons_succ, List.getElem?_cons_zero, List.getElem?_cons_succ, opD, a1, a2, cpD, lex_pair, lt, Option.map_some]
  · simp only [conD, all_true, all_id, Option.map_some, ok_optI, Option.some.injEq, exists_eq_left']
    exact ⟨trivial, Keep.rfl'⟩
theorem isweb_ok (hn : 0 ≤ n ∧ n ≤ 64) (ht : In n ts) (hu : Up ts) (nd : ts.Nodup) (hl : ts.length ≤ 1000) : call PP F (k + 4) i_is_web [webD n ts] S = .ok (.bl true) S := by
  refine call_pureQ rfl rfl ?_ rfl
  show Ok (evSs (call PP F (k + 3)) F c_is_web [some (webD n ts), none, none, none, none] S) _
  have t1 : ∀ S : Store, isiD S .isTup (webD n ts) = some true := fun _ => rfl
  have t2 : ∀ S : Store, isiD S .isTup (.tup (ts.map ofPair)) = some true := fun _ => rfl
  have l2 : ∀ S : Store, bltD S .len [webD n ts] = some (.int 2) := fun _ => rfl
  unfold c_is_web
  refine ok_when ?_
  simp only [evE, evT, evEs, evO, evL, ok_bindI, ok_okI, ok_optI, look, List.getElem?_cons_zero, List.getElem?_cons_succ, List.set_cons_zero, List.set_cons_succ, Option.some.injEq, exists_eq_left', Option.bind_some, Option.map_some, asBool, ltD, eqD, t1, l2, i0, cpD, opD, noB, decide_true, Bool.not_true, Bool.false_eq_true, if_false]
  refine ok_of (place_ok (by omega)) ?_
  refine ⟨true, rfl, ?_⟩
  simp only [Bool.not_true, Bool.false_eq_true, if_false]
  refine ok_cons ?_
  rw [evS]
  simp only [evE, evT, evEs, evO, evL, ok_bindI, ok_okI, ok_optI, look, List.getElem?_cons_zero, List.getElem?_cons_succ, List.set_cons_zero, List.set_cons_succ, Option.some.injEq, exists_eq_left', Option.bind_some, Option.map_some, asBool, ltD, eqD, webD, asT, asTs, Res.bind_ok, List.length_cons, List.length_nil, decide_true, if_true]
  show Ok (evSs (call PP F (k + 3)) F [_, _] [some (webD n ts), some (.int n), some (.tup (ts.map ofPair)), none, none] S) _
  refine ok_when ?_
  simp only [evE, evT, evEs, evO, evL, ok_bindI, ok_okI, ok_optI, look, List.getElem?_cons_zero, List.getElem?_cons_succ, List.set_cons_zero, List.set_cons_succ, Option.some.injEq, exists_eq_left', Option.bind_some, Option.map_some, asBool, ltD, eqD, t2, evIt, noB, Bool.not_true, Bool.false_eq_true, if_false]
  refine ⟨ts.map fun _ => D.bl true, S, comp_map (by omega) fun p hp => ?_, ?_⟩
  · simp only [asT, evC, evE, evEs, look, Wb.wipe, List.length_cons, List.length_nil, Res.bind_ok, Res.opt_some, if_true, List.set_cons_zero, List.set_cons_succ, List.getElem?_cons_zero, List.getElem?_cons_succ, istie_ok (k := k) (ht p hp)]
  · simp only [conD, all_true, all_id, Option.map_some, ok_optI, Option.some.injEq, exists_eq_left']
    refine ⟨true, rfl, ?_⟩
    simp only [Bool.not_true, Bool.false_eq_true, if_false]
    refine ok_ret ?_
    simp only [evE, evT, evEs, evO, evL, ok_bindI, ok_okI, ok_optI, look, List.getElem?_cons_zero, List.getElem?_cons_succ, List.set_cons_zero, List.set_cons_succ, Option.some.injEq, exists_eq_left', Option.bind_some, Option.map_some, asBool, ltD, eqD]
    exact ok_of (rising_ok hu nd hl) ⟨rfl, Keep.rfl'⟩
end
section
variable {F k q : Nat} {S s : Store} {n m a b : Int} {ts us : List (Int × Int)}
theorem webof_ok (hq : S[q]? = some (.lst (us.map ofPair))) (hin : In b us) (hb : b ≤ 1000000) (hl : us.length < 64) : call PP F (k + 1) i_web_of [.int n, .ref q] S = .ok (webD n (srtP (dedup us))) S := by
  refine call_pureQ rfl rfl ?_ (under_web _ _ _)
  show Ok (evSs (call PP F k) F c_web_of [some (.int n), some (.ref q)] S) _
  unfold c_web_of
  refine ok_ret ?_
  simp only [evE, evT, evEs, evO, evL, ok_bindI, ok_okI, ok_optI, look, List.getElem?_cons_zero, List.getElem?_cons_succ, List.set_cons_zero, List.set_cons_succ, Option.some.injEq, exists_eq_left', Option.bind_some, Option.map_some, asBool, ltD, eqD, lstAt, hq, sortSetD_pairs hl (fun p hp => by have := hin p hp; omega), conD, sm2, if_true]
  exact ⟨rfl, Keep.rfl'⟩
end
section
variable {F : Nat} {s : Store} {t : Nat} {n : Int}
theorem names_ok (g : Gd s t) (ht : t ≤ 900000) (hn : 0 ≤ n ∧ n ≤ 20) : Ok (call PP F 5 i_law_names [.ref 1, .int n] s) fun d s' => (∃ ps, d = rowD ps ∧ Pm n ps) ∧ Gd s' (t + 20) ∧ Step 1 s s' := by
  refine ok_call rfl rfl ?_
  show Ok (evSs (call PP F 4) F [_, _, _, _] [some (.ref 1), some (.int n), none, none, none] s) _
  refine ok_asg ?_
  simp only [evE, evT, evEs, evO, evL, ok_bindI, ok_okI, ok_optI, look, List.getElem?_cons_zero, List.getElem?_cons_succ, List.set_cons_zero, List.set_cons_succ, Option.some.injEq, exists_eq_left', Option.bind_some, Option.map_some, asBool, ltD, eqD, rngOk_of (a := 0) (b := n) (by omega), if_true, Wb.alloc]
  refine ok_asg ?_
  simp only [evE, evT, evEs, evO, evL, ok_bindI, ok_okI, ok_optI, look, List.getElem?_cons_zero, List.getElem?_cons_succ, List.set_cons_zero, List.set_cons_succ, Option.some.injEq, exists_eq_left', Option.bind_some, Option.map_some, asBool, ltD, eqD, show small ([] : List D).length = true from rfl, if_true, Wb.alloc]
  have e0 : (s ++ [O.lst (rngL 0 n)]).length = s.length + 1 := by simp
  rw [e0]
  have h1 : (s ++ [O.lst (rngL 0 n)] ++ [O.lst []])[s.length]? = some (.lst ((allP n).map D.int)) := by rw [← allP_eq]; exact push_old push_new
  have h2 : (s ++ [O.lst (rngL 0 n)] ++ [O.lst []])[s.length + 1]? = some (.lst (([] : List Int).map D.int)) := by rw [← e0]; exact push_new
  have g0 : Gd (s ++ [O.lst (rngL 0 n)] ++ [O.lst []]) t := g.keep (Keep.push.trans Keep.push)
  have st0 : Step 1 s (s ++ [O.lst (rngL 0 n)] ++ [O.lst []]) := Step.push.trans Step.push
  have l2 := g.2
  generalize s ++ [O.lst (rngL 0 n)] ++ [O.lst []] = s0 at h1 h2 g0 st0
  refine ok_for ?_
  simp only [evIt, evE, evT, evEs, evO, evL, ok_bindI, ok_okI, ok_optI, look, List.getElem?_cons_zero, List.getElem?_cons_succ, List.set_cons_zero, List.set_cons_succ, Option.some.injEq, exists_eq_left', Option.bind_some, Option.map_some, asBool, ltD, eqD, rngOk_of (a := 0) (b := n) (by omega), if_true]
  refine ok_loop (fun i r s1 => ∃ (x : Option D) (found left : List Int), r = [some (.ref 1), some (.int n), some (.ref s.length), some (.ref (s.length + 1)), x] ∧ s1[s.length]? = some (.lst (left.map D.int)) ∧ s1[s.length + 1]? = some (.lst (found.map D.int)) ∧ (found ++ left).Perm (allP n) ∧ found.length = i ∧ Gd s1 (t + i) ∧ Step 1 s s1) ⟨_, _, _, rfl, h1, h2, .refl _, rfl, g0, st0⟩ ?_ ?_
  · rintro i d r s1 hd ⟨x, found, left, rfl, h1, h2, h3, h4, g1, st⟩
    obtain ⟨rfl, hi⟩ := rng_at hd
    have hl := h3.length_eq
    rw [List.length_append, allP_len] at hl
    simp only [asT, Res.bind_ok, List.set_cons_zero, List.set_cons_succ]
    refine ok_ex ?_
    simp only [evE, evT, evEs, evO, evL, ok_bindI, ok_okI, ok_optI, look, List.getElem?_cons_zero, List.getElem?_cons_succ, List.set_cons_zero, List.set_cons_succ, Option.some.injEq, exists_eq_left', Option.bind_some, Option.map_some, asBool, ltD, eqD, lstAt, h1, h2, Option.isSome_some, if_true, bltD, List.length_map]
    refine ok_imp (draw_ok (k := 3) (m := (left.length : Int)) (by unfold TM; omega) g1.1 (by omega) (by omega)) fun d s2 ⟨v, e, v0, v1, g2, st2⟩ => ?_
    subst e
    have h1' := st2.get h1 (by omega)
    have h2' := st2.get h2 (by omega)
    have hv : v.toNat < left.length := by omega
    have e1 : methD s2 .popAt (.ref s.length) [.int v] = some (.int left[v.toNat], s2.set s.length (.lst ((left.eraseIdx v.toNat).map D.int))) := by
      simp only [methD, h1', List.length_map]
      rw [if_pos (by omega), List.getElem?_map, List.getElem?_eq_getElem hv, erase_map]
      rfl
    have h2'' : (s2.set s.length (.lst ((left.eraseIdx v.toNat).map D.int)))[s.length + 1]? = some (.lst (found.map D.int)) := by rw [set_other (by omega)]; exact h2'
    have e2 : methD (s2.set s.length (.lst ((left.eraseIdx v.toNat).map D.int))) .append (.ref (s.length + 1)) [.int left[v.toNat]] = some (.non, (s2.set s.length (.lst ((left.eraseIdx v.toNat).map D.int))).set (s.length + 1) (.lst ((found ++ [left[v.toNat]]).map D.int))) := by
      simp only [methD, h2'', List.length_map]
      rw [if_pos (small_of (by omega)), List.map_append]
      rfl
    simp only [e1, e2, evE, evT, evEs, evO, evL, ok_bindI, ok_okI, ok_optI, look, List.getElem?_cons_zero, List.getElem?_cons_succ, List.set_cons_zero, List.set_cons_succ, Option.some.injEq, exists_eq_left', Option.bind_some, Option.map_some, asBool, ltD, eqD]
    refine ok_nil ⟨_, found ++ [left[v.toNat]], left.eraseIdx v.toNat, rfl, ?_, set_self h2'', ?_, by simp [h4], ?_, ?_⟩
    · rw [set_other (by omega)]; exact set_self h1'
    · refine List.Perm.trans ?_ h3
      rw [List.append_assoc]
      exact List.Perm.append_left _ (erase_perm hv)
    · exact Gd.more (t := t + i + 1) (Gd.set (q := s.length + 1) (Gd.set (q := s.length) ⟨g2, Nat.le_trans g1.2 st2.len⟩ (by omega)) (by omega)) (by omega)
    · exact (st.trans st2).young (by omega) |>.young (by omega)
  · rintro r s1 ⟨x, found, left, rfl, h1, h2, h3, h4, g1, st⟩
    rw [rng_len, Int.sub_zero] at h4 g1
    have hl := h3.length_eq
    rw [List.length_append, allP_len] at hl
    have : left = [] := List.eq_nil_of_length_eq_zero (by omega)
    subst this
    rw [List.append_nil] at h3
    refine ok_ret ?_
    simp only [evE, evT, evEs, evO, evL, ok_bindI, ok_okI, ok_optI, look, List.getElem?_cons_zero, List.getElem?_cons_succ, List.set_cons_zero, List.set_cons_succ, Option.some.injEq, exists_eq_left', Option.bind_some, Option.map_some, asBool, ltD, eqD, seqAt, h2, conD]
    exact gc_any (under_ints found _) st.len fun s2 hl ho => ⟨⟨found, rfl, Pm.of_perm hn.1 h3⟩, (g1.cong (s' := s2) (by omega) (ho 0 (by omega)) (ho 1 (by omega))).more (by omega), ⟨hl, fun q hq h => (ho q hq).trans (st.old q hq h)⟩⟩
end
section
variable {F k q : Nat} {S s : Store} {n m a b : Int} {ts us : List (Int × Int)} {ps : List Int}
theorem renamed_ok (w : Webb n ts) (hn : n ≤ 1000) (hl : ps.length = n.toNat) (h : ∀ i, 0 ≤ i → i < n → 0 ≤ ps.getD i.toNat 0 ∧ ps.getD i.toNat 0 < n) : call PP F (k + 2) i_renamed [webD n ts, rowD ps] S = .ok (webD n (ren ps ts)) S := by
  refine call_pureQ rfl rfl ?_ (under_web _ _ _)
  show Ok (evSs (call PP F (k + 1)) F c_renamed [some (webD n ts), some (rowD ps), none, none, none] S) _
  unfold c_renamed
  have few := w.few
  refine ok_ret ?_
  simp only [evE, evT, evEs, evO, evL, ok_bindI, ok_okI, ok_optI, look, List.getElem?_cons_zero, List.getElem?_cons_succ, List.set_cons_zero, List.set_cons_succ, Option.some.injEq, exists_eq_left', Option.bind_some, Option.map_some, asBool, ltD, eqD, i0, i1, evIt]
  refine ⟨(ts.map (rp ps)).map ofPair, S, ?_, ?_⟩
  · rw [List.map_map]
    refine comp_map (by omega) fun p hp => ?_
    have hw := w.inn p hp
    have a1 : ixD S (rowD ps) (.int p.1) = some (.int (ps.getD p.1.toNat 0)) := rowD_ix hw.1.1 (by omega)
    have a2 : ixD S (rowD ps) (.int p.2) = some (.int (ps.getD p.2.toNat 0)) := rowD_ix hw.2.1 (by omega)
    simp only [asT, asTs, ofPair, evC, evE, evEs, look, Wb.wipe, List.length_cons, List.length_nil, Res.bind_ok, Res.opt_some, if_true, List.set_cons_zero, List.set_cons_succ, List.getElem?_cons_zero, List.getElem?_cons_succ, decide_true, show small (0 + 1 + 1) = true from rfl, Function.comp, a1, a2, rp]
  · simp only [Wb.alloc, ok_okI]
    refine ok_of (webof_ok (b := n) push_new (fun p hp => ?_) (by omega) (by simp; omega)) ?_
    · obtain ⟨x, hx, rfl⟩ := List.mem_map.mp hp
      have hw := w.inn x hx
      exact ⟨h _ hw.1.1 hw.1.2, h _ hw.2.1 hw.2.2⟩
    · exact ⟨rfl, Keep.push⟩
theorem lawren_ok (w : Webb n ts) (hn : n ≤ 1000) (hp : Pm n ps) : call PP F (k + 1) i_law_renamed [webD n ts, rowD ps] S = .ok (webD n (ren ps ts)) S := by
  refine call_pureQ rfl rfl ?_ (under_web _ _ _)
  show Ok (evSs (call PP F k) F c_law_renamed [some (webD n ts), some (rowD ps), none, none, none] S) _
  unfold c_law_renamed
  have few := w.few
  have hl := hp.len w.n0
  refine ok_ret ?_
  simp only [evE, evT, evEs, evO, evL, ok_bindI, ok_okI, ok_optI, look, List.getElem?_cons_zero, List.getElem?_cons_succ, List.set_cons_zero, List.set_cons_succ, Option.some.injEq, exists_eq_left', Option.bind_some, Option.map_some, asBool, ltD, eqD, i0, i1, evIt]
  refine ⟨(ts.map (rp ps)).map ofPair, S, ?_, ?_⟩
  · rw [List.map_map]
    refine comp_map (by omega) fun p hp => ?_
    have hw := w.inn p hp
    have a1 : ixD S (rowD ps) (.int p.1) = some (.int (ps.getD p.1.toNat 0)) := rowD_ix hw.1.1 (by omega)
    have a2 : ixD S (rowD ps) (.int p.2) = some (.int (ps.getD p.2.toNat 0)) := rowD_ix hw.2.1 (by omega)
    simp only [asT, asTs, ofPair, evC, evE, evEs, look, Wb.wipe, List.length_cons, List.length_nil, Res.bind_ok, Res.opt_some, if_true, List.set_cons_zero, List.set_cons_succ, List.getElem?_cons_zero, List.getElem?_cons_succ, decide_true, show small (0 + 1 + 1) = true from rfl, Function.comp, a1, a2, rp]
  · simp only [evE, evT, evEs, evO, evL, ok_bindI, ok_okI, ok_optI, look, List.getElem?_cons_zero, List.getElem?_cons_succ, List.set_cons_zero, List.set_cons_succ, Option.some.injEq, exists_eq_left', Option.bind_some, Option.map_some, asBool, ltD, eqD, sortD_pairs, ren_srt w hp, conD, sm2, if_true]
    exact ⟨rfl, Keep.rfl'⟩
end
section
variable {F : Nat} {s : Store} {t : Nat} {n : Int} {ts : List (Int × Int)} {ps : List Int}
theorem webs7 : webXV 7 100 (acall PP i_law_draw 60 [(i_law_web, 2)] 5 i_law_web [.feed, .fl (.int 7 7)]) = true := by decide +kernel
theorem wides : ([12, 13, 14, 15] : List Int).all (fun n => webXV 15 0 (acall PP i_law_draw 60 [] 5 i_law_wide [.fl (.int n n)])) = true := by decide +kernel
theorem web_ok (g : Gd s t) (ht : t ≤ 1000000) : Ok (call PP F 5 i_law_web [.ref 1, .int 7] s) fun d s' => (∃ n ts, d = webD n ts ∧ n ≤ 7 ∧ Webb n ts) ∧ Gd s' (t + 100) ∧ Step 1 s s' := by
  obtain ⟨x, dt, e, h1, h2⟩ := webXV_ok webs7
  exact ok_imp (acall_ok (F := F) fam 5 e _ s t g (by unfold TM Wd; omega) ⟨_, _, rfl, rfl, _, _, rfl, by simp [HoldF, mem], rfl⟩) fun d s' ⟨g1, g2, g3, _⟩ => ⟨h2 _ _ g3, g1.more (by omega), g2⟩
theorem wide_ok (g : Gd s t) (ht : t ≤ 1000000) (hn : 12 ≤ n ∧ n ≤ 15) : Ok (call PP F 5 i_law_wide [.int n] s) fun d s' => (∃ n ts, d = webD n ts ∧ n ≤ 15 ∧ Webb n ts) ∧ Gd s' t ∧ Step 1 s s' := by
  have hw := List.all_eq_true.mp wides n (by simp only [List.mem_cons]; omega)
  obtain ⟨x, dt, e, h1, h2⟩ := webXV_ok hw
  exact ok_imp (acall_ok (F := F) fam 5 e _ s t g (by unfold TM Wd; omega) ⟨_, _, rfl, by simp [HoldF, mem], rfl⟩) fun d s' ⟨g1, g2, g3, _⟩ => ⟨h2 _ _ g3, g1.more (by omega), g2⟩
theorem seqI_row {S : Store} : seqI S (rowD ps) = some (ps.map D.int) := rfl
theorem allP_mapAt {f : Int → Int} {i : Int} (h : 0 ≤ i ∧ i < n) : ((allP n).map f).getD i.toNat 0 = f i := by
  have hl : i.toNat < (allP n).length := by rw [allP_len]; omega
  have := allP_at (n := n) (i := i.toNat) (by omega)
  rw [List.getD_eq_getElem?_getD, List.getElem?_eq_getElem hl] at this
  rw [List.getD_eq_getElem?_getD, List.getElem?_map, List.getElem?_eq_getElem hl]
  show f _ = _
  rw [show (allP n)[i.toNat] = i by have e : (allP n)[i.toNat] = ((i.toNat : Nat) : Int) := this; omega]
def lawIn : List Wb.S := match c_law.getD 1 .pass with
  | .for_ _ _ b => b
  | _ => []
theorem law_in {x0 x3 x4 x5 x6 x7 x8 : Option D} (w : Webb n ts) (hn : n ≤ 15) (g : Gd s t) (ht : t ≤ 800000) {Q : Out → Store → Prop} (hQ : ∀ x3 x4 x5 x6 x7 x8 s', Gd s' (t + 40) → Q (.nx [x0, some (.ref 1), some (webD n ts), x3, x4, x5, x6, x7, x8, none, none, none, none, none]) s') : Ok (evSs (call PP F 5) F lawIn [x0, some (.ref 1), some (webD n ts), x3, x4, x5, x6, x7, x8, none, none, none, none, none] s) Q := by
  have n0 := w.n0
  have few := w.few
  obtain ⟨X, hX⟩ := repr_web (n := n) (b := n) (by omega) (by omega) w.inn (by omega)
  show Ok (evSs _ F [_, _, _, _, _, _, _, _] _ s) _
  refine ok_asg ?_
  simp only [evE, evT, evEs, evO, evL, ok_bindI, ok_okI, ok_optI, look, List.getElem?_cons_zero, List.getElem?_cons_succ, List.set_cons_zero, List.set_cons_succ, Option.some.injEq, exists_eq_left', Option.bind_some, Option.map_some, asBool, ltD, eqD, bltD, hX]
  refine ok_asgT ?_
  simp only [evE, evT, evEs, evO, evL, ok_bindI, ok_okI, ok_optI, look, List.getElem?_cons_zero, List.getElem?_cons_succ, List.set_cons_zero, List.set_cons_succ, Option.some.injEq, exists_eq_left', Option.bind_some, Option.map_some, asBool, ltD, eqD, i0]
  refine ok_imp (names_ok g (by omega) ⟨n0, by omega⟩) fun d s1 ⟨⟨p1, e, m1⟩, g1, _⟩ => ?_
  subst e
  refine ok_imp (names_ok g1 (by omega) ⟨n0, by omega⟩) fun d s2 ⟨⟨p2, e, m2⟩, g2, _⟩ => ?_
  subst e
  simp only [evE, evT, evEs, evO, evL, ok_bindI, ok_okI, ok_optI, look, List.getElem?_cons_zero, List.getElem?_cons_succ, List.set_cons_zero, List.set_cons_succ, Option.some.injEq, exists_eq_left', Option.bind_some, Option.map_some, asBool, ltD, eqD, show small (0 + 1 + 1) = true from rfl, if_true, asT, asTs, List.length_cons, List.length_nil, Res.bind_ok]
  have l1 := m1.len n0
  have l2 := m2.len n0
  have b1 : ∀ i, 0 ≤ i → i < n → 0 ≤ p1.getD i.toNat 0 ∧ p1.getD i.toNat 0 < n := fun i h0 h1 => m1.at_ n0 ⟨h0, h1⟩
  have b2 : ∀ i, 0 ≤ i → i < n → 0 ≤ p2.getD i.toNat 0 ∧ p2.getD i.toNat 0 < n := fun i h0 h1 => m2.at_ n0 ⟨h0, h1⟩
  have w1 := ren_web w n0 b1
  have few1 := w1.few
  obtain ⟨Y, hY⟩ := repr_web (n := n) (b := n) (by omega) (by omega) w1.inn (by omega)
  have w12 := ren_web w1 n0 b2
  have few12 := w12.few
  obtain ⟨Z, hZ⟩ := repr_web (n := n) (b := n) (by omega) (by omega) w12.inn (by omega)
  have eqX : ∀ (S : Store) (x : Str), cpD S .ne (.str x) (.str x) = some (.bl false) := fun S x => by simp [cpD, eqD, noB]
  have rg : rngOk 0 n = true := rngOk_of (by omega)
  refine ok_asg ?_
  simp only [evE, evT, evEs, evO, evL, ok_bindI, ok_okI, ok_optI, look, List.getElem?_cons_zero, List.getElem?_cons_succ, List.set_cons_zero, List.set_cons_succ, Option.some.injEq, exists_eq_left', Option.bind_some, Option.map_some, asBool, ltD, eqD]
  refine ok_of (renamed_ok (k := 3) w (by omega) l1 b1) ?_
  refine ok_when ?_
  simp only [evE, evT, evEs, evO, evL, ok_bindI, ok_okI, ok_optI, look, List.getElem?_cons_zero, List.getElem?_cons_succ, List.set_cons_zero, List.set_cons_succ, Option.some.injEq, exists_eq_left', Option.bind_some, Option.map_some, asBool, ltD, eqD, bltD, hY]
  refine ok_of (lawren_ok (k := 4) w (by omega) m1) ?_
  simp only [evE, evT, evEs, evO, evL, ok_bindI, ok_okI, ok_optI, look, List.getElem?_cons_zero, List.getElem?_cons_succ, List.set_cons_zero, List.set_cons_succ, Option.some.injEq, exists_eq_left', Option.bind_some, Option.map_some, asBool, ltD, eqD, hY, eqX, Bool.false_eq_true, if_false]
  refine ok_of (isweb_ok (k := 1) ⟨n0, by omega⟩ w1.inn w1.up w1.nd (by omega)) ?_
  simp only [evE, evT, evEs, evO, evL, ok_bindI, ok_okI, ok_optI, look, List.getElem?_cons_zero, List.getElem?_cons_succ, List.set_cons_zero, List.set_cons_succ, Option.some.injEq, exists_eq_left', Option.bind_some, Option.map_some, asBool, ltD, eqD, cpD, decide_true, Bool.not_true, Bool.false_eq_true, if_false]
  refine ok_asg ?_
  simp only [evE, evT, evEs, evO, evL, ok_bindI, ok_okI, ok_optI, look, List.getElem?_cons_zero, List.getElem?_cons_succ, List.set_cons_zero, List.set_cons_succ, Option.some.injEq, exists_eq_left', Option.bind_some, Option.map_some, asBool, ltD, eqD, evIt, i0, rg, if_true]
  refine ⟨_, s2, comp_rng (fun _ => true) (fun a => .int (plcOf p1 a)) (by omega) fun i hi => ?_, ?_⟩
  · have hm : (i : Int) ∈ p1 := (m1.mem _).mpr (by omega)
    simp only [asT, evC, evE, look, Wb.wipe, Res.bind_ok, Res.opt_some, if_true, List.set_cons_zero, List.set_cons_succ, List.getElem?_cons_zero, List.getElem?_cons_succ, seqI_row, Option.isSome_some, Int.zero_add, index_row (S := s2) (m := n) (by omega) (x := (i : Int)) (by omega) (fun y hy => (m1.mem y).mp hy) hm]
  have er : D.tup ((taken (fun _ => true) n.toNat).map fun a => D.int (plcOf p1 a)) = rowD ((allP n).map (plcOf p1)) := by
    unfold rowD allP
    rw [List.map_map]; rfl
  simp only [evE, evT, evEs, evO, evL, ok_bindI, ok_okI, ok_optI, look, List.getElem?_cons_zero, List.getElem?_cons_succ, List.set_cons_zero, List.set_cons_succ, Option.some.injEq, exists_eq_left', Option.bind_some, Option.map_some, asBool, ltD, eqD, conD, er]
  have r1 : ∀ i, 0 ≤ i → i < n → ((allP n).map (plcOf p1)).getD i.toNat 0 = plcOf p1 i := fun i h0 h1 => allP_mapAt ⟨h0, h1⟩
  have bb : ∀ i, 0 ≤ i → i < n → 0 ≤ plcOf p1 i ∧ plcOf p1 i < n := fun i h0 h1 => by
    have := plc_at ((m1.mem i).mpr ⟨h0, h1⟩)
    omega
  have rb : ren ((allP n).map (plcOf p1)) (ren p1 ts) = ts := by
    rw [ren_ren w (allP n) fun i h0 h1 => ?_]
    · exact ren_self w _ fun i h0 h1 => by rw [allP_at (by omega)]; omega
    · have hb := b1 i h0 h1
      rw [r1 _ hb.1 hb.2, allP_at (by omega)]
      have hp := plc_at ((m1.mem _).mpr hb)
      have := getD_inj m1.nd (by omega) (by omega) hp.2.2
      omega
  refine ok_when ?_
  simp only [evE, evT, evEs, evO, evL, ok_bindI, ok_okI, ok_optI, look, List.getElem?_cons_zero, List.getElem?_cons_succ, List.set_cons_zero, List.set_cons_succ, Option.some.injEq, exists_eq_left', Option.bind_some, Option.map_some, asBool, ltD, eqD]
  refine ok_of (renamed_ok (k := 3) (ps := (allP n).map (plcOf p1)) w1 (by omega) (by rw [List.length_map, allP_len]) (fun i h0 h1 => by rw [r1 i h0 h1]; exact bb i h0 h1)) ?_
  rw [rb]
  have ra : D.tup (rngL 0 n) = rowD (allP n) := by rw [allP_eq]; rfl
  simp only [evE, evT, evEs, evO, evL, ok_bindI, ok_okI, ok_optI, look, List.getElem?_cons_zero, List.getElem?_cons_succ, List.set_cons_zero, List.set_cons_succ, Option.some.injEq, exists_eq_left', Option.bind_some, Option.map_some, asBool, ltD, eqD, bltD, hX, eqX, Bool.false_eq_true, if_false, i0, rg, if_true, ra]
  refine ok_of (renamed_ok (k := 3) (ps := allP n) w (by omega) allP_len (fun i h0 h1 => by rw [allP_at (by omega)]; omega)) ?_
  rw [ren_self w (allP n) fun i h0 h1 => by rw [allP_at (by omega)]; omega]
  simp only [evE, evT, evEs, evO, evL, ok_bindI, ok_okI, ok_optI, look, List.getElem?_cons_zero, List.getElem?_cons_succ, List.set_cons_zero, List.set_cons_succ, Option.some.injEq, exists_eq_left', Option.bind_some, Option.map_some, asBool, ltD, eqD, bltD, hX, eqX, Bool.false_eq_true, if_false]
  refine ok_asg ?_
  simp only [evE, evT, evEs, evO, evL, ok_bindI, ok_okI, ok_optI, look, List.getElem?_cons_zero, List.getElem?_cons_succ, List.set_cons_zero, List.set_cons_succ, Option.some.injEq, exists_eq_left', Option.bind_some, Option.map_some, asBool, ltD, eqD, evIt, i0, rg, if_true]
  refine ⟨_, s2, comp_rng (fun _ => true) (fun a => .int (p2.getD (p1.getD a.toNat 0).toNat 0)) (by omega) fun i hi => ?_, ?_⟩
  · have a1 : ixD s2 (rowD p1) (.int (i : Int)) = some (.int (p1.getD ((i : Int)).toNat 0)) := rowD_ix (by omega) (by omega)
    have hb := b1 (i : Int) (by omega) hi
    have a2 : ixD s2 (rowD p2) (.int (p1.getD ((i : Int)).toNat 0)) = some (.int (p2.getD (p1.getD ((i : Int)).toNat 0).toNat 0)) := rowD_ix hb.1 (by omega)
    simp only [asT, evC, evE, look, Wb.wipe, Res.bind_ok, Res.opt_some, if_true, List.set_cons_zero, List.set_cons_succ, List.getElem?_cons_zero, List.getElem?_cons_succ, Int.zero_add, a1, a2]
  have er2 : D.tup ((taken (fun _ => true) n.toNat).map fun a => D.int (p2.getD (p1.getD a.toNat 0).toNat 0)) = rowD ((allP n).map fun a => p2.getD (p1.getD a.toNat 0).toNat 0) := by
    unfold rowD allP
    rw [List.map_map]; rfl
  have r2 : ∀ i, 0 ≤ i → i < n → ((allP n).map fun a => p2.getD (p1.getD a.toNat 0).toNat 0).getD i.toNat 0 = p2.getD (p1.getD i.toNat 0).toNat 0 := fun i h0 h1 => allP_mapAt (f := fun a => p2.getD (p1.getD a.toNat 0).toNat 0) ⟨h0, h1⟩
  have l3 : ((allP n).map fun a => p2.getD (p1.getD a.toNat 0).toNat 0).length = n.toNat := by rw [List.length_map, allP_len]
  simp only [evE, evT, evEs, evO, evL, ok_bindI, ok_okI, ok_optI, look, List.getElem?_cons_zero, List.getElem?_cons_succ, List.set_cons_zero, List.set_cons_succ, Option.some.injEq, exists_eq_left', Option.bind_some, Option.map_some, asBool, ltD, eqD, conD, er2]
  generalize ((allP n).map fun a => p2.getD (p1.getD a.toNat 0).toNat 0) = r at r2 l3
  have rc := ren_ren (qs := p2) w r r2
  have b3 : ∀ i, 0 ≤ i → i < n → 0 ≤ r.getD i.toNat 0 ∧ r.getD i.toNat 0 < n := fun i h0 h1 => by
    rw [r2 i h0 h1]
    have hb := b1 i h0 h1
    exact b2 _ hb.1 hb.2
  refine ok_when ?_
  simp only [evE, evT, evEs, evO, evL, ok_bindI, ok_okI, ok_optI, look, List.getElem?_cons_zero, List.getElem?_cons_succ, List.set_cons_zero, List.set_cons_succ, Option.some.injEq, exists_eq_left', Option.bind_some, Option.map_some, asBool, ltD, eqD]
  refine ok_of (renamed_ok (k := 3) w1 (by omega) l2 b2) ?_
  simp only [evE, evT, evEs, evO, evL, ok_bindI, ok_okI, ok_optI, look, List.getElem?_cons_zero, List.getElem?_cons_succ, List.set_cons_zero, List.set_cons_succ, Option.some.injEq, exists_eq_left', Option.bind_some, Option.map_some, asBool, ltD, eqD, bltD, hZ]
  refine ok_of (renamed_ok (k := 3) w (by omega) l3 b3) ?_
  rw [← rc]
  simp only [evE, evT, evEs, evO, evL, ok_bindI, ok_okI, ok_optI, look, List.getElem?_cons_zero, List.getElem?_cons_succ, List.set_cons_zero, List.set_cons_succ, Option.some.injEq, exists_eq_left', Option.bind_some, Option.map_some, asBool, ltD, eqD, bltD, hZ, eqX, Bool.false_eq_true, if_false, hX]
  exact ok_nil (hQ _ _ _ _ _ _ _ (g2.more (by omega)))
end
def ring (n : Int) : List (Int × Int) := (allP n).map fun a => (a, (a + 1) % n)
def shl (n : Int) : List Int := (allP n).map fun a => (a + 1) % n
theorem rings : ([2, 3, 4, 5, 6, 7, 8, 9, 10] : List Int).all (fun n => decide (srtP (ring n) = ring n) && decide (srtP (dedup (ring n)) = ring n) && decide (ren (shl n) (ring n) = ring n) && (ring n).all (fun p => decide (0 ≤ p.1) && decide (p.1 < n) && decide (0 ≤ p.2) && decide (p.2 < n)) && (shl n).all (fun x => decide (0 ≤ x) && decide (x < n))) = true := by decide +kernel
theorem law_ok {F k : Nat} (ns : List Int) : Ok (call PP F 6 i_law [.fix (ns.map .int)] []) fun d _ => d = .bl true := by
  refine ok_call rfl rfl ?_
  show Ok (evSs (call PP F 5) F [_, _, _, _, _] [some (.fix (ns.map .int)), none, none, none, none, none, none, none, none, none, none, none, none, none] []) _
  refine ok_asg ?_
  simp only [evE, evT, evEs, evO, evL, ok_bindI, ok_okI, ok_optI, look, List.getElem?_cons_zero, List.getElem?_cons_succ, List.set_cons_zero, List.set_cons_succ, Option.some.injEq, exists_eq_left', Option.bind_some, Option.map_some, asBool, ltD, eqD]
  refine ok_imp (feed_ok (k := 4) ns) fun d s1 ⟨e, g, l⟩ => ?_
  subst e
  refine ok_for ?_
  simp only [evIt, evE, evT, evEs, evO, evL, ok_bindI, ok_okI, ok_optI, look, List.getElem?_cons_zero, List.getElem?_cons_succ, List.set_cons_zero, List.set_cons_succ, Option.some.injEq, exists_eq_left', Option.bind_some, Option.map_some, asBool, ltD, eqD, rngOk_of (a := 0) (b := 6) (by omega), if_true]
  refine ok_comp (fun i acc s => (∀ d ∈ acc, ∃ n ts, d = webD n ts ∧ n ≤ 15 ∧ Webb n ts) ∧ acc.length = i ∧ Gd s (100 * i)) (by rw [rng_len]; decide) ⟨(fun d h => nomatch h), rfl, g, by omega⟩ ?_ ?_
  · rintro i d acc s hd ⟨h1, h2, h3⟩
    obtain ⟨rfl, hi⟩ := rng_at hd
    simp only [asT, evC, evE, evT, evEs, evO, evL, ok_bindI, ok_okI, ok_optI, look, List.getElem?_cons_zero, List.getElem?_cons_succ, List.set_cons_zero, List.set_cons_succ, Option.some.injEq, exists_eq_left', Option.bind_some, Option.map_some, asBool, ltD, eqD, Wb.wipe, Res.bind_ok, if_true]
    refine ok_imp (web_ok h3 (by omega)) fun d s2 ⟨⟨n, ts, e, hn, w⟩, g1, _⟩ => ?_
    refine ⟨fun d' hd => ?_, by simp [h2], g1.more (by omega)⟩
    rcases List.mem_append.mp hd with z | z
    · exact h1 d' z
    · rw [List.mem_singleton.mp z]; exact ⟨n, ts, e, by omega, w⟩
  · rintro acc s ⟨h1, h2, h3⟩
    rw [rng_len] at h2 h3
    simp only [evE, evT, evEs, evO, evL, ok_bindI, ok_okI, ok_optI, look, List.getElem?_cons_zero, List.getElem?_cons_succ, List.set_cons_zero, List.set_cons_succ, Option.some.injEq, exists_eq_left', Option.bind_some, Option.map_some, asBool, ltD, eqD, opD]
    refine ok_imp (draw_ok (k := 4) (m := 4) (by decide) h3.1 (by decide) (by decide)) fun d s2 ⟨v, e, v0, v1, g1, g2⟩ => ?_
    subst e
    simp only [evE, evT, evEs, evO, evL, ok_bindI, ok_okI, ok_optI, look, List.getElem?_cons_zero, List.getElem?_cons_succ, List.set_cons_zero, List.set_cons_succ, Option.some.injEq, exists_eq_left', Option.bind_some, Option.map_some, asBool, ltD, eqD, opD]
    refine ok_imp (wide_ok (n := 12 + v) (t := 601) ⟨g1, Nat.le_trans h3.2 g2.len⟩ (by decide) (by omega)) fun d s3 ⟨hw, g3, _⟩ => ?_
    have sm : small (acc.length + [d].length) = true := by rw [h2]; rfl
    simp only [evE, evT, evEs, evO, evL, ok_bindI, ok_okI, ok_optI, look, List.getElem?_cons_zero, List.getElem?_cons_succ, List.set_cons_zero, List.set_cons_succ, Option.some.injEq, exists_eq_left', Option.bind_some, Option.map_some, asBool, ltD, eqD, show ∀ a : D, small [a].length = true from fun _ => rfl, if_true, heldL, Ls.kd, decide_true, Bool.true_or, Bool.true_and, sm]
    have all : ∀ d' ∈ acc ++ [d], ∃ n ts, d' = webD n ts ∧ n ≤ 15 ∧ Webb n ts := by
      intro d' hd
      rcases List.mem_append.mp hd with z | z
      · exact h1 d' z
      · rw [List.mem_singleton.mp z]; exact hw
    have few : (acc ++ [d]).length ≤ 10 := by simp [h2]
    generalize acc ++ [d] = ds at all few
    refine ok_loop (fun j r s => (∃ x2 x3 x4 x5 x6 x7 x8, r = [some (.fix (ns.map .int)), some (.ref 1), x2, x3, x4, x5, x6, x7, x8, none, none, none, none, none]) ∧ j ≤ ds.length ∧ Gd s (601 + 40 * j)) ⟨⟨_, _, _, _, _, _, _, rfl⟩, Nat.zero_le _, g3⟩ ?_ ?_
    · rintro i d r s hd ⟨⟨x2, x3, x4, x5, x6, x7, x8, rfl⟩, hj, g⟩
      have hi := (List.getElem?_eq_some_iff.mp hd).1
      obtain ⟨n, ts, rfl, hn, w⟩ := all d (List.mem_of_getElem? hd)
      simp only [asT, Res.bind_ok, List.set_cons_zero, List.set_cons_succ]
      exact law_in w hn g (by omega) fun x3 x4 x5 x6 x7 x8 s' g' => ⟨⟨_, _, _, _, _, _, _, rfl⟩, hi, g'⟩
    · rintro r s ⟨⟨x2, x3, x4, x5, x6, x7, x8, rfl⟩, hj, g⟩
      refine ok_asg ?_
      simp only [evE, evT, evEs, evO, evL, ok_bindI, ok_okI, ok_optI, look, List.getElem?_cons_zero, List.getElem?_cons_succ, List.set_cons_zero, List.set_cons_succ, Option.some.injEq, exists_eq_left', Option.bind_some, Option.map_some, asBool, ltD, eqD]
      refine ok_imp (draw_ok (k := 4) (m := 9) (by unfold TM; omega) g.1 (by decide) (by decide)) fun d s4 ⟨v, e, v0, v1, g4, _⟩ => ?_
      subst e
      have e2 : ∀ S : Store, opD S .add (.int 2) (.int v) = some (.int (2 + v), S) := fun _ => rfl
      simp only [evE, evT, evEs, evO, evL, ok_bindI, ok_okI, ok_optI, look, List.getElem?_cons_zero, List.getElem?_cons_succ, List.set_cons_zero, List.set_cons_succ, Option.some.injEq, exists_eq_left', Option.bind_some, Option.map_some, asBool, ltD, eqD, e2]
      generalize hN : 2 + v = N
      have hN2 : 2 ≤ N ∧ N ≤ 10 := by omega
      have hr := List.all_eq_true.mp rings N (by simp only [List.mem_cons]; omega)
      simp only [Bool.and_eq_true, decide_eq_true_eq, List.all_eq_true] at hr
      obtain ⟨⟨⟨⟨h1, h2⟩, h3⟩, h4⟩, h5⟩ := hr
      have rg : rngOk 0 N = true := rngOk_of (by omega)
      have lenR : (ring N).length = N.toNat := by unfold ring; rw [List.length_map, allP_len]
      have lenS : (shl N).length = N.toNat := by unfold shl; rw [List.length_map, allP_len]
      have w : Webb N (ring N) := by
        refine ⟨by omega, fun p hp => ?_, ?_, ?_, by omega⟩
        · have := h4 p hp; omega
        · rw [← h1]; exact up_srt
        · rw [← h2]; exact (srt_perm _).nodup_iff.mpr (dedup_nodup _)
      have cellA : ∀ i : Int, ∀ S : Store, opD S .mod (.int (i + 1)) (.int N) = some (.int ((i + 1) % N), S) := fun i S => by
        show (if decide (0 < N) = true then _ else _) = _
        rw [if_pos (decide_eq_true (by omega))]
      have cellB : ∀ i : Int, ∀ S : Store, opD S .add (.int i) (.int 1) = some (.int (i + 1), S) := fun _ _ => rfl
      refine ok_asg ?_
      simp only [evE, evT, evEs, evO, evL, ok_bindI, ok_okI, ok_optI, look, List.getElem?_cons_zero, List.getElem?_cons_succ, List.set_cons_zero, List.set_cons_succ, Option.some.injEq, exists_eq_left', Option.bind_some, Option.map_some, asBool, ltD, eqD, evIt, rg, if_true]
      refine ⟨_, s4, comp_rng (fun _ => true) (fun a => ofPair (a, (a + 1) % N)) (by omega) fun i hi => ?_, ?_⟩
      · simp only [asT, evC, evE, evEs, look, Wb.wipe, Res.bind_ok, Res.opt_some, if_true, List.set_cons_zero, List.set_cons_succ, List.getElem?_cons_zero, List.getElem?_cons_succ, List.length_cons, List.length_nil, show small (0 + 1 + 1) = true from rfl, cellA, cellB, ofPair, Int.zero_add]
      have er : (taken (fun _ => true) N.toNat).map (fun a => ofPair (a, (a + 1) % N)) = (ring N).map ofPair := by
        unfold ring allP
        rw [List.map_map]; rfl
      simp only [evE, evT, evEs, evO, evL, ok_bindI, ok_okI, ok_optI, look, List.getElem?_cons_zero, List.getElem?_cons_succ, List.set_cons_zero, List.set_cons_succ, Option.some.injEq, exists_eq_left', Option.bind_some, Option.map_some, asBool, ltD, eqD, er, sortD_pairs, h1, conD, sm2, if_true]
      obtain ⟨X, hX⟩ := repr_web (n := N) (b := N) (by omega) (by omega) w.inn (by omega)
      have web : D.tup [.int N, .tup ((ring N).map ofPair)] = webD N (ring N) := rfl
      rw [web]
      refine ok_ret ?_
      simp only [evE, evT, evEs, evO, evL, ok_bindI, ok_okI, ok_optI, look, List.getElem?_cons_zero, List.getElem?_cons_succ, List.set_cons_zero, List.set_cons_succ, Option.some.injEq, exists_eq_left', Option.bind_some, Option.map_some, asBool, ltD, eqD, evIt, rg, if_true]
      refine ⟨_, s4, comp_rng (fun _ => true) (fun a => .int ((a + 1) % N)) (by omega) fun i hi => ?_, ?_⟩
      · simp only [asT, evC, evE, evEs, look, Wb.wipe, Res.bind_ok, Res.opt_some, if_true, List.set_cons_zero, List.set_cons_succ, List.getElem?_cons_zero, List.getElem?_cons_succ, cellA, cellB, Int.zero_add]
      have es : D.tup ((taken (fun _ => true) N.toNat).map fun a => D.int ((a + 1) % N)) = rowD (shl N) := by
        unfold rowD shl allP
        rw [List.map_map]; rfl
      simp only [evE, evT, evEs, evO, evL, ok_bindI, ok_okI, ok_optI, look, List.getElem?_cons_zero, List.getElem?_cons_succ, List.set_cons_zero, List.set_cons_succ, Option.some.injEq, exists_eq_left', Option.bind_some, Option.map_some, asBool, ltD, eqD, conD, es]
      refine ok_of (renamed_ok (k := 3) w (by omega) lenS fun i h0 h1 => ?_) ?_
      · have := h5 _ (getD_mem (ps := shl N) (i := i.toNat) (by omega))
        exact this
      rw [h3]
      simp only [evE, evT, evEs, evO, evL, ok_bindI, ok_okI, ok_optI, look, List.getElem?_cons_zero, List.getElem?_cons_succ, List.set_cons_zero, List.set_cons_succ, Option.some.injEq, exists_eq_left', Option.bind_some, Option.map_some, asBool, ltD, eqD, bltD, hX, cpD, eqD, decide_true, Option.map_some]
      exact gc_any rfl (Nat.zero_le _) fun _ _ _ => rfl
end K05

namespace K05
open PySem PySem.Spec PyProof.Rows Wb
def topS (i : Nat) : Stmt := PySem.Challenge.pw_webintoweb_k05_webs_renamed.main.body.getD i (.Pass ⟨0, 0, 0, 0⟩)
def mkDef (x : Str) (i : Nat) : He.DefD := ⟨(x, none), x, x, L2.defArgs (topS i), L2.defBody (topS i), L2.defScope (topS i), [], []⟩
def gm : Gm := ⟨["is_whole", "is_place", "is_tie", "is_rising", "is_web", "web_of", "renamed", "_law_feed", "_law_draw", "_law_masked", "_law_web", "_law_names", "_law_renamed", "_law_wide", "law"], [("MOST_PLACES", D.int 64)], ["all", "bool", "int", "isinstance", "len", "list", "range", "repr", "set", "sorted", "tuple"]⟩
def df0 : Df := ⟨mkDef "is_whole" 2, ["thing"], ["thing"], c_is_whole⟩
def df1 : Df := ⟨mkDef "is_place" 3, ["n", "thing"], ["n", "thing"], c_is_place⟩
def df2 : Df := ⟨mkDef "is_tie" 4, ["n", "thing"], ["n", "thing"], c_is_tie⟩
def df3 : Df := ⟨mkDef "is_rising" 5, ["some", ".0", "k"], ["some"], c_is_rising⟩
def df4 : Df := ⟨mkDef "is_web" 6, ["thing", "n", "ties", ".0", "tie"], ["thing"], c_is_web⟩
def df5 : Df := ⟨mkDef "web_of" 7, ["n", "pairs"], ["n", "pairs"], c_web_of⟩
def df6 : Df := ⟨mkDef "renamed" 8, ["web", "names", ".0", "a", "b"], ["web", "names"], c_renamed⟩
def df7 : Df := ⟨mkDef "_law_feed" 10, ["_law_script"], ["_law_script"], c_law_feed⟩
def df8 : Df := ⟨mkDef "_law_draw" 11, ["_law_feed_here", "_law_many", "_law_digit", "_law_cell", "_law_mixed"], ["_law_feed_here", "_law_many"], c_law_draw⟩
def df9 : Df := ⟨mkDef "_law_masked" 12, ["_law_feed_here", "_law_n", "_law_way", "_law_found", "_law_a", "_law_mask", ".0", "_law_b"], ["_law_feed_here", "_law_n"], c_law_masked⟩
def df10 : Df := ⟨mkDef "_law_web" 13, ["_law_feed_here", "_law_most", "_law_n", "_law_kind", "_law_a", "_law_some", "_law_half", "_law_pair", ".0", "_law_b", "_law_one"], ["_law_feed_here", "_law_most"], c_law_web⟩
def df11 : Df := ⟨mkDef "_law_names" 14, ["_law_feed_here", "_law_n", "_law_left", "_law_found", "_law_k"], ["_law_feed_here", "_law_n"], c_law_names⟩
def df12 : Df := ⟨mkDef "_law_renamed" 15, ["_law_web_here", "_law_names_here", ".0", "_law_a", "_law_b"], ["_law_web_here", "_law_names_here"], c_law_renamed⟩
def df13 : Df := ⟨mkDef "_law_wide" 16, ["_law_n", "_law_found", ".0", "_law_a"], ["_law_n"], c_law_wide⟩
def df14 : Df := ⟨mkDef "law" 17, ["_law_script", "_law_feed_here", "_law_web_here", "_law_kept", "_law_one", "_law_other", "_law_told", "_law_back", "_law_both", "_law_n", "_law_ring", ".0", "_law_k", "_law_a"], ["_law_script"], c_law⟩
def dfs : List Df := [df0, df1, df2, df3, df4, df5, df6, df7, df8, df9, df10, df11, df12, df13, df14]
theorem ok0 : df0.Ok gm := ⟨⟨rfl, rfl, rfl, by decide +kernel, rfl, by decide +kernel, by decide +kernel⟩, by kernel_rfl, fun _ _ _ _ _ _ us hl => match us, hl with | [_], _ => rfl⟩
theorem ok1 : df1.Ok gm := ⟨⟨rfl, rfl, rfl, by decide +kernel, rfl, by decide +kernel, by decide +kernel⟩, by kernel_rfl, fun _ _ _ _ _ _ us hl => match us, hl with | [_, _], _ => rfl⟩
theorem ok2 : df2.Ok gm := ⟨⟨rfl, rfl, rfl, by decide +kernel, rfl, by decide +kernel, by decide +kernel⟩, by kernel_rfl, fun _ _ _ _ _ _ us hl => match us, hl with | [_, _], _ => rfl⟩
theorem ok3 : df3.Ok gm := ⟨⟨rfl, rfl, rfl, by decide +kernel, rfl, by decide +kernel, by decide +kernel⟩, by kernel_rfl, fun _ _ _ _ _ _ us hl => match us, hl with | [_], _ => rfl⟩
theorem ok4 : df4.Ok gm := ⟨⟨rfl, rfl, rfl, by decide +kernel, rfl, by decide +kernel, by decide +kernel⟩, by kernel_rfl, fun _ _ _ _ _ _ us hl => match us, hl with | [_], _ => rfl⟩
theorem ok5 : df5.Ok gm := ⟨⟨rfl, rfl, rfl, by decide +kernel, rfl, by decide +kernel, by decide +kernel⟩, by kernel_rfl, fun _ _ _ _ _ _ us hl => match us, hl with | [_, _], _ => rfl⟩
theorem ok6 : df6.Ok gm := ⟨⟨rfl, rfl, rfl, by decide +kernel, rfl, by decide +kernel, by decide +kernel⟩, by kernel_rfl, fun _ _ _ _ _ _ us hl => match us, hl with | [_, _], _ => rfl⟩
theorem ok7 : df7.Ok gm := ⟨⟨rfl, rfl, rfl, by decide +kernel, rfl, by decide +kernel, by decide +kernel⟩, by kernel_rfl, fun _ _ _ _ _ _ us hl => match us, hl with | [_], _ => rfl⟩
theorem ok8 : df8.Ok gm := ⟨⟨rfl, rfl, rfl, by decide +kernel, rfl, by decide +kernel, by decide +kernel⟩, by kernel_rfl, fun _ _ _ _ _ _ us hl => match us, hl with | [_, _], _ => rfl⟩
theorem ok9 : df9.Ok gm := ⟨⟨rfl, rfl, rfl, by decide +kernel, rfl, by decide +kernel, by decide +kernel⟩, by kernel_rfl, fun _ _ _ _ _ _ us hl => match us, hl with | [_, _], _ => rfl⟩
theorem ok10 : df10.Ok gm := ⟨⟨rfl, rfl, rfl, by decide +kernel, rfl, by decide +kernel, by decide +kernel⟩, by kernel_rfl, fun _ _ _ _ _ _ us hl => match us, hl with | [_, _], _ => rfl⟩
theorem ok11 : df11.Ok gm := ⟨⟨rfl, rfl, rfl, by decide +kernel, rfl, by decide +kernel, by decide +kernel⟩, by kernel_rfl, fun _ _ _ _ _ _ us hl => match us, hl with | [_, _], _ => rfl⟩
theorem ok12 : df12.Ok gm := ⟨⟨rfl, rfl, rfl, by decide +kernel, rfl, by decide +kernel, by decide +kernel⟩, by kernel_rfl, fun _ _ _ _ _ _ us hl => match us, hl with | [_, _], _ => rfl⟩
theorem ok13 : df13.Ok gm := ⟨⟨rfl, rfl, rfl, by decide +kernel, rfl, by decide +kernel, by decide +kernel⟩, by kernel_rfl, fun _ _ _ _ _ _ us hl => match us, hl with | [_], _ => rfl⟩
theorem ok14 : df14.Ok gm := ⟨⟨rfl, rfl, rfl, by decide +kernel, rfl, by decide +kernel, by decide +kernel⟩, by kernel_rfl, fun _ _ _ _ _ _ us hl => match us, hl with | [_], _ => rfl⟩
theorem oks : ∀ x ∈ dfs, x.Ok gm := List.forall_mem_cons.mpr ⟨ok0, List.forall_mem_cons.mpr ⟨ok1, List.forall_mem_cons.mpr ⟨ok2, List.forall_mem_cons.mpr ⟨ok3, List.forall_mem_cons.mpr ⟨ok4, List.forall_mem_cons.mpr ⟨ok5, List.forall_mem_cons.mpr ⟨ok6, List.forall_mem_cons.mpr ⟨ok7, List.forall_mem_cons.mpr ⟨ok8, List.forall_mem_cons.mpr ⟨ok9, List.forall_mem_cons.mpr ⟨ok10, List.forall_mem_cons.mpr ⟨ok11, List.forall_mem_cons.mpr ⟨ok12, List.forall_mem_cons.mpr ⟨ok13, List.forall_mem_cons.mpr ⟨ok14, fun _ h => nomatch h⟩⟩⟩⟩⟩⟩⟩⟩⟩⟩⟩⟩⟩⟩⟩
theorem pls : ∀ x ∈ dfs, x.Plain := List.forall_mem_cons.mpr ⟨⟨rfl, rfl, rfl⟩, List.forall_mem_cons.mpr ⟨⟨rfl, rfl, rfl⟩, List.forall_mem_cons.mpr ⟨⟨rfl, rfl, rfl⟩, List.forall_mem_cons.mpr ⟨⟨rfl, rfl, rfl⟩, List.forall_mem_cons.mpr ⟨⟨rfl, rfl, rfl⟩, List.forall_mem_cons.mpr ⟨⟨rfl, rfl, rfl⟩, List.forall_mem_cons.mpr ⟨⟨rfl, rfl, rfl⟩, List.forall_mem_cons.mpr ⟨⟨rfl, rfl, rfl⟩, List.forall_mem_cons.mpr ⟨⟨rfl, rfl, rfl⟩, List.forall_mem_cons.mpr ⟨⟨rfl, rfl, rfl⟩, List.forall_mem_cons.mpr ⟨⟨rfl, rfl, rfl⟩, List.forall_mem_cons.mpr ⟨⟨rfl, rfl, rfl⟩, List.forall_mem_cons.mpr ⟨⟨rfl, rfl, rfl⟩, List.forall_mem_cons.mpr ⟨⟨rfl, rfl, rfl⟩, List.forall_mem_cons.mpr ⟨⟨rfl, rfl, rfl⟩, fun _ h => nomatch h⟩⟩⟩⟩⟩⟩⟩⟩⟩⟩⟩⟩⟩⟩⟩
def consts : List (Str × Int) := [("MOST_PLACES", 64)]
def fn : List He.DefD := [mkDef "is_whole" 2, mkDef "is_place" 3, mkDef "is_tie" 4, mkDef "is_rising" 5, mkDef "is_web" 6, mkDef "web_of" 7, mkDef "renamed" 8, mkDef "_law_feed" 10, mkDef "_law_draw" 11, mkDef "_law_masked" 12, mkDef "_law_web" 13, mkDef "_law_names" 14, mkDef "_law_renamed" 15, mkDef "_law_wide" 16, mkDef "law" 17]
def fa : List He.Fa := [.glo "is_whole", .glo "is_place", .glo "is_tie", .glo "is_rising", .glo "is_web", .glo "web_of", .glo "renamed", .glo "_law_feed", .glo "_law_draw", .glo "_law_masked", .glo "_law_web", .glo "_law_names", .glo "_law_renamed", .glo "_law_wide", .glo "law", .free "all", .free "bool", .free "int", .free "isinstance", .free "len", .free "list", .free "range", .free "repr", .free "set", .free "sorted", .free "tuple", .int "MOST_PLACES" 64]
abbrev RowW : PySem.W.OpenRow := PySem.W.OpenLaw.row PySem.Challenge.rw_webintoweb_k05_webs_renamed
abbrev hk : PySem.W.Hook := He.hookD 4 fa fn
def ob (s : PySem.W.SharedT) : He.AlD := He.obsDG 4 fa fn (HandSHeadRun.getT s)
theorem ob_same (s : PySem.W.SharedT) : ob s = hk.obs s.abs := He.obsDG_eq (HandSHeadRun.getT_eq s)
def loose : List Str := (["MOST_PLACES", "is_whole", "is_place", "is_tie", "is_rising", "is_web", "web_of", "renamed", "_law_feed", "_law_draw", "_law_masked", "_law_web", "_law_names", "_law_renamed", "_law_wide"] : List Str)
theorem runs (w : World) : HandSHeadRun.RunEq RowW (PySem.W.view RowW.prog [17]) hk ob 800 loose w := by
  intro os
  kernel_rfl
theorem room : RoomG 6 callerA := ⟨⟨rfl, by decide, by decide⟩, rfl⟩
theorem plain (ns : List Int) : ∃ S, Wb.call (dfs.map Df.fn) 200 6 14 [.fix (ns.map .int)] [] = .ok (.bl true) S := by
  obtain ⟨d, S, e, h⟩ := law_ok (F := 200) (k := 0) ns
  subst h
  exact ⟨S, e⟩
theorem ends {P : Program} {w : World} {K : PySem.W.Frag} {h : Heap} {mg : Str → Option Value} {f : Addr} (inH : K.In h) (glob : h.Ns mainGlobals mg) (named : mg ("law" : Str) = some (.ref f)) (c : He.SaysD fa fn K) :
    ∃ fd : FuncData, (∀ (s : Shared) (v : Value), BindsTo s fd ⟨[v], []⟩ [("_law_script", v)]) ∧ ∀ ns : List Int, ns.length ≤ 63 → LawOk P w K mg 6 f fd "_law_script" ns :=
  law_of (G := gm) (dfs := dfs) (F := 200) (li := 14) (xl := df14) (cs := consts) inH glob c rfl rfl rfl rfl pls oks rfl rfl named fun ns _ => plain ns
end K05
open PySem PySem.W PySem.Calls PyProof.Rows
theorem PySem.Challenge.cw_webintoweb_k05_webs_renamed_holds : PySem.Challenge.rw_webintoweb_k05_webs_renamed.Holds := by
  w_on; o_law
  refine HandSHeadRun.head_any (r := OpenLaw.row PySem.Challenge.rw_webintoweb_k05_webs_renamed) (q := view (OpenLaw.row PySem.Challenge.rw_webintoweb_k05_webs_renamed).prog [17]) (H := K05.hk) (ob := K05.ob) (M := 800) (loose := K05.loose) (d := HandSHeadRun.topDef (OpenLaw.row PySem.Challenge.rw_webintoweb_k05_webs_renamed).prog 17) (kwd := []) K05.ob_same
    (by kernel_rfl) (fun s => by kernel_rfl) K05.runs (by kernel_rfl) (by kernel_rfl) (by kernel_rfl) (by rfl) (by first | assumption | decide +kernel) (by decide +kernel) ⟨rfl, rfl, rfl, rfl, rfl, by decide +kernel⟩ ?hw ?hc
  case hw => w_witness2
  case hc =>
    refine Wb.walk_ofG (l := PySem.Challenge.rw_webintoweb_k05_webs_renamed) (n := 63) (k := 6) (x := "_law_script") rfl (by decide) (by kernel_rfl) K05.room ?F
    intro w mg fa h Y G named
    obtain ⟨K, inH, c⟩ := Y
    have named2 : mg ("law" : PySem.Str) = some (.ref fa) := by
      have e : (HandSHeadRun.topDef (OpenLaw.row PySem.Challenge.rw_webintoweb_k05_webs_renamed).prog 17).name = ("law" : PySem.Str) := by kernel_rfl
      rw [← e]
      exact named
    obtain ⟨fd, bnd, ok⟩ := K05.ends (P := (PySem.Challenge.rw_webintoweb_k05_webs_renamed).prog) (w := w) inH G named2 c
    exact ⟨K, fd, inH, bnd, ok⟩
