import PyProof.Rows.All
import Wide.All
import OpenK.AllK
import Wide.FinOn
import HandS.ForMost
import HandS.Deep
import HandS.TupAny
import HandS.TupMul
import HandS.Style
import HandS.SortInts
import HandS.SortRule
import HandS.IsInst
import HandS.Conv
import HandS.Walk
import HandS.Zip
import HandS.Rev
import HandS.RevRange
import HandS.EndBits
import HandS.Exc
import HandS.WordsExc
import HandS.Strs
import HandS.SetFor
import PyProof.EqLayable
import PyProof.ReprReads
import PyProof.Fits
import HandS.Star
import HandS.HotCalls
import HandS.ExcField
import KE.KTryMore
import HandS.ExcInit
import HandS.Small
import HandS.TryMany
import KE.KExcInit
import KE.KExcIs
import KE.KDictZip
import HandS.NoneIn
import HandS.Wide
import PyProof.TableCode
import PyProof.ReprBulk
import PyProof.Rows.ReprOcc
import PySem.Challenge.RW_mergelevels_k42_tables_compared
set_option Elab.async false
set_option linter.all false
set_option maxRecDepth 100000
set_option maxHeartbeats 4000000
namespace EnT
open PySem PySem.Spec PyProof.Rows L2
section
theorem meets_enumerate_newT (l : Addr) (items : Array Value) :
    Meets (Builtin.«enumerate.__new__» ⟨[.type "enumerate", .ref l], []⟩) (fun _ R s => s.heap.IsTuple l items ∧
      R (.ok (.ret (.ref (s.heap.push { cls := .type "tuple_iterator", data := .fields #[.ref l, .int 0 0] }).objs.size)))
        { s with heap := (s.heap.push { cls := .type "tuple_iterator", data := .fields #[.ref l, .int 0 0] }).push { cls := .type "enumerate", data := .fields #[.none, .bool false, .ref s.heap.objs.size, rawInt 0, .none, .none] } }) :=
  .of_wp fun prog w A R s h => by
    obtain ⟨hp, g, d, tk, os⟩ := s; obtain ⟨hl, h⟩ := h
    have hsub := sub_enumerate
    have hL : Heap.IsTuple (Shared.heap ⟨hp, g, d, tk, os⟩) l items := hl
    wp_walk
    refine wpAny_stack_any fun st => wpAny_pure ?_
    split
    · rename_i c _ _ _ _ _
      cases (c == Value.type "enumerate")
      · wp_walk using wpAny_pyIter_tuple hL
        exact ⟨_, rfl, h⟩
      · wp_walk using wpAny_pyIter_tuple hL
        exact ⟨_, rfl, h⟩
    · wp_walk using wpAny_pyIter_tuple hL
      exact ⟨_, rfl, h⟩
variable {prog : Program} {w : World} {A : Around} {E : Value → Shared → Prop} {s : Shared}
theorem call_enumerate_tuple {l : Addr} {items : Array Value} {Q : Value → Shared → Prop} (hL : s.heap.IsTuple l items)
    (h : ∀ h', IsEnum h' (s.heap.objs.size + 1) s.heap.objs.size 0 .none → h'.IsTupleIter s.heap.objs.size l 0 → h'.objs.size = s.heap.objs.size + 2 →
      (∀ b o, s.heap.get? b = some o → h'.get? b = some o) → Q (.ref (s.heap.objs.size + 1)) { s with heap := h' }) :
    wpAny (model prog w) A (call (.type "enumerate") [.ref l]) Q E s := by
  refine callType_new F.called_enumerate (by decide) (F.typeCall_enumerate_1 _) (F.newCall_enumerate_1 _) (fun obj => F.args_object_init_2 obj _) F.entry_enumerate_new
    (meets_enumerate_newT l items) ⟨hL, ?_⟩
  have hz : (s.heap.push { cls := .type "tuple_iterator", data := .fields #[.ref l, .int 0 0] }).objs.size = s.heap.objs.size + 1 := Heap.size_push ..
  show _ ∧ _
  rw [hz]
  have he : IsEnum ((s.heap.push { cls := .type "tuple_iterator", data := .fields #[.ref l, .int 0 0] }).push
      { cls := .type "enumerate", data := .fields #[.none, .bool false, .ref s.heap.objs.size, rawInt 0, .none, .none] }) (s.heap.objs.size + 1) s.heap.objs.size 0 .none := by
    have := Heap.get?_push_size (s.heap.push { cls := .type "tuple_iterator", data := .fields #[.ref l, .int 0 0] })
      (o := { cls := .type "enumerate", data := .fields #[.none, .bool false, .ref s.heap.objs.size, rawInt 0, .none, .none] }) rfl
    rw [hz] at this; exact this
  refine ⟨⟨_, he, rfl⟩, h _ he ⟨_, Heap.get?_push_of_some _ (Heap.get?_push_size _ rfl), rfl, rfl⟩ (by rw [Heap.size_push, hz]) fun b o x => Heap.get?_push_of_some _ (Heap.get?_push_of_some _ x)⟩
theorem enumT_next_item {e it l : Addr} {i : Nat} {items : Array Value} {x old : Value} {Q : Value → Shared → Prop}
    (he : IsEnum s.heap e it i old) (hit : s.heap.IsTupleIter it l i) (hl : s.heap.IsTuple l items) (hx : items[i]? = some x) (hne : e ≠ it)
    (hQ : ∀ h', IsEnumOut h' e it ((i : Int) + 1) x s.heap.objs.size → h'.IsTupleIter it l (i + 1) →
      h'.get? s.heap.objs.size = some { cls := .type "tuple", data := .seq #[.int i s.toks, x] } → h'.objs.size = s.heap.objs.size + 1 →
      (∀ b o, b ≠ e → b ≠ it → s.heap.get? b = some o → h'.get? b = some o) → Q (.ref s.heap.objs.size) { s with heap := h', toks := s.toks + 1 }) :
    wpAny (model prog w) A (Builtin.«enumerate.__next__» ⟨[.ref e], []⟩) (fun fin s' => ∃ v, fin = .done (.ret v) ∧ Q v s') E s := by
  obtain ⟨hp, g, d, tk, os⟩ := s
  show wpAny _ _ (field (.ref e) 2 >>= _) _ _ _
  refine wpAny_bind (wpAny_field he rfl (x := .ref it) rfl ?_)
  refine wpAny_bind (RZ.nextOf_tuple_item hit hl hx fun h₁ hit₁ hs₁ => ?_)
  replace hs₁ : Heap.SameBut it hp h₁ := hs₁
  have he₁ : IsEnum h₁ e it i old := (hs₁.2 e hne).trans he
  show wpAny _ _ (field (.ref e) 3 >>= _) _ _ ⟨h₁, g, d, tk, os⟩
  refine wpAny_bind (wpAny_field he₁ rfl (x := rawInt i) rfl ?_)
  show wpAny _ _ (field (.ref e) 4 >>= _) _ _ ⟨h₁, g, d, tk, os⟩
  refine wpAny_bind (wpAny_field he₁ rfl (x := .none) rfl ?_)
  show wpAny _ _ (mkInt i >>= _) _ _ ⟨h₁, g, d, tk, os⟩
  refine wpAny_bind (wpAny_mkInt ?_)
  show wpAny _ _ (setField (.ref e) 3 (rawInt ((i : Int) + 1)) >>= _) _ _ ⟨h₁, g, d, tk + 1, os⟩
  refine wpAny_bind (wpAny_setField_rec he₁ (by simp) fun h₂ he₂ hs₂ => ?_)
  replace hs₂ : Heap.SameBut e h₁ h₂ := hs₂
  replace he₂ : IsEnum h₂ e it ((i : Int) + 1) old := he₂
  show wpAny _ _ (setField (.ref e) 4 .none >>= _) _ _ ⟨h₂, g, d, tk + 1, os⟩
  refine wpAny_bind (wpAny_setField_rec he₂ (by simp) fun h₃ he₃ hs₃ => ?_)
  replace hs₃ : Heap.SameBut e h₂ h₃ := hs₃
  replace he₃ : IsEnum h₃ e it ((i : Int) + 1) old := he₃
  show wpAny _ _ (newTuple [.int i tk, x] >>= _) _ _ ⟨h₃, g, d, tk + 1, os⟩
  refine wpAny_bind (wpAny_newTuple ?_)
  have he₄ : IsEnum (h₃.push { cls := .type "tuple", data := .seq #[.int i tk, x] }) e it ((i : Int) + 1) old := Heap.get?_push_of_some _ he₃
  generalize hh₄ : h₃.push { cls := .type "tuple", data := .seq #[.int i tk, x] } = h₄ at he₄
  have hsz : h₃.objs.size = hp.objs.size := by rw [hs₃.1, hs₂.1, hs₁.1]
  have hel : e < hp.objs.size := Heap.lt_size he
  have ht₄ : h₄.get? hp.objs.size = some { cls := .type "tuple", data := .seq #[.int i tk, x] } := by rw [← hh₄, ← hsz]; exact Heap.get?_push_size _ rfl
  have hz₄ : h₄.objs.size = hp.objs.size + 1 := by rw [← hh₄, Heap.size_push, hsz]
  have hk₄ : ∀ b o, b ≠ e → b ≠ it → hp.get? b = some o → h₄.get? b = some o := fun b o hbe hbi hb => by
    rw [← hh₄]; exact Heap.get?_push_of_some _ (hs₃.extBut b o hbe (hs₂.extBut b o hbe (hs₁.extBut b o hbi hb)))
  have hit₄ : h₄.IsTupleIter it l (i + 1) := by
    rw [← hh₄]; obtain ⟨o, ho, r⟩ := (hit₁.extBut hs₂.extBut (Ne.symm hne)).extBut hs₃.extBut (Ne.symm hne); exact ⟨o, Heap.get?_push_of_some _ ho, r⟩
  show wpAny _ _ (Builtin.SmallTypes.ownedTupleIsFree (.ref e) >>= _) _ _ ⟨h₄, g, d, tk + 1, os⟩
  rw [hsz]
  clear hh₄ he₃ hs₃ he₂ hs₂ he₁ hs₁ hit₁ hsz h₃ h₂ h₁
  refine wpAny_bind ?_
  · unfold Builtin.SmallTypes.ownedTupleIsFree
    refine wpAny_bind (wpAny_field he₄ rfl (x := .none) rfl (wpAny_pure ?_))
    simp only [if_true]
    refine wpAny_bind (wpAny_rule ?_)
    refine wpAny_bind (wpAny_field he₄ rfl (x := old) rfl ?_)
    refine wpAny_bind (wpAny_setField_rec he₄ (by simp) fun h₅ he₅ hs₅ => ?_)
    replace hs₅ : Heap.SameBut e h₄ h₅ := hs₅
    replace he₅ : IsEnum h₅ e it ((i : Int) + 1) x := he₅
    show wpAny _ _ (Builtin.SmallTypes.ownedTupleHandOut (.ref e) (.ref hp.objs.size) >>= _) _ _ ⟨h₅, g, d, tk + 1, os⟩
    refine wpAny_bind ?_
    · unfold Builtin.SmallTypes.ownedTupleHandOut
      refine wpAny_bind (wpAny_setField_rec he₅ (by simp) fun h₆ he₆ hs₆ => ?_)
      replace hs₆ : Heap.SameBut e h₅ h₆ := hs₆
      replace he₆ : IsEnumOut h₆ e it ((i : Int) + 1) x hp.objs.size := he₆
      refine wpAny_setField_rec he₆ (by simp) fun h₇ he₇ hs₇ => ?_
      replace hs₇ : Heap.SameBut e h₆ h₇ := hs₇
      replace he₇ : IsEnumOut h₇ e it ((i : Int) + 1) x hp.objs.size := he₇
      refine wpAny_bind (wpAny_letGo (wpAny_pure ⟨_, rfl, hQ h₇ he₇ ?_ ?_ ?_ ?_⟩))
      · exact ((hit₄.extBut hs₅.extBut (Ne.symm hne)).extBut hs₆.extBut (Ne.symm hne)).extBut hs₇.extBut (Ne.symm hne)
      · exact hs₇.extBut _ _ (Nat.ne_of_gt hel) (hs₆.extBut _ _ (Nat.ne_of_gt hel) (hs₅.extBut _ _ (Nat.ne_of_gt hel) ht₄))
      · rw [hs₇.1, hs₆.1, hs₅.1, hz₄]
      · exact fun b o hbe hbi hb => hs₇.extBut b o hbe (hs₆.extBut b o hbe (hs₅.extBut b o hbe (hk₄ b o hbe hbi hb)))

theorem pyNext_enumT_item {e it l : Addr} {i : Nat} {items : Array Value} {x old : Value} {Q : Option Value → Shared → Prop}
    (he : IsEnum s.heap e it i old) (hit : s.heap.IsTupleIter it l i) (hl : s.heap.IsTuple l items) (hx : items[i]? = some x) (hne : e ≠ it)
    (hQ : ∀ h', IsEnumOut h' e it ((i : Int) + 1) x s.heap.objs.size → h'.IsTupleIter it l (i + 1) →
      h'.get? s.heap.objs.size = some { cls := .type "tuple", data := .seq #[.int i s.toks, x] } → h'.objs.size = s.heap.objs.size + 1 →
      (∀ b o, b ≠ e → b ≠ it → s.heap.get? b = some o → h'.get? b = some o) → Q (some (.ref s.heap.objs.size)) { s with heap := h', toks := s.toks + 1 }) :
    wpAny (model prog w) A (pyNext (.ref e)) Q E s := by
  have hT : s.TypeIs (.ref e) "enumerate" := ⟨_, he, rfl⟩
  unfold pyNext
  exact wpAny_bind (wpAny_attempt (wpAny_callSpecial?_slot (name := Str.ofString "__next__") hT F.slot_enumerate_next
    (wpAny_call_entry F.slot_enumerate_next hT F.entry_enumerate_next
      (enumT_next_item he hit hl hx hne fun h' a b c d k => wpAny_pure (hQ h' a b c d k)) (F.args_enumerate_next_1 _))))

theorem pyNext_enumT_end {e it l : Addr} {i : Nat} {items : Array Value} {old : Value} {Q : Option Value → Shared → Prop} (hh : A.handled = none)
    (he : IsEnum s.heap e it i old) (hit : s.heap.IsTupleIter it l i) (hl : s.heap.IsTuple l items) (hx : items[i]? = none)
    (hQ : ∀ h', Heap.ExtBut it s.heap h' → Q none { s with heap := h' }) : wpAny (model prog w) A (pyNext (.ref e)) Q E s := by
  have hT : s.TypeIs (.ref e) "enumerate" := ⟨_, he, rfl⟩
  unfold pyNext
  refine wpAny_bind (wpAny_attempt (wpAny_callSpecial?_slot (name := Str.ofString "__next__") hT F.slot_enumerate_next
    (wpAny_call_entry F.slot_enumerate_next hT F.entry_enumerate_next ?_ (F.args_enumerate_next_1 _))))
  show wpAny _ _ (field (.ref e) 2 >>= _) _ _ _
  refine wpAny_bind (wpAny_field he rfl (x := .ref it) rfl ?_)
  refine wpAny_bind (RZ.nextOf_tuple_end hh hit hl hx fun h' x he' hx' => ?_)
  obtain ⟨o, ho, hc⟩ := hx'
  refine wpAny_bind (wpAny_isInstance (T := "StopIteration") (b := true) ⟨o, ho, hc⟩ isSubtype_stop ?_)
  exact wpAny_pure (hQ _ he')
end
abbrev PobF (its : Array Value) : Obj := { cls := .type "tuple", data := .seq its }
/-- the list at a as it stands at each turn, each item in a new pair -/
def IteL (K : PySem.W.Frag) (a : Addr) : It :=
  ⟨fun i H => ∃ (xs : List V) (x : V), SqL K H a xs ∧ xs[i]? = some x, fun i H v H' => ∃ T x o, v = .ref T ∧ H T = none ∧ o.dict = none ∧ H' = upd H T (.frz o (.tup [.int (i : Nat), x])) ∧ ∀ xs, SqL K H a xs → xs[i]? = some x, fun i H => ∃ xs : List V, SqL K H a xs ∧ xs.length ≤ i⟩
theorem turn_enumL {P : Program} {w : World} {K : PySem.W.Frag} {elts : List Expr} {kk : Nat} {tpos : Pos} (a e it : Addr) :
    Turn P w K (.Tuple elts kk tpos) (IteL K a) [e, it] e (fun i h => (∃ old, IsEnum h e it ((i : Nat) : Int) old) ∧ h.IsListIter it a i ∧ e ≠ it) where
  mem := by simp
  obj := fun i h st b hb => by
    obtain ⟨⟨old, he⟩, ⟨o, ho, hc, hd⟩, _⟩ := st
    have e' : b = e ∨ b = it := by simpa using hb
    rcases e' with z | z
    · rw [z]; exact ⟨_, he, fun v q => nomatch q⟩
    · rw [z]; exact ⟨o, ho, fun v q => by rw [hd] at q; cases q⟩
  keep := fun i h h' st k => let ⟨⟨old, he⟩, hi, hne⟩ := st; ⟨⟨old, k e (by simp) _ he⟩, hi.at fun o q => k it (by simp) o q, hne⟩
  item := by
    intro X hP hw hK hc i pins s σ H E I hf st hg
    subst hP hw hK
    obtain ⟨⟨old, he⟩, hit, hne⟩ := st
    obtain ⟨xs, x, hq, hx⟩ := hg
    obtain ⟨its, rv, p, hz⟩ := I.list hq
    obtain ⟨u, hu, ru⟩ := rv.get hx
    have hel : e < s.heap.objs.size := Heap.lt_size he
    have hil : it < s.heap.objs.size := by obtain ⟨_, q, _⟩ := hit; exact Heap.lt_size q
    refine wpAny_pyNext_enum_item he hit p.isList (x := u) (by simpa using hu) hne fun h' ho hit' hT hsz hk => ?_
    refine ⟨_, rfl, wpAny_letOwnedTupleGo_enum (s := { s with heap := h', toks := s.toks + 1 }) ho fun h'' he' sb => ?_⟩
    have hT2 : h''.get? s.heap.objs.size = some { cls := .type "tuple", data := .seq #[.int i s.toks, u] } := (sb.2 _ (Nat.ne_of_gt hel)).trans hT
    have new : ObjOk X.prog X.w (upd H s.heap.objs.size (.frz (PobF #[.int i s.toks, u]) (.tup [.int (i : Nat), x]))) h'' s.heap.objs.size (.frz (PobF #[.int i s.toks, u]) (.tup [.int (i : Nat), x])) :=
      ⟨hT2, by show 2 ≤ sizeLine; decide, [.int i s.toks, u], .cons ⟨_, rfl⟩ (.cons ru .nil), ⟨_, hT2, rfl, _, rfl⟩⟩
    have I1 : Inv X pins σ (upd H s.heap.objs.size (.frz (PobF #[.int i s.toks, u]) (.tup [.int (i : Nat), x]))) { s with heap := h'', toks := s.toks + 1 } :=
      I.turnedNew (ch := [e, it]) (fun b ob hb q => (sb.2 b (fun z => hb (by simp [z]))).trans (hk b ob (fun z => hb (by simp [z])) (fun z => hb (by simp [z])) q)) hf (Nat.le_refl _) new
    refine ⟨.ref s.heap.objs.size, _, I1, rfl, ⟨_, x, _, rfl, I.hok.fresh (Nat.le_refl _), rfl, rfl, fun ys hy => by rw [I.list_inj hy hq]; exact hx⟩, ⟨⟨u, ?_⟩, hit'.at fun o q => (sb.2 it (Ne.symm hne)).trans q, hne⟩, fun b hb => ?_⟩
    · have e1 : ((i + 1 : Nat) : Int) = (i : Int) + 1 := by omega
      rw [e1]; exact he'
    · have hb' : b < s.heap.objs.size := by
        have e' : b = e ∨ b = it := by simpa using hb
        rcases e' with z | z
        · rw [z]; exact hel
        · rw [z]; exact hil
      rw [upd_ne (Nat.ne_of_lt hb')]
      exact (hf b hb).1
  done := by
    intro X hP hw hK hc i pins s σ H E I hf st hg
    subst hP hw hK
    obtain ⟨⟨old, he⟩, hit, hne⟩ := st
    obtain ⟨xs, hq, hx⟩ := hg
    obtain ⟨its, rv, p, hz⟩ := I.list hq
    obtain ⟨f0, f1, f2, f3, f4, f5⟩ := hf it (by simp)
    have hl := rv.length
    exact wpAny_pyNext_enum_end (I.ok.hd hc) he hit p.isList (by simp; omega) fun h' eb => ⟨rfl, I.turned (t' := s.toks) (fun b o hb q => eb b o hb q) f0 f1 f3 f4 f5⟩
  self := fun A i s Q E st h => let ⟨⟨_, he⟩, _⟩ := st; wpAny_pyIter_enum he h
/-- the tuple at a as it stands at each turn, each item in a new pair -/
def IteT (K : PySem.W.Frag) (a : Addr) : It :=
  ⟨fun i H => ∃ (xs : List V) (x : V), SqT K H a xs ∧ xs[i]? = some x, fun i H v H' => ∃ T x o, v = .ref T ∧ H T = none ∧ o.dict = none ∧ H' = upd H T (.frz o (.tup [.int (i : Nat), x])) ∧ ∀ xs, SqT K H a xs → xs[i]? = some x, fun i H => ∃ xs : List V, SqT K H a xs ∧ xs.length ≤ i⟩
theorem turn_enumT {P : Program} {w : World} {K : PySem.W.Frag} {elts : List Expr} {kk : Nat} {tpos : Pos} (a e it : Addr) :
    Turn P w K (.Tuple elts kk tpos) (IteT K a) [e, it] e (fun i h => (∃ old, IsEnum h e it ((i : Nat) : Int) old) ∧ h.IsTupleIter it a i ∧ e ≠ it) where
  mem := by simp
  obj := fun i h st b hb => by
    obtain ⟨⟨old, he⟩, ⟨o, ho, hc, hd⟩, _⟩ := st
    have e' : b = e ∨ b = it := by simpa using hb
    rcases e' with z | z
    · rw [z]; exact ⟨_, he, fun v q => nomatch q⟩
    · rw [z]; exact ⟨o, ho, fun v q => by rw [hd] at q; cases q⟩
  keep := fun i h h' st k => let ⟨⟨old, he⟩, hi, hne⟩ := st; ⟨⟨old, k e (by simp) _ he⟩, hi.at fun o q => k it (by simp) o q, hne⟩
  item := by
    intro X hP hw hK hc i pins s σ H E I hf st hg
    subst hP hw hK
    obtain ⟨⟨old, he⟩, hit, hne⟩ := st
    obtain ⟨xs, x, hq, hx⟩ := hg
    obtain ⟨its, rv, p, hz⟩ := I.tuple hq
    obtain ⟨u, hu, ru⟩ := rv.get hx
    have hel : e < s.heap.objs.size := Heap.lt_size he
    have hil : it < s.heap.objs.size := by obtain ⟨_, q, _⟩ := hit; exact Heap.lt_size q
    refine pyNext_enumT_item he hit p (x := u) (by simpa using hu) hne fun h' ho hit' hT hsz hk => ?_
    refine ⟨_, rfl, wpAny_letOwnedTupleGo_enum (s := { s with heap := h', toks := s.toks + 1 }) ho fun h'' he' sb => ?_⟩
    have hT2 : h''.get? s.heap.objs.size = some { cls := .type "tuple", data := .seq #[.int i s.toks, u] } := (sb.2 _ (Nat.ne_of_gt hel)).trans hT
    have new : ObjOk X.prog X.w (upd H s.heap.objs.size (.frz (PobF #[.int i s.toks, u]) (.tup [.int (i : Nat), x]))) h'' s.heap.objs.size (.frz (PobF #[.int i s.toks, u]) (.tup [.int (i : Nat), x])) :=
      ⟨hT2, by show 2 ≤ sizeLine; decide, [.int i s.toks, u], .cons ⟨_, rfl⟩ (.cons ru .nil), ⟨_, hT2, rfl, _, rfl⟩⟩
    have I1 : Inv X pins σ (upd H s.heap.objs.size (.frz (PobF #[.int i s.toks, u]) (.tup [.int (i : Nat), x]))) { s with heap := h'', toks := s.toks + 1 } :=
      I.turnedNew (ch := [e, it]) (fun b ob hb q => (sb.2 b (fun z => hb (by simp [z]))).trans (hk b ob (fun z => hb (by simp [z])) (fun z => hb (by simp [z])) q)) hf (Nat.le_refl _) new
    refine ⟨.ref s.heap.objs.size, _, I1, rfl, ⟨_, x, _, rfl, I.hok.fresh (Nat.le_refl _), rfl, rfl, fun ys hy => by rw [I.tuple_inj hy hq]; exact hx⟩, ⟨⟨u, ?_⟩, hit'.at fun o q => (sb.2 it (Ne.symm hne)).trans q, hne⟩, fun b hb => ?_⟩
    · have e1 : ((i + 1 : Nat) : Int) = (i : Int) + 1 := by omega
      rw [e1]; exact he'
    · have hb' : b < s.heap.objs.size := by
        have e' : b = e ∨ b = it := by simpa using hb
        rcases e' with z | z
        · rw [z]; exact hel
        · rw [z]; exact hil
      rw [upd_ne (Nat.ne_of_lt hb')]
      exact (hf b hb).1
  done := by
    intro X hP hw hK hc i pins s σ H E I hf st hg
    subst hP hw hK
    obtain ⟨⟨old, he⟩, hit, hne⟩ := st
    obtain ⟨xs, hq, hx⟩ := hg
    obtain ⟨its, rv, p, hz⟩ := I.tuple hq
    obtain ⟨f0, f1, f2, f3, f4, f5⟩ := hf it (by simp)
    have hl := rv.length
    exact pyNext_enumT_end (I.ok.hd hc) he hit p (by simp; omega) fun h' eb => ⟨rfl, I.turned (t' := s.toks) (fun b o hb q => eb b o hb q) f0 f1 f3 f4 f5⟩
  self := fun A i s Q E st h => let ⟨⟨_, he⟩, _⟩ := st; wpAny_pyIter_enum he h
/-- enumerate of a list or a tuple -/
def iEnumA (K : PySem.W.Frag) (ta : TA) : TI := fun σ H R => ta σ H fun vs H1 => ∃ a xs, vs = [.ref a] ∧ ((SqL K H1 a xs ∧ R (IteL K a) H1) ∨ (SqT K H1 a xs ∧ R (IteT K a) H1))
theorem pi_enumA {X : Cx} {e : Expr} {ta : TA} {p pos tpos : Pos} {elts : List Expr} {kk : Nat} (hg : Gl X "enumerate") (hm : X.mg "enumerate" = none) (ha : PA X [e] ta) (hs : starEach [e] X.env = [(false, eval e X.env)] := by rfl) :
    PI X (.Tuple elts kk tpos) (.Call (.Name "enumerate" p) [e] [] pos) (iEnumA X.K ta) := by
  refine ⟨fun pins s σ H R I h => ?_⟩
  refine Call_ (ld_blt I hg hm boot_enumerate (PyProof.Rows.callWith_type1 (thn (ha.run pos pins s σ H _ I h) fun us s1 ⟨vs, H1, I1, r1, q1⟩ => ?_) hs rfl))
  obtain ⟨a, xs, ex, q1⟩ := q1
  subst ex
  cases r1 with
  | cons r rr =>
    cases rr
    cases r
    have fr : ∀ b, b ∈ [s1.heap.objs.size + 1, s1.heap.objs.size] → FpOk X pins H1 b := fun b hb => by
      have e' : b = s1.heap.objs.size + 1 ∨ b = s1.heap.objs.size := by simpa using hb
      have hle : s1.heap.objs.size ≤ b := by
        rcases e' with z | z
        · rw [z]; exact Nat.le_add_right _ _
        · rw [z]; exact Nat.le_refl _
      exact I1.fpOk hle (I1.hok.fresh hle)
    rcases q1 with ⟨hq, q⟩ | ⟨hq, q⟩
    · obtain ⟨its, rv, p', hz⟩ := I1.list hq
      refine call_enumerate_list p'.isList fun h' he hit hsz hk => wpAny_pyIter_enum he ?_
      have I2 : Inv X pins σ H1 { s1 with heap := h' } := I1.kept (t' := s1.toks) hk
      exact ⟨s1.heap.objs.size + 1, [s1.heap.objs.size + 1, s1.heap.objs.size], _, _, H1, rfl, I2, turn_enumL a (s1.heap.objs.size + 1) s1.heap.objs.size, ⟨⟨.none, he⟩, hit, Nat.succ_ne_self _⟩, fr, q⟩
    · obtain ⟨its, rv, p', hz⟩ := I1.tuple hq
      refine call_enumerate_tuple (show s1.heap.IsTuple a its.toArray from p') fun h' he hit hsz hk => wpAny_pyIter_enum he ?_
      have I2 : Inv X pins σ H1 { s1 with heap := h' } := I1.kept (t' := s1.toks) hk
      exact ⟨s1.heap.objs.size + 1, [s1.heap.objs.size + 1, s1.heap.objs.size], _, _, H1, rfl, I2, turn_enumT a (s1.heap.objs.size + 1) s1.heap.objs.size, ⟨⟨.none, he⟩, hit, Nat.succ_ne_self _⟩, fr, q⟩
/-- the lists at a and b as they stand at each turn, the items in new pairs -/
def ItzL (K : PySem.W.Frag) (a b : Addr) : It :=
  ⟨fun i H => ∃ (xs ys : List V) (x y : V), SqL K H a xs ∧ SqL K H b ys ∧ xs[i]? = some x ∧ ys[i]? = some y,
    fun i H v H' => ∃ T x y o, v = .ref T ∧ H T = none ∧ o.dict = none ∧ H' = upd H T (.frz o (.tup [x, y])) ∧ (∀ xs, SqL K H a xs → xs[i]? = some x) ∧ ∀ ys, SqL K H b ys → ys[i]? = some y,
    fun i H => ∃ xs ys : List V, SqL K H a xs ∧ SqL K H b ys ∧ (xs.length ≤ i ∨ ys.length ≤ i)⟩
theorem turn_zipL {P : Program} {w : World} {K : PySem.W.Frag} {elts : List Expr} {kk : Nat} {tpos : Pos} {a b z TI TO i1 i2 : Addr} (D : ZipApart z TI TO i1 i2 a b) :
    Turn P w K (.Tuple elts kk tpos) (ItzL K a b) [z, TI, TO, i1, i2] z (fun i h => IsZip h z TI TO .none ∧ IsPair h TI (.ref i1) (.ref i2) ∧ (∃ x y, IsPair h TO x y) ∧ h.IsListIter i1 a i ∧ h.IsListIter i2 b i) where
  mem := by simp
  obj := fun i h st c hc => by
    obtain ⟨hz, hTI, ⟨x, y, hTO⟩, ⟨o1, e1, _, d1⟩, ⟨o2, e2, _, d2⟩⟩ := st
    have e' : c = z ∨ c = TI ∨ c = TO ∨ c = i1 ∨ c = i2 := by simpa using hc
    rcases e' with q | q | q | q | q
    · rw [q]; exact ⟨_, hz, fun v q => nomatch q⟩
    · rw [q]; exact ⟨_, hTI, fun v q => nomatch q⟩
    · rw [q]; exact ⟨_, hTO, fun v q => nomatch q⟩
    · rw [q]; exact ⟨o1, e1, fun v q => by rw [d1] at q; cases q⟩
    · rw [q]; exact ⟨o2, e2, fun v q => by rw [d2] at q; cases q⟩
  keep := fun i h h' st k => by
    obtain ⟨hz, hTI, ⟨x, y, hTO⟩, h1, h2⟩ := st
    exact ⟨k z (by simp) _ hz, k TI (by simp) _ hTI, ⟨x, y, k TO (by simp) _ hTO⟩, h1.at fun o q => k i1 (by simp) o q, h2.at fun o q => k i2 (by simp) o q⟩
  item := by
    intro X hP hw hK hc i pins s σ H E I hf st hg
    subst hP hw hK
    obtain ⟨hz, hTI, ⟨x0, y0, hTO⟩, h1, h2⟩ := st
    obtain ⟨xs, ys, x, y, hqx, hqy, hx, hy⟩ := hg
    obtain ⟨its, rv, p, _⟩ := I.list hqx
    obtain ⟨its2, rv2, p2, _⟩ := I.list hqy
    obtain ⟨u, hu, ru⟩ := rv.get hx
    obtain ⟨u2, hu2, ru2⟩ := rv2.get hy
    have hzl : z < s.heap.objs.size := Heap.lt_size hz
    refine wpAny_pyNext_zip_item D hz hTI hTO h1 h2 p.isList p2.isList (x := u) (y := u2) (by simpa using hu) (by simpa using hu2) fun h' z' TO' h1' h2' hT hsz hk => ?_
    refine ⟨_, rfl, wpAny_letOwnedTupleGo_zip (s := { s with heap := h' }) z' fun h'' z'' sb => ?_⟩
    have hT2 : h''.get? s.heap.objs.size = some { cls := .type "tuple", data := .seq #[u, u2] } := (sb.2 _ (Nat.ne_of_gt hzl)).trans hT
    have new : ObjOk X.prog X.w (upd H s.heap.objs.size (.frz (PobF #[u, u2]) (.tup [x, y]))) h'' s.heap.objs.size (.frz (PobF #[u, u2]) (.tup [x, y])) :=
      ⟨hT2, by show 2 ≤ sizeLine; decide, [u, u2], .cons ru (.cons ru2 .nil), ⟨_, hT2, rfl, _, rfl⟩⟩
    have I1 : Inv X pins σ (upd H s.heap.objs.size (.frz (PobF #[u, u2]) (.tup [x, y]))) { s with heap := h'' } :=
      I.turnedNew (t' := s.toks) (ch := [z, TI, TO, i1, i2]) (fun c o hb q => (sb.2 c (fun q' => hb (by simp [q']))).trans (hk c o (fun q' => hb (by simp [q'])) (fun q' => hb (by simp [q'])) (fun q' => hb (by simp [q'])) (fun q' => hb (by simp [q'])) q)) hf (Nat.le_refl _) new
    refine ⟨.ref s.heap.objs.size, _, I1, rfl, ⟨_, x, y, _, rfl, I.hok.fresh (Nat.le_refl _), rfl, rfl, fun l hl => by rw [I.list_inj hl hqx]; exact hx, fun l hl => by rw [I.list_inj hl hqy]; exact hy⟩, ⟨z'', ?_, ⟨u, u2, ?_⟩, ?_, ?_⟩, fun c hcm => ?_⟩
    · exact (sb.2 _ D.TIz).trans (hk _ _ D.TIz D.TITO D.TIi1 D.TIi2 hTI)
    · exact (sb.2 _ D.TOz).trans TO'
    · exact h1'.at fun o q => (sb.2 _ D.i1z).trans q
    · exact h2'.at fun o q => (sb.2 _ D.i2z).trans q
    · have hlt : c < s.heap.objs.size := by
        have e' : c = z ∨ c = TI ∨ c = TO ∨ c = i1 ∨ c = i2 := by simpa using hcm
        rcases e' with q | q | q | q | q
        · rw [q]; exact hzl
        · rw [q]; exact Heap.lt_size hTI
        · rw [q]; exact Heap.lt_size hTO
        · rw [q]; obtain ⟨_, e1, _⟩ := h1; exact Heap.lt_size e1
        · rw [q]; obtain ⟨_, e2, _⟩ := h2; exact Heap.lt_size e2
      rw [upd_ne (Nat.ne_of_lt hlt)]
      exact (hf c hcm).1
  done := by
    intro X hP hw hK hc i pins s σ H E I hf st hg
    subst hP hw hK
    obtain ⟨hz, hTI, ⟨x0, y0, hTO⟩, h1, h2⟩ := st
    obtain ⟨xs, ys, hqx, hqy, hend⟩ := hg
    obtain ⟨its, rv, p, _⟩ := I.list hqx
    obtain ⟨its2, rv2, p2, _⟩ := I.list hqy
    have l1 := rv.length
    have l2 := rv2.length
    have he : its.toArray[i]? = none ∨ its2.toArray[i]? = none := by
      rcases hend with q | q
      · exact .inl (by simp; omega)
      · exact .inr (by simp; omega)
    exact wpAny_pyNext_zip_end (I.ok.hd hc) D hz hTI hTO h1 h2 p.isList p2.isList he fun h' hk => ⟨rfl, I.turnedL (t' := s.toks) (ch := [z, TI, TO, i1, i2]) (fun c o hb q =>
      hk c o (fun q' => hb (by simp [q'])) (fun q' => hb (by simp [q'])) (fun q' => hb (by simp [q'])) (fun q' => hb (by simp [q'])) q) hf⟩
  self := fun A i s Q E st h => wpAny_pyIter_zip st.1 h
/-- the tuples at a and b as they stand at each turn, the items in new pairs -/
def ItzT (K : PySem.W.Frag) (a b : Addr) : It :=
  ⟨fun i H => ∃ (xs ys : List V) (x y : V), SqT K H a xs ∧ SqT K H b ys ∧ xs[i]? = some x ∧ ys[i]? = some y,
    fun i H v H' => ∃ T x y o, v = .ref T ∧ H T = none ∧ o.dict = none ∧ H' = upd H T (.frz o (.tup [x, y])) ∧ (∀ xs, SqT K H a xs → xs[i]? = some x) ∧ ∀ ys, SqT K H b ys → ys[i]? = some y,
    fun i H => ∃ xs ys : List V, SqT K H a xs ∧ SqT K H b ys ∧ (xs.length ≤ i ∨ ys.length ≤ i)⟩
theorem turn_zipT {P : Program} {w : World} {K : PySem.W.Frag} {elts : List Expr} {kk : Nat} {tpos : Pos} {a b z TI TO i1 i2 : Addr} (D : ZipApart z TI TO i1 i2 a b) :
    Turn P w K (.Tuple elts kk tpos) (ItzT K a b) [z, TI, TO, i1, i2] z (fun i h => IsZip h z TI TO .none ∧ IsPair h TI (.ref i1) (.ref i2) ∧ (∃ x y, IsPair h TO x y) ∧ h.IsTupleIter i1 a i ∧ h.IsTupleIter i2 b i) where
  mem := by simp
  obj := fun i h st c hc => by
    obtain ⟨hz, hTI, ⟨x, y, hTO⟩, ⟨o1, e1, _, d1⟩, ⟨o2, e2, _, d2⟩⟩ := st
    have e' : c = z ∨ c = TI ∨ c = TO ∨ c = i1 ∨ c = i2 := by simpa using hc
    rcases e' with q | q | q | q | q
    · rw [q]; exact ⟨_, hz, fun v q => nomatch q⟩
    · rw [q]; exact ⟨_, hTI, fun v q => nomatch q⟩
    · rw [q]; exact ⟨_, hTO, fun v q => nomatch q⟩
    · rw [q]; exact ⟨o1, e1, fun v q => by rw [d1] at q; cases q⟩
    · rw [q]; exact ⟨o2, e2, fun v q => by rw [d2] at q; cases q⟩
  keep := fun i h h' st k => by
    obtain ⟨hz, hTI, ⟨x, y, hTO⟩, h1, h2⟩ := st
    exact ⟨k z (by simp) _ hz, k TI (by simp) _ hTI, ⟨x, y, k TO (by simp) _ hTO⟩, h1.at fun o q => k i1 (by simp) o q, h2.at fun o q => k i2 (by simp) o q⟩
  item := by
    intro X hP hw hK hc i pins s σ H E I hf st hg
    subst hP hw hK
    obtain ⟨hz, hTI, ⟨x0, y0, hTO⟩, h1, h2⟩ := st
    obtain ⟨xs, ys, x, y, hqx, hqy, hx, hy⟩ := hg
    obtain ⟨its, rv, p, _⟩ := I.tuple hqx
    obtain ⟨its2, rv2, p2, _⟩ := I.tuple hqy
    obtain ⟨u, hu, ru⟩ := rv.get hx
    obtain ⟨u2, hu2, ru2⟩ := rv2.get hy
    have hzl : z < s.heap.objs.size := Heap.lt_size hz
    refine RZ.pyNext_zipT_item D hz hTI hTO h1 h2 p p2 (x := u) (y := u2) (by simpa using hu) (by simpa using hu2) fun h' z' TO' h1' h2' hT hsz hk => ?_
    refine ⟨_, rfl, wpAny_letOwnedTupleGo_zip (s := { s with heap := h' }) z' fun h'' z'' sb => ?_⟩
    have hT2 : h''.get? s.heap.objs.size = some { cls := .type "tuple", data := .seq #[u, u2] } := (sb.2 _ (Nat.ne_of_gt hzl)).trans hT
    have new : ObjOk X.prog X.w (upd H s.heap.objs.size (.frz (PobF #[u, u2]) (.tup [x, y]))) h'' s.heap.objs.size (.frz (PobF #[u, u2]) (.tup [x, y])) :=
      ⟨hT2, by show 2 ≤ sizeLine; decide, [u, u2], .cons ru (.cons ru2 .nil), ⟨_, hT2, rfl, _, rfl⟩⟩
    have I1 : Inv X pins σ (upd H s.heap.objs.size (.frz (PobF #[u, u2]) (.tup [x, y]))) { s with heap := h'' } :=
      I.turnedNew (t' := s.toks) (ch := [z, TI, TO, i1, i2]) (fun c o hb q => (sb.2 c (fun q' => hb (by simp [q']))).trans (hk c o (fun q' => hb (by simp [q'])) (fun q' => hb (by simp [q'])) (fun q' => hb (by simp [q'])) (fun q' => hb (by simp [q'])) q)) hf (Nat.le_refl _) new
    refine ⟨.ref s.heap.objs.size, _, I1, rfl, ⟨_, x, y, _, rfl, I.hok.fresh (Nat.le_refl _), rfl, rfl, fun l hl => by rw [I.tuple_inj hl hqx]; exact hx, fun l hl => by rw [I.tuple_inj hl hqy]; exact hy⟩, ⟨z'', ?_, ⟨u, u2, ?_⟩, ?_, ?_⟩, fun c hcm => ?_⟩
    · exact (sb.2 _ D.TIz).trans (hk _ _ D.TIz D.TITO D.TIi1 D.TIi2 hTI)
    · exact (sb.2 _ D.TOz).trans TO'
    · exact h1'.at fun o q => (sb.2 _ D.i1z).trans q
    · exact h2'.at fun o q => (sb.2 _ D.i2z).trans q
    · have hlt : c < s.heap.objs.size := by
        have e' : c = z ∨ c = TI ∨ c = TO ∨ c = i1 ∨ c = i2 := by simpa using hcm
        rcases e' with q | q | q | q | q
        · rw [q]; exact hzl
        · rw [q]; exact Heap.lt_size hTI
        · rw [q]; exact Heap.lt_size hTO
        · rw [q]; obtain ⟨_, e1, _⟩ := h1; exact Heap.lt_size e1
        · rw [q]; obtain ⟨_, e2, _⟩ := h2; exact Heap.lt_size e2
      rw [upd_ne (Nat.ne_of_lt hlt)]
      exact (hf c hcm).1
  done := by
    intro X hP hw hK hc i pins s σ H E I hf st hg
    subst hP hw hK
    obtain ⟨hz, hTI, ⟨x0, y0, hTO⟩, h1, h2⟩ := st
    obtain ⟨xs, ys, hqx, hqy, hend⟩ := hg
    obtain ⟨its, rv, p, _⟩ := I.tuple hqx
    obtain ⟨its2, rv2, p2, _⟩ := I.tuple hqy
    have l1 := rv.length
    have l2 := rv2.length
    have he : its.toArray[i]? = none ∨ its2.toArray[i]? = none := by
      rcases hend with q | q
      · exact .inl (by simp; omega)
      · exact .inr (by simp; omega)
    exact RZ.pyNext_zipT_end (I.ok.hd hc) D hz hTI hTO h1 h2 p p2 he fun h' hk => ⟨rfl, I.turnedL (t' := s.toks) (ch := [z, TI, TO, i1, i2]) (fun c o hb q =>
      hk c o (fun q' => hb (by simp [q'])) (fun q' => hb (by simp [q'])) (fun q' => hb (by simp [q'])) (fun q' => hb (by simp [q'])) q) hf⟩
  self := fun A i s Q E st h => wpAny_pyIter_zip st.1 h

def iZipA (K : PySem.W.Frag) (ta : TA) : TI := fun σ H R => ta σ H fun vs H1 => ∃ a b xs ys, vs = [.ref a, .ref b] ∧ ((SqL K H1 a xs ∧ SqL K H1 b ys ∧ R (ItzL K a b) H1) ∨ (SqT K H1 a xs ∧ SqT K H1 b ys ∧ R (ItzT K a b) H1))
theorem pi_zipA {X : Cx} {e e2 : Expr} {ta : TA} {p pos tpos : Pos} {elts : List Expr} {kk : Nat} (hg : Gl X "zip") (hm : X.mg "zip" = none) (ha : PA X [e, e2] ta)
    (hs : starEach [e, e2] X.env = (false, eval e X.env) :: starEach [e2] X.env := by rfl) (hpl : (backTo pos (starEach [e2] X.env)).any (·.1) = false := by rfl) :
    PI X (.Tuple elts kk tpos) (.Call (.Name "zip" p) [e, e2] [] pos) (iZipA X.K ta) := by
  refine ⟨fun pins s σ H R I h => ?_⟩
  refine Call_ (ld_blt I hg hm PyProof.Rows.boot_zip (PyProof.Rows.callWith_type1 (thn (ha.run pos pins s σ H _ I h) fun us s1 ⟨vs, H1, I1, r1, q1⟩ => ?_) hs hpl))
  obtain ⟨a, b, xs, ys, ex, q1⟩ := q1
  subst ex
  cases r1 with
  | cons r rr =>
    cases rr with
    | cons r' rr =>
      cases rr
      cases r
      cases r'
      have fresh5 : ∀ c, c ∈ [s1.heap.objs.size + 4, s1.heap.objs.size + 2, s1.heap.objs.size + 3, s1.heap.objs.size, s1.heap.objs.size + 1] → FpOk X pins H1 c := fun c hcm => by
        have e' : c = s1.heap.objs.size + 4 ∨ c = s1.heap.objs.size + 2 ∨ c = s1.heap.objs.size + 3 ∨ c = s1.heap.objs.size ∨ c = s1.heap.objs.size + 1 := by simpa using hcm
        have hle : s1.heap.objs.size ≤ c := by
          rcases e' with z | z | z | z | z
          · rw [z]; exact Nat.le_add_right _ _
          · rw [z]; exact Nat.le_add_right _ _
          · rw [z]; exact Nat.le_add_right _ _
          · rw [z]; exact Nat.le_refl _
          · rw [z]; exact Nat.le_add_right _ _
        exact I1.fpOk hle (I1.hok.fresh hle)
      rcases q1 with ⟨hqx, hqy, q⟩ | ⟨hqx, hqy, q⟩
      · obtain ⟨its, rv, p1, _⟩ := I1.list hqx
        obtain ⟨its2, rv2, p2, _⟩ := I1.list hqy
        refine call_zip_2 p1.isList p2.isList fun h' hz hTI hTO h1 h2 hsz hk => wpAny_pyIter_zip hz ?_
        have I2 : Inv X pins σ H1 { s1 with heap := h' } := I1.kept (t' := s1.toks) hk
        exact ⟨s1.heap.objs.size + 4, [s1.heap.objs.size + 4, s1.heap.objs.size + 2, s1.heap.objs.size + 3, s1.heap.objs.size, s1.heap.objs.size + 1], _, _, H1, rfl, I2, turn_zipL (PySem.W.ktu_apart s1.heap.objs.size a b p1.lt p2.lt), ⟨hz, hTI, ⟨_, _, hTO⟩, h1, h2⟩, fresh5, q⟩
      · obtain ⟨its, rv, p1, _⟩ := I1.tuple hqx
        obtain ⟨its2, rv2, p2, _⟩ := I1.tuple hqy
        obtain ⟨o1, ho1, _⟩ := id p1
        obtain ⟨o2, ho2, _⟩ := id p2
        refine RZ.call_zipT (show s1.heap.IsTuple a its.toArray from p1) (show s1.heap.IsTuple b its2.toArray from p2) fun h' hz hTI hTO h1 h2 hsz hk => wpAny_pyIter_zip hz ?_
        have I2 : Inv X pins σ H1 { s1 with heap := h' } := I1.kept (t' := s1.toks) hk
        exact ⟨s1.heap.objs.size + 4, [s1.heap.objs.size + 4, s1.heap.objs.size + 2, s1.heap.objs.size + 3, s1.heap.objs.size, s1.heap.objs.size + 1], _, _, H1, rfl, I2, turn_zipT (PySem.W.ktu_apart s1.heap.objs.size a b (Heap.lt_size ho1) (Heap.lt_size ho2)), ⟨hz, hTI, ⟨_, _, hTO⟩, h1, h2⟩, fresh5, q⟩


section
variable {X : Cx} {e : Expr} {es : List Expr} {te : TE} {t : TA} {pos : Pos}
def tTupF (t : TA) : TE := fun σ H Q => t σ H fun xs H1 => xs.length ≤ sizeLine ∧ ∀ p o, H1 p = none → o.dict = none → Q (.ref p) (upd H1 p (.frz o (.tup xs)))
theorem pe_tupF {x1} (h : PA X es t) : PE X (.Tuple es x1 pos) (tTupF t) := by
  refine ⟨fun pins s σ H Q I hq => ?_⟩
  refine wpAny_Tuple_spliced (thn (h.run pos pins s σ H _ I hq) fun us s1 ⟨xs, H1, I1, r, z, q⟩ => ⟨by rw [← r.length]; exact z, ?_⟩)
  have hf : H1 s1.heap.objs.size = none := I1.hok.fresh (Nat.le_refl _)
  refine ⟨.ref s1.heap.objs.size, upd H1 s1.heap.objs.size (.frz (PobF us.toArray) (.tup xs)), I1.laid (t' := s1.toks) (fun b u e => Heap.get?_push_of_some _ e) (Nat.le_refl _) ?_, rfl, q _ _ hf rfl⟩
  exact ⟨Heap.get?_push_size _ rfl, z, us, r, ⟨_, Heap.get?_push_size _ rfl, rfl, _, rfl⟩⟩
theorem call_tuple_ofF : CallR X (.type "tuple") (fun xs H Q => ∃ p ys, xs = [.ref p] ∧ ((SqL X.K H p ys ∧ ∀ l o, H l = none → o.dict = none → Q (.ref l) (upd H l (.frz o (.tup ys)))) ∨ (SqT X.K H p ys ∧ Q (.ref p) H))) := by
  intro pins s σ H xs us Q I r h
  obtain ⟨p, ys, rfl, h⟩ := h
  obtain ⟨u, rfl, rx⟩ := vals1 r
  cases rx
  rcases h with ⟨hq, q⟩ | ⟨hq, q⟩
  · obtain ⟨its, r', pl, hz⟩ := I.list hq
    have hlen := r'.length
    refine call_tuple_list pl.isList (fun h' kp => ?_) (by simp only [List.size_toArray] <;> omega)
    have I1 : Inv X pins σ H { s with heap := h' } := I.kept (t' := s.toks) kp
    have I2 : Inv X pins σ (upd H h'.objs.size (.frz (PobF its.toArray) (.tup ys))) { s with heap := h'.push { cls := .type "tuple", data := .seq its.toArray } } :=
      I1.laid (t' := s.toks) (fun b o e => Heap.get?_push_of_some _ e) (Nat.le_refl _) (show ObjOk X.prog X.w _ _ _ (.frz (PobF its.toArray) (.tup ys)) from ⟨Heap.get?_push_size _ rfl, hz, its, r', IsTup.new _ _⟩)
    exact ⟨.ref h'.objs.size, _, I2, rfl, q _ _ (I1.hok.fresh (Nat.le_refl _)) rfl⟩
  · obtain ⟨its, r', pl, hz⟩ := I.tuple hq
    exact call_tuple_same pl ⟨.ref p, H, I, rfl, q⟩
/-- t + u -/
def rCatF (K : PySem.W.Frag) : R2 := fun x y H Q => ∃ a b xs ys, x = .ref a ∧ y = .ref b ∧ SqT K H a xs ∧ SqT K H b ys ∧ xs.length + ys.length ≤ sizeLine ∧
  (xs = [] → Q (.ref b) H) ∧ (xs ≠ [] → ys = [] → Q (.ref a) H) ∧ (xs ≠ [] → ys ≠ [] → ∀ p o, H p = none → o.dict = none → Q (.ref p) (upd H p (.frz o (.tup (xs ++ ys)))))
theorem op_catF : OpR X (binaryOp .Add) (rCatF X.K) := by
  intro pins s σ H x y v u Q I rx ry h
  obtain ⟨a, b, xs, ys, rfl, rfl, ha, hb, hz, q0, q1, q2⟩ := h
  cases rx
  cases ry
  obtain ⟨its, r1, p1, _⟩ := I.tuple ha
  obtain ⟨its2, r2, p2, _⟩ := I.tuple hb
  by_cases hx : xs = []
  · subst hx
    cases r1
    exact cat_tup0 p1 p2 ⟨.ref b, H, I, rfl, q0 rfl⟩
  · refine HT.cat_tup p1 p2 (fun z => hx (r1.nil_iff.mp z)) (fun z => ⟨.ref a, H, I, rfl, q1 hx (r2.nil_iff.mp z)⟩) (fun z => ?_) (by rw [← r1.length, ← r2.length]; exact hz)
    refine ⟨.ref s.heap.objs.size, _, I.laid (t' := s.toks) (o := .frz (PobF (its ++ its2).toArray) (.tup (xs ++ ys))) (fun b ob q => Heap.get?_push_of_some _ q) (Nat.le_refl _) ?_, rfl, q2 hx (fun w => z (r2.nil_iff.mpr w)) _ _ (I.hok.fresh (Nat.le_refl _)) rfl⟩
    exact ⟨Heap.get?_push_size _ rfl, by rw [List.length_append]; exact hz, _, r1.append r2, IsTup.new _ _⟩
/-- t[lo:hi]: the whole of it is t itself -/
def rSlF (K : PySem.W.Frag) : V → Option Int → Option Int → Hp → VK → Prop := fun x lo hi H Q => ∃ a xs, x = .ref a ∧ SqT K H a xs ∧
  (HT.sIx xs.length 0 lo = 0 ∧ HT.sIx xs.length xs.length hi = xs.length → Q (.ref a) H) ∧ (¬ (HT.sIx xs.length 0 lo = 0 ∧ HT.sIx xs.length xs.length hi = xs.length) → ∀ p o, H p = none → o.dict = none → Q (.ref p) (upd H p (.frz o (.tup (cutV xs lo hi)))))
theorem sl_tupF : SlR X (rSlF X.K) := by
  intro pins s σ H x v vl vu lo hi sl Q I rx hs pl pu h
  obtain ⟨a, xs, rfl, hx, q1, q2⟩ := h
  cases rx
  obtain ⟨its, r, ht, hz⟩ := I.tuple hx
  have hlen : its.toArray.size = xs.length := by rw [List.size_toArray]; exact r.length.symm
  refine ⟨"tuple", _, PyProof.Rows.slot_tuple_getitem.lookup, ht.typeIs, ?_⟩
  by_cases hw : HT.sIx xs.length 0 lo = 0 ∧ HT.sIx xs.length xs.length hi = xs.length
  · exact getItem_tuple_whole ht hs pl pu (by rw [hlen]; exact hw) ⟨.ref a, H, I, rfl, q1 hw⟩
  · refine HT.getItem_tuple_cut ht hs pl pu (by rw [hlen]; exact hw) ?_ (by rw [hlen]; exact hz)
    rw [hlen]
    refine ⟨.ref s.heap.objs.size, _, I.laid (t' := s.toks) (o := .frz (PobF (List.take (HT.sIx xs.length xs.length hi - HT.sIx xs.length 0 lo) (List.drop (HT.sIx xs.length 0 lo) its.toArray.toList)).toArray) (.tup (cutV xs lo hi))) (fun b ob q => Heap.get?_push_of_some _ q) (Nat.le_refl _) ?_, rfl, q2 hw _ _ (I.hok.fresh (Nat.le_refl _)) rfl⟩
    exact ⟨Heap.get?_push_size _ rfl, Nat.le_trans (cutV_length xs lo hi) hz, _, (r.drop (HT.sIx xs.length 0 lo)).take (HT.sIx xs.length xs.length hi - HT.sIx xs.length 0 lo), IsTup.new _ _⟩
end
section
variable {prog : Program} {w : World} {A : Around} {E : Value → Shared → Prop} {s : Shared} {l : Addr} {xs : Array (Int × Tok)}
theorem iter_intTup {Q : Value → Shared → Prop} (hl : s.heap.IsTuple l (intItems xs))
    (h : ∀ s₂ : Shared, s₂ = { s with heap := s.heap.push { cls := .type "tuple_iterator", data := .fields #[.ref l, .int 0 0] } } →
      (s₂.heap.IsTupleIter s.heap.objs.size l 0 ∧ s₂.heap.IsTuple l (intItems xs)) → (∀ b ∈ [s.heap.objs.size, l], b < s₂.heap.objs.size) → l ≠ s.heap.objs.size → Q (.ref s.heap.objs.size) s₂) :
    wpAny (model prog w) A (pyIter (.ref l)) Q E s := by
  have hlt : l < s.heap.objs.size := by obtain ⟨_, e, _⟩ := hl; exact Heap.lt_size e
  refine wpAny_pyIter_tuple hl (h _ rfl ⟨⟨_, Heap.get?_push_size _ rfl, rfl, rfl⟩, hl.push _⟩ (fun b hb => ?_) (Nat.ne_of_lt hlt))
  show b < (s.heap.push _).objs.size
  rw [Heap.size_push]
  rcases List.mem_cons.mp hb with rfl | hb
  · exact Nat.lt_succ_self _
  · rcases List.mem_cons.mp hb with rfl | hb
    · exact Nat.lt_succ_of_lt hlt
    · cases hb
theorem old_keptT {h' : Heap} (hk : ∀ b o, b ∉ [s.heap.objs.size] → (s.heap.push { cls := .type "tuple_iterator", data := .fields #[.ref l, .int 0 0] }).get? b = some o → h'.get? b = some o) :
    ∀ b o, s.heap.get? b = some o → h'.get? b = some o := fun b o e => by
  refine hk b o (fun hm => ?_) (Heap.get?_push_of_some _ e)
  rcases List.mem_cons.mp hm with e1 | hm
  · exact absurd (e1 ▸ Heap.lt_size e) (Nat.lt_irrefl _)
  · cases hm
theorem max_intTup {Q : Value → Shared → Prop} (hh : A.handled = none) (hl : s.heap.IsTuple l (intItems xs)) (hne : 0 < xs.size)
    (h : ∀ v h' tk, (intItems xs)[argBest (fun i j => decide (numAt xs i > numAt xs j)) (xs.size - 1)]? = some v → (∀ b o, s.heap.get? b = some o → h'.get? b = some o) → Q v { s with heap := h', toks := tk }) :
    wpAny (model prog w) A (call (.builtin "max") [.ref l]) Q E s := by
  refine call_max_walk (iter_intTup hl fun s₂ e st hfp hlI => ?_)
  subst e
  refine ⟨_, _, _, _, _, _, _, rfl, Walks.tuple (A := A.in1) hh _ l hlI (intItems xs), st, hfp, by simpa [intItems] using hne, CmpOf.ints_gt (numAt xs) (fun _ _ => intItems_at), fun v h' tk hP hk => ?_⟩
  exact h v h' tk (by simpa [intItems] using hP) (old_keptT hk)
theorem min_intTup {Q : Value → Shared → Prop} (hh : A.handled = none) (hl : s.heap.IsTuple l (intItems xs)) (hne : 0 < xs.size)
    (h : ∀ v h' tk, (intItems xs)[argBest (fun i j => decide (numAt xs i < numAt xs j)) (xs.size - 1)]? = some v → (∀ b o, s.heap.get? b = some o → h'.get? b = some o) → Q v { s with heap := h', toks := tk }) :
    wpAny (model prog w) A (call (.builtin "min") [.ref l]) Q E s := by
  refine call_min_walk (iter_intTup hl fun s₂ e st hfp hlI => ?_)
  subst e
  refine ⟨_, _, _, _, _, _, _, rfl, Walks.tuple (A := A.in1) hh _ l hlI (intItems xs), st, hfp, by simpa [intItems] using hne, CmpOf.ints_lt (numAt xs) (fun _ _ => intItems_at), fun v h' tk hP hk => ?_⟩
  exact h v h' tk (by simpa [intItems] using hP) (old_keptT hk)
variable {its : List Value} {ns : List Int} {Q : Value → Shared → Prop}
theorem max_rawT (hh : A.handled = none) (hl : s.heap.IsTuple l its.toArray) (hi : IntsAre its ns) (hne : 0 < ns.length)
    (h : ∀ h' tk M t', (∀ b o, s.heap.get? b = some o → h'.get? b = some o) → M ∈ ns → (∀ a, a ∈ ns → a ≤ M) → Q (.int M t') { s with heap := h', toks := tk }) : wpAny (model prog w) A (call (.builtin "max") [.ref l]) Q E s := by
  obtain ⟨xs, e⟩ := hi.allInts.items
  have hn : numsOf (intItems xs).toList = ns := by rw [← e]; exact hi.numsOf
  rw [nums_intItems] at hn
  subst hn
  rw [e] at hl
  have hsz : 0 < xs.size := by simpa using hne
  refine max_intTup hh hl hsz fun v h' tk hv hk => ?_
  obtain ⟨t, rfl⟩ := intItems_at hv
  obtain ⟨h1, h2⟩ := argBest_gt (numAt xs) (xs.size - 1)
  refine h h' tk _ t hk ?_ fun a ha => ?_
  · rw [numAt_eq]; exact PySem.getD_mem (by rw [List.length_map, Array.length_toList]; omega)
  · obtain ⟨j, hj, rfl⟩ := mem_getD ha
    rw [List.length_map, Array.length_toList] at hj
    rw [← numAt_eq]; exact h2 j (by omega)
theorem min_rawT (hh : A.handled = none) (hl : s.heap.IsTuple l its.toArray) (hi : IntsAre its ns) (hne : 0 < ns.length)
    (h : ∀ h' tk M t', (∀ b o, s.heap.get? b = some o → h'.get? b = some o) → M ∈ ns → (∀ a, a ∈ ns → M ≤ a) → Q (.int M t') { s with heap := h', toks := tk }) : wpAny (model prog w) A (call (.builtin "min") [.ref l]) Q E s := by
  obtain ⟨xs, e⟩ := hi.allInts.items
  have hn : numsOf (intItems xs).toList = ns := by rw [← e]; exact hi.numsOf
  rw [nums_intItems] at hn
  subst hn
  rw [e] at hl
  have hsz : 0 < xs.size := by simpa using hne
  refine min_intTup hh hl hsz fun v h' tk hv hk => ?_
  obtain ⟨t, rfl⟩ := intItems_at hv
  obtain ⟨h1, h2⟩ := argBest_lt (numAt xs) (xs.size - 1)
  refine h h' tk _ t hk ?_ fun a ha => ?_
  · rw [numAt_eq]; exact PySem.getD_mem (by rw [List.length_map, Array.length_toList]; omega)
  · obtain ⟨j, hj, rfl⟩ := mem_getD ha
    rw [List.length_map, Array.length_toList] at hj
    rw [← numAt_eq]; exact h2 j (by omega)
end
section
variable {X : Cx}
def rMaxT (K : PySem.W.Frag) : List V → Hp → VK → Prop := fun vs H Q => ∃ (a : Addr) (ns : List Int), vs = [V.ref a] ∧ SqT K H a (ns.map V.int) ∧ 0 < ns.length ∧ ∀ m, m ∈ ns → (∀ y, y ∈ ns → y ≤ m) → Q (.int m) H
def rMinT (K : PySem.W.Frag) : List V → Hp → VK → Prop := fun vs H Q => ∃ (a : Addr) (ns : List Int), vs = [V.ref a] ∧ SqT K H a (ns.map V.int) ∧ 0 < ns.length ∧ ∀ m, m ∈ ns → (∀ y, y ∈ ns → m ≤ y) → Q (.int m) H
theorem cr_maxT (hc : X.calm = true) : CallR X (.builtin "max") (rMaxT X.K) := by
  intro pins s σ H vs us Q I r h
  obtain ⟨a, ns, rfl, hs, hne, q⟩ := h
  obtain ⟨its, rv, hl, _⟩ := I.tuple hs
  rw [Vals.ref1 r]
  exact max_rawT (I.ok.hd hc) hl rv.ints hne fun h' tk m t' hk h1 h2 => ⟨.int _, H, I.kept hk, ⟨_, rfl⟩, q m h1 h2⟩
theorem cr_minT (hc : X.calm = true) : CallR X (.builtin "min") (rMinT X.K) := by
  intro pins s σ H vs us Q I r h
  obtain ⟨a, ns, rfl, hs, hne, q⟩ := h
  obtain ⟨its, rv, hl, _⟩ := I.tuple hs
  rw [Vals.ref1 r]
  exact min_rawT (I.ok.hd hc) hl rv.ints hne fun h' tk m t' hk h1 h2 => ⟨.int _, H, I.kept hk, ⟨_, rfl⟩, q m h1 h2⟩
end
end EnT
namespace EnT
open PySem PySem.Spec PyProof.Rows L2
theorem tuple_mulSame (l : Addr) (items : Array Value) (n : Nat) (dd : Option Addr) (sl : Array (Option Value)) (x : Int) (u : Tok) (c0 : (decide (x < -(2 ^ 63)) || decide (x ≥ 2 ^ 63)) = false) (c1 : (items.isEmpty || x == 1) = true) :
    Meets (Builtin.«tuple.__mul__» ⟨[.ref l, .int x u], []⟩) (fun _ R s => s.heap.get? l = some { cls := .type "tuple", dict := dd, data := .seq items n, slots := sl } ∧
      R (.ok (.ret (Value.ref l))) s) :=
  .of_wp fun prog w A R s h => by
    obtain ⟨hp, g, d, tk, os⟩ := s
    obtain ⟨hl, h⟩ := h
    have f1 := AutoSeq1.idx_int
    wp_walk using wpAny_loadPart' hl
    repeat (first
      | (refine wpAny_ite_false (decide_eq_false (by rw [c0]; exact Bool.false_ne_true)) ?_; wp_walk using wpAny_loadPart' hl)
      | (refine wpAny_ite_true (decide_eq_true c1) ?_; wp_walk using wpAny_loadPart' hl))
    exact ⟨_, rfl, h⟩
theorem tuple_mulNone (l : Addr) (items : Array Value) (n : Nat) (dd : Option Addr) (sl : Array (Option Value)) (x : Int) (u : Tok) (c0 : (decide (x < -(2 ^ 63)) || decide (x ≥ 2 ^ 63)) = false) (c1 : (items.isEmpty || x == 1) = false) (c2 : (decide (x ≤ 0) || items.isEmpty) = true) :
    Meets (Builtin.«tuple.__mul__» ⟨[.ref l, .int x u], []⟩) (fun _ R s => s.heap.get? l = some { cls := .type "tuple", dict := dd, data := .seq items n, slots := sl } ∧
      R (.ok (.ret (Value.ref s.heap.objs.size))) { s with heap := s.heap.push { cls := Value.type "tuple", data := Data.seq #[] }, toks := s.toks }) :=
  .of_wp fun prog w A R s h => by
    obtain ⟨hp, g, d, tk, os⟩ := s
    obtain ⟨hl, h⟩ := h
    have f1 := AutoSeq1.idx_int
    wp_walk using wpAny_loadPart' hl
    repeat (first
      | (refine wpAny_ite_false (decide_eq_false (by rw [c0]; exact Bool.false_ne_true)) ?_; wp_walk using wpAny_loadPart' hl)
      | (refine wpAny_ite_false (decide_eq_false (by rw [c1]; exact Bool.false_ne_true)) ?_; wp_walk using wpAny_loadPart' hl)
      | (refine wpAny_ite_true (decide_eq_true c2) ?_; wp_walk using wpAny_loadPart' hl))
    exact ⟨_, rfl, h⟩
def rRepTF (K : PySem.W.Frag) : R2 := fun x y H Q => ∃ l k xs, x = .ref l ∧ y = .int k ∧ SqT K H l xs ∧ -1000 ≤ k ∧ k ≤ 1000 ∧ xs.length ≤ 1000 ∧
  (xs = [] ∨ k = 1 → Q (.ref l) H) ∧ (¬ (xs = [] ∨ k = 1) → ∀ p o, H p = none → o.dict = none → Q (.ref p) (upd H p (.frz o (.tup (List.replicate k.toNat xs).flatten))))
variable {X : Cx}
theorem op_repTF : OpR X (binaryOp .Mult) (rRepTF X.K) := by
  intro pins s σ H x y v u Q I rx ry h
  obtain ⟨l, k, xs, rfl, rfl, hT, h1, h2, hz, q1, q2⟩ := h
  cases rx
  obtain ⟨t, rfl⟩ := ry
  obtain ⟨its, r, ⟨⟨cls, dd, data, sl⟩, ho, hc, n, hd⟩, hs⟩ := I.tuple hT
  simp only at hc hd
  subst hc hd
  have hle : its.length = xs.length := r.length.symm
  have c0 : (decide (k < -(2 ^ 63)) || decide (k ≥ 2 ^ 63)) = false := by
    rw [decide_eq_false (by omega), decide_eq_false (by omega)] <;> rfl
  have hnil : its = [] ↔ xs = [] := ⟨fun e => by
      rw [e] at hle
      exact List.eq_nil_of_length_eq_zero hle.symm, fun e => by
      rw [e] at hle
      exact List.eq_nil_of_length_eq_zero hle⟩
  have hemp : its.toArray.isEmpty = decide (xs = []) := by
    cases its with
    | nil => rw [decide_eq_true (hnil.mp rfl)]; rfl
    | cons a b => rw [decide_eq_false (fun e => by have := hnil.mpr e; cases this)]; rfl
  have flen : (List.replicate k.toNat its).flatten.length ≤ sizeLine := by
    rw [PyProof.Rows.lm_len_rep_flat, hle, sizeLine_eq]
    have a1 : k.toNat * xs.length ≤ 1000 * 1000 := Nat.mul_le_mul (by omega) hz
    omega
  by_cases hsm : xs = [] ∨ k = 1
  · have c1 : (its.toArray.isEmpty || k == 1) = true := by
      rw [hemp]
      rcases hsm with e | e
      · rw [decide_eq_true e]; rfl
      · subst e; rw [Bool.or_eq_true]; exact .inr rfl
    refine wpAny_binaryOp_repeat_ref (T := "tuple") (U := "int") (by decide) ⟨_, ho, rfl⟩ (fun s' => typeIs_int s' k t) noFill_tuple_mul F.fills_int_mul F.slot_int_rmul repeat_tuple F.slot_int_index.lookup
      (call_meets F.slot_int_rmul (typeIs_int s k t) F.entry_int_rmul (F.args_int_rmul_2 _ _) (int_rmul_tuple k t l its.toArray n dd sl)
        ⟨ho, rfl, ⟨_, ho, rfl⟩, call_meets F.slot_tuple_mul ⟨_, ho, rfl⟩ F.entry_tuple_mul (F.args_tuple_mul_2 _ _) (tuple_mulSame l its.toArray n dd sl k t c0 c1) ⟨ho, ?_⟩⟩)
    exact ⟨.ref l, H, I, rfl, q1 hsm⟩
  · have c1 : (its.toArray.isEmpty || k == 1) = false := by
      rw [hemp, decide_eq_false (fun e => hsm (.inl e)), Bool.false_or]
      exact beq_eq_false_iff_ne.mpr (fun e => hsm (.inr e))
    by_cases hk : k ≤ 0
    · have c2 : (decide (k ≤ 0) || its.toArray.isEmpty) = true := by rw [decide_eq_true hk]; rfl
      refine wpAny_binaryOp_repeat_ref (T := "tuple") (U := "int") (by decide) ⟨_, ho, rfl⟩ (fun s' => typeIs_int s' k t) noFill_tuple_mul F.fills_int_mul F.slot_int_rmul repeat_tuple F.slot_int_index.lookup
        (call_meets F.slot_int_rmul (typeIs_int s k t) F.entry_int_rmul (F.args_int_rmul_2 _ _) (int_rmul_tuple k t l its.toArray n dd sl)
          ⟨ho, rfl, ⟨_, ho, rfl⟩, call_meets F.slot_tuple_mul ⟨_, ho, rfl⟩ F.entry_tuple_mul (F.args_tuple_mul_2 _ _) (tuple_mulNone l its.toArray n dd sl k t c0 c1 c2) ⟨ho, ?_⟩⟩)
      have e0 : (List.replicate k.toNat xs).flatten = [] := by
        have : k.toNat = 0 := by omega
        rw [this]; rfl
      rw [e0] at q2
      refine ⟨.ref s.heap.objs.size, _, I.laid (t' := s.toks) (o := .frz (PobF #[]) (.tup [])) (fun b ob q => Heap.get?_push_of_some _ q) (Nat.le_refl _) ?_, rfl, q2 hsm _ _ (I.hok.fresh (Nat.le_refl _)) rfl⟩
      exact ⟨Heap.get?_push_size _ rfl, Nat.zero_le _, [], .nil, IsTup.new _ _⟩
    · have hsz0 : its.toArray.size = xs.length := by rw [List.size_toArray, hle]
      have hm : ((its.toArray.size : Nat) : Int) * k ≤ 1000000 := by
        rw [hsz0]
        have a1 : ((xs.length : Nat) : Int) * k ≤ 1000 * k := Int.mul_le_mul_of_nonneg_right (by omega) (by omega)
        omega
      have c2 : (decide (k ≤ 0) || its.toArray.isEmpty) = false := by
        rw [hemp, decide_eq_false (fun e => hsm (.inl e)), Bool.or_false]
        exact decide_eq_false (by omega)
      have c4 : Builtin.Tuple.tupleTooMany (((its.toArray.size : Nat) : Int) * k) = false := by
        unfold Builtin.Tuple.tupleTooMany
        rw [sizeLine_eq]
        exact decide_eq_false (by omega)
      refine wpAny_binaryOp_repeat_ref (T := "tuple") (U := "int") (by decide) ⟨_, ho, rfl⟩ (fun s' => typeIs_int s' k t) noFill_tuple_mul F.fills_int_mul F.slot_int_rmul repeat_tuple F.slot_int_index.lookup
        (call_meets F.slot_int_rmul (typeIs_int s k t) F.entry_int_rmul (F.args_int_rmul_2 _ _) (int_rmul_tuple k t l its.toArray n dd sl)
          ⟨ho, rfl, ⟨_, ho, rfl⟩, call_meets F.slot_tuple_mul ⟨_, ho, rfl⟩ F.entry_tuple_mul (F.args_tuple_mul_2 _ _) (tuple_mulW l its.toArray n dd sl k t c0 c1 c2 (by omega) c4 (by rw [size_rep, List.size_toArray]; exact flen)) ⟨ho, ?_⟩⟩)
      rw [size_rep]
      refine ⟨.ref s.heap.objs.size, _, I.laid (t' := s.toks) (o := .frz (PobF (List.replicate k.toNat its).flatten.toArray) (.tup (List.replicate k.toNat xs).flatten)) (fun b ob q => Heap.get?_push_of_some _ q) (Nat.le_refl _) ?_, rfl, q2 hsm _ _ (I.hok.fresh (Nat.le_refl _)) rfl⟩
      exact ⟨Heap.get?_push_size _ rfl, by rw [PyProof.Rows.lm_len_rep_flat, sizeLine_eq]; have a1 : k.toNat * xs.length ≤ 1000 * 1000 := Nat.mul_le_mul (by omega) hz; omega, _, r.rep k.toNat, IsTup.new _ _⟩
theorem fm_congr {α β : Type} {f g : α → Option β} : ∀ {l : List α}, (∀ x ∈ l, f x = g x) → l.filterMap f = l.filterMap g
  | [], _ => rfl
  | x :: l, h => by rw [List.filterMap_cons, List.filterMap_cons, h x List.mem_cons_self, fm_congr fun y hy => h y (List.mem_cons_of_mem _ hy)]
theorem back_all (xs : Array Value) : ((List.range xs.size).filterMap fun (k : Nat) => xs[((xs.size : Int) - 1 + (k : Int) * (-1)).toNat]?).toArray = xs.toList.reverse.toArray := by
  have e : (List.range xs.size).filterMap (fun (k : Nat) => xs[((xs.size : Int) - 1 + (k : Int) * (-1)).toNat]?) = ((List.range xs.size).map fun k => xs.size - 1 - k).filterMap fun k => xs[k]? := by
    rw [List.filterMap_map]
    refine fm_congr fun k hk => ?_
    have := List.mem_range.mp hk
    have e2 : ((xs.size : Int) - 1 + (k : Int) * (-1)).toNat = xs.size - 1 - k := by omega
    rw [e2]
    rfl
  rw [e, PySem.W.krv_range, List.filterMap_reverse, PySem.W.krv_all]
theorem sliceApplied_rev {prog : Program} {w : World} {A : Around} {E : Value → Shared → Prop} {s : Shared} {sl : Addr} {vl vu vs : Value} {n : Nat} {Q : Int × Int × Nat → Shared → Prop} (hs : s.heap.IsSliceOf sl vl vu vs) (pl : IsPart vl none) (pu : IsPart vu none) (ps : IsPart vs (some (-1)))
    (h : Q ((n : Int) - 1, -1, n) s) : wpAny (model prog w) A (Builtin.Slice.sliceApplied (.ref sl) (pure (n : Int))) Q E s := by
  obtain ⟨os, hos, hcs, hds⟩ := id hs
  unfold Builtin.Slice.sliceApplied Builtin.Slice.sliceFields
  refine wpAny_bind (wpAny_bind (wpAny_field hos hds (x := vl) rfl (wpAny_bind (wpAny_field hos hds (x := vu) rfl (wpAny_bind (wpAny_field hos hds (x := vs) rfl (wpAny_pure ?_)))))))
  refine wpAny_bind (HT.slicePart_ ps ?_)
  show wpAny _ _ (if ((-1 : Int) == 0) = true then _ else _) _ _ s
  rw [if_neg (by decide)]
  refine wpAny_bind (HT.slicePart_ pl (wpAny_bind (HT.slicePart_ pu (wpAny_bind (wpAny_pure ?_)))))
  have e1 : Builtin.Slice.sliceAdjust none none (-1) (n : Int) = ((n : Int) - 1, -1) := by
    unfold Builtin.Slice.sliceAdjust
    simp
  have e2 : Builtin.Slice.slicePlaces ((n : Int) - 1) (-1) (-1) = n := by
    unfold Builtin.Slice.slicePlaces
    have h1 : ¬ ((-1 : Int) > 0) := by decide
    simp only [h1, if_false]
    split
    · rw [show (- -1 : Int) = 1 by decide]
      simp only [Int.ediv_one]
      omega
    · omega
  show wpAny _ _ (match Builtin.Slice.sliceAdjust none none (-1) (n : Int) with | (lo, hi) => pure (lo, (-1 : Int), Builtin.Slice.slicePlaces lo hi (-1))) _ _ s
  rw [e1]
  show wpAny _ _ (pure ((n : Int) - 1, (-1 : Int), Builtin.Slice.slicePlaces ((n : Int) - 1) (-1) (-1))) _ _ s
  rw [e2]
  exact wpAny_pure h
theorem getItem_tuple_rev {prog : Program} {w : World} {A : Around} {E : Value → Shared → Prop} {s : Shared} {t sl : Addr} {items : Array Value} {vl vu vs : Value} {Q : Value → Shared → Prop} (ht : IsTup s.heap t items) (hs : s.heap.IsSliceOf sl vl vu vs) (pl : IsPart vl none) (pu : IsPart vu none) (ps : IsPart vs (some (-1)))
    (h : Q (.ref s.heap.objs.size) { s with heap := s.heap.push { cls := .type "tuple", data := .seq items.toList.reverse.toArray } })
    (hsz : items.size ≤ sizeLine) : wpAny (model prog w) A (getItem (.ref t) (.ref sl)) Q E s := by
  have hok : sizeOk (.seq items.toList.reverse.toArray) := by
    show items.toList.reverse.toArray.size ≤ sizeLine
    rw [List.size_toArray, List.length_reverse, Array.length_toList]
    exact hsz
  obtain ⟨os, hos, hcs, hds⟩ := id hs
  have hTs : s.TypeIs (.ref sl) "slice" := ⟨os, hos, hcs⟩
  unfold getItem
  try with_reducible refine wpAny_holding ?_
  first | refine wpAny_bind (wpAny_pure ?_) | skip
  refine wpAny_bind (wpAny_sequenceKey ht.typeIs (by decide) ?_)
  refine wpAny_bind (wpAny_callSpecial?_slot (name := Str.ofString "__getitem__") ht.typeIs PyProof.Rows.slot_tuple_getitem (wpAny_call_entry PyProof.Rows.slot_tuple_getitem ht.typeIs entry_tuple_getitem ?_ (args_tuple_getitem _ _)))
  show wpAny _ _ (Builtin.Tuple.tupleItemsOf (.ref t) >>= _) _ _ s
  refine wpAny_bind (tupleItemsOf_ ht ?_)
  refine wpAny_bind (wpAny_typeOf hTs ?_)
  rw [if_pos (by decide)]
  refine wpAny_bind (sliceApplied_rev hs pl pu ps ?_)
  have hno : ¬ ((((items.size : Int) - 1) == 0 && (-1 : Int) == 1 && items.size == items.size) = true) := by
    intro q
    rw [Bool.and_eq_true, Bool.and_eq_true] at q
    exact absurd (eq_of_beq q.1.2) (by decide)
  show wpAny _ _ (if (((items.size : Int) - 1) == 0 && (-1 : Int) == 1 && items.size == items.size) = true then _ else _) _ _ s
  rw [if_neg hno, back_all]
  first
    | exact wpAny_bind (m := Builtin.Tuple.tupleExact _) (wpAny_newObj_type (wpAny_pure ⟨_, rfl, wpAny_pure h⟩) hok)
    | exact wpAny_bind (m := Builtin.Tuple.tupleExact _) (wpAny_newObj_type (wpAny_bind (wpAny_pure (wpAny_pure ⟨_, rfl, wpAny_pure h⟩))) hok)
    | exact wpAny_bind (wpAny_bind (m := Builtin.Tuple.tupleExact _) (wpAny_newObj_type (wpAny_pure (wpAny_pure ⟨_, rfl, wpAny_pure h⟩)) hok))
    | exact wpAny_bind (wpAny_bind (m := Builtin.Tuple.tupleExact _) (wpAny_newObj_type (wpAny_pure ⟨_, rfl, wpAny_pure h⟩) hok))
def tRevX (K : PySem.W.Frag) (te : TE) : TE := fun σ H Q => te σ H fun x H1 => ∃ a xs, x = .ref a ∧ ((SqL K H1 a xs ∧ ∀ p, H1 p = none → Q (.ref p) (upd H1 p (.lst xs.reverse))) ∨ (SqT K H1 a xs ∧ ∀ p o, H1 p = none → o.dict = none → Q (.ref p) (upd H1 p (.frz o (.tup xs.reverse)))))
theorem pe_revX {e : Expr} {te : TE} {k : Nat} {p1 p2 p3 pos : Pos} (he : PE X e te) : PE X (.Subscript e (.Slice none none (some (.UnaryOp .USub (.Constant (.int 1) k p1) p2)) p3) pos) (tRevX X.K te) := by
  refine ⟨fun pins s σ H Q I h => ?_⟩
  refine Subscript_ (thn (he.run pins s σ H _ I h) fun v s1 ⟨x, H1, I1, r1, q1⟩ => ?_)
  obtain ⟨a, xs, ex, q⟩ := q1
  subst ex
  cases r1
  have hst : PO X (some (.UnaryOp .USub (.Constant (.int 1) k p1) p2)) (tPart (tUn (rU fun i => .int (-i)) (tC (.int 1)))) := po_some (pe_un un_neg pe_int)
  refine wpAny_Slice (thn (po_none.run pins s1 σ H1 (fun o H2 => o = none ∧ H2 = H1) I1 ⟨rfl, rfl⟩) fun vl s2 ⟨l, H2, I2, pl, el, e2⟩ => ?_)
  subst el e2
  refine thn (po_none.run pins s2 σ H2 (fun o H3 => o = none ∧ H3 = H2) I2 ⟨rfl, rfl⟩) fun vu s3 ⟨u, H3, I3, pu, eu, e3⟩ => ?_
  subst eu e3
  refine thn (hst.run pins s3 σ H3 (fun o H4 => o = some (-1) ∧ H4 = H3) I3 ⟨1, rfl, -1, rfl, rfl, rfl⟩) fun vs s4 ⟨o, H4, I4, ps, eo, e4⟩ => ?_
  subst eo e4
  have I5 : Inv X pins σ H4 { s4 with heap := s4.heap.push { cls := .type "slice", data := .fields #[vl, vu, vs] } } := I4.kept (t' := s4.toks) fun b ob q => Heap.get?_push_of_some _ q
  show wpAny (model X.prog X.w) X.A (subscriptTail e (.Slice none none (some (.UnaryOp .USub (.Constant (.int 1) k p1) p2)) p3) (.ref a) (.ref s4.heap.objs.size)) (EP X pins σ Q) X.xe { s4 with heap := s4.heap.push { cls := .type "slice", data := .fields #[vl, vu, vs] } }
  rcases q with ⟨hx, q⟩ | ⟨hx, q⟩
  · obtain ⟨its, r, ht, hz⟩ := I5.list hx
    have hlen := r.length
    refine tail_any (ops := [.ref a, .ref s4.heap.objs.size]) ht.isList.typeIs (PySem.slot_list_getitem.lookup) ?_ (by with_unfolding_all rfl)
    refine wpAny_getItem_list_slice ht.isList (Heap.IsSliceOf.new _ vl vu vs) pl pu ps (by decide) ?_ (by rw [List.size_toArray]; omega)
    rw [PySem.W.krv_pick]
    exact ⟨.ref _, _, I5.laid (t' := s4.toks) (o := .lst xs.reverse) (fun b ob q => Heap.get?_push_of_some _ q) (Nat.le_refl _) ⟨by rw [List.length_reverse]; exact hz, _, 0, r.reverse, Heap.get?_push_size _ rfl⟩, rfl, q _ (I5.hok.fresh (Nat.le_refl _))⟩
  · obtain ⟨its, r, ht, hz⟩ := I5.tuple hx
    have hlen := r.length
    refine tail_any (ops := [.ref a, .ref s4.heap.objs.size]) ht.typeIs (PyProof.Rows.slot_tuple_getitem.lookup) ?_ (by with_unfolding_all rfl)
    refine getItem_tuple_rev ht (Heap.IsSliceOf.new _ vl vu vs) pl pu ps ?_ (by rw [List.size_toArray]; omega)
    exact ⟨.ref _, _, I5.laid (t' := s4.toks) (o := .frz (PobF its.reverse.toArray) (.tup xs.reverse)) (fun b ob q => Heap.get?_push_of_some _ q) (Nat.le_refl _) ⟨Heap.get?_push_size _ rfl, by rw [List.length_reverse]; exact hz, _, r.reverse, IsTup.new _ _⟩, rfl, q _ _ (I5.hok.fresh (Nat.le_refl _)) rfl⟩
theorem collect_tupX {prog : Program} {w : World} {A : Around} {E : Value → Shared → Prop} {s : Shared} {t : Addr} {vs : List Value} {Q : List Value → Shared → Prop} (ht : s.heap.IsTuple t vs.toArray) (hz : vs.length ≤ sizeLine)
    (h : Q vs { s with heap := (s.heap.push (seqObj "list" #[] 0)).update s.heap.objs.size (Obj.mapSeq (· ++ vs.toArray)) }) : wpAny (model prog w) A (collect (.ref t)) Q E s := by
  obtain ⟨o, ho, hc, n, hd⟩ := ht
  obtain ⟨H2, e2⟩ : ∃ H2, H2 = (s.heap.push (seqObj "list" #[] 0)).update s.heap.objs.size (Obj.mapSeq (· ++ vs.toArray)) := ⟨_, rfl⟩
  rw [← e2] at h
  have new : (s.heap.push (seqObj "list" #[] 0)).get? s.heap.objs.size = some (seqObj "list" #[] 0) := Heap.get?_push_size _ rfl
  have got : ∃ e, H2.get? s.heap.objs.size = some (seqObj "list" (#[] ++ vs.toArray) e) := by
    rw [e2]
    exact ⟨_, get?_update_seq new _⟩
  obtain ⟨e, got⟩ := got
  unfold collect
  refine wpAny_bind (wpAny_runValue (codeAny_builtin PySem.F.entry_proto_collect ?_))
  rw [Around.under_plainId PySem.F.plain_proto_collect _]
  show wpAny _ A.in1 (newList [] >>= fun l => again (.builtin "list.__iadd__" ⟨[l, .ref t], []⟩)) _ _ s
  refine wpAny_bind (wpAny_newObj_type (wpAny_pure ⟨plainId_quiet PySem.F.plain_list_iadd _, codeAny_builtin PySem.F.entry_list_iadd ?_⟩))
  rw [Around.under_plainId PySem.F.plain_list_iadd _]
  have last : wpAny (model prog w) A (load s.heap.objs.size >>= fun o => match o.data with
      | .seq xs _ => pure xs.toList
      | _ => unsupported "internal:collect") Q E { s with heap := H2 } := by
    refine wpAny_bind (wpAny_load got ?_)
    show wpAny _ _ (pure ((#[] : Array Value) ++ vs.toArray).toList) Q E _
    rw [show ((#[] : Array Value) ++ vs.toArray).toList = vs by simp]
    exact wpAny_pure h
  refine wpAny_mono (wpAny_extend_seq (hsz := by rw [List.size_toArray]; exact hz) (A := A) (R := fun r s' => r = .ok (.ret (.ref s.heap.objs.size)) ∧ s' = { s with heap := H2 })
    (s := { s with heap := s.heap.push (seqObj "list" #[] 0) }) _ t _ 0 (.inr rfl) new (Heap.get?_push_of_some _ ho) hc hd ⟨rfl, by rw [e2]⟩) (fun fn s' q => ?_) fun e s' q => absurd q.1 (by simp)
  cases fn with
  | done f =>
    obtain ⟨q, rfl⟩ := q
    cases q
    exact last
  | again c' => exact ⟨q.1, codeAny_mono q.2 fun r s'' hr => by obtain ⟨rfl, rfl⟩ := hr; exact last⟩
theorem sorted_tupI {prog : Program} {w : World} {A : Around} {E : Value → Shared → Prop} {s : Shared} {l : Addr} {vs : List Value} {ns : List Int} {Q : Value → Shared → Prop} (hl : s.heap.IsTuple l vs.toArray) (hI : IntsAre vs ns) (hz : vs.length ≤ sizeLine)
    (h : ∀ out : List Value, SrtO.Srtd SrtO.ltIv out → SrtO.Stb SrtO.ltIv out vs → Q (.ref (s.heap.objs.size + 1)) { s with heap := sortedAll s.heap vs out.toArray }) :
    wpAny (model prog w) A (call (.builtin "sorted") [.ref l]) Q E s := by
  refine Calls.call_function_entry kind_sorted plain_sorted entry_sorted (args_sorted1 _) ?_
  unfold Builtin.«sorted»
  refine wpAny_bind (m := checkCount "sorted" 1 1 _) (wpAny_pure ?_)
  refine wpAny_bind (collect_tupX hl hz (wpAny_bind (PySem.wpAny_newObj_type ?_ (by show vs.toArray.size ≤ sizeLine; rw [List.size_toArray]; exact hz))))
  obtain ⟨H2, e2⟩ : ∃ H2, H2 = (s.heap.push (seqObj "list" #[] 0)).update s.heap.objs.size (Obj.mapSeq (· ++ vs.toArray)) := ⟨_, rfl⟩
  have hsz : H2.objs.size = s.heap.objs.size + 1 := by rw [e2, Heap.size_update, size_push']
  rw [← e2]
  have hoL : (H2.push (seqObj "list" vs.toArray 0)).get? (s.heap.objs.size + 1) = some (seqObj "list" vs.toArray 0) := by
    rw [← hsz]; exact Heap.get?_push_size _ rfl
  show wpAny _ _ _ _ _ { s with heap := H2.push (seqObj "list" vs.toArray 0) }
  rw [hsz]
  refine wpAny_bind (wpAny_holding (wpAny_call_entry slot_list_sort ⟨_, hoL, rfl⟩ entry_list_sort (SrtO.list_sort_ord (ltv := SrtO.ltIv) SrtO.swo_int hoL hz (fun h2 => SrtO.ints_sortable hI h2) fun out hs hb => ⟨_, rfl, ?_⟩) (args_list_sort _)))
  have hh := h out hs hb
  unfold sortedAll at hh
  rw [← e2] at hh
  exact wpAny_pure ⟨_, rfl, hh⟩
theorem cr_sortedTI : CallR X (.builtin "sorted") (fun vs H Q => ∃ (a : Addr) (ns : List Int), vs = [V.ref a] ∧ SqT X.K H a (ns.map V.int) ∧ ∀ (ns' : List Int) (p : Addr), ns'.Perm ns → ns'.Pairwise (· ≤ ·) → H p = none → Q (.ref p) (upd H p (.lst (ns'.map V.int)))) := by
  intro pins s σ H vs us Q I r h
  obtain ⟨a, ns, rfl, hs, q⟩ := h
  obtain ⟨its, rv, hl, hz⟩ := I.tuple hs
  rw [Vals.ref1 r]
  have hi := rv.ints
  refine sorted_tupI (show s.heap.IsTuple a its.toArray from hl) hi (by rw [← rv.length]; exact hz) fun out h1 h2 => ?_
  obtain ⟨k1, k2, k3⟩ := SrtO.ints_out hi h1 h2
  obtain ⟨ep, he'⟩ := PyProof.Rows.sortedAll_at s.heap its out.toArray
  have hlen : ((out.map SrtO.iv).map V.int).length ≤ sizeLine := by
    rw [List.length_map] at hz ⊢
    rw [k2.length_eq]
    exact hz
  exact ⟨.ref _, upd H (s.heap.objs.size + 1) (.lst ((out.map SrtO.iv).map V.int)), I.laid (t' := s.toks) (fun _ _ => PyProof.Rows.sortedAll_old) (Nat.le_succ _) ⟨hlen, out, ep, vals_of_ints k1, he'⟩, rfl, q _ _ k2 k3 (I.hok.fresh (Nat.le_succ _))⟩
end EnT
namespace Mp
open PySem

/-- a value of the small language: data, the law's draws, the script, a caught exception -/
inductive PV where
  | d (x : PyData) | rng | scr | exc (c : Nat) (fs : List (Str × PyData))

/-- an exception: its class by number, its fields -/
structure Ex where
  c : Nat
  fs : List (Str × PyData)

/-- what a computation may do: give, raise, be stuck (the proof must show that it isn't), draw a number below m -/
inductive T (α : Type) : Type where
  | ret (a : α) | exc (e : Ex) | stuck | draw (m : Int) (k : Int → T α)

/-- a proof that simp keeps -/
theorem nr {α : Sort u} {a b : α} (h : a = b) : a = b := h
namespace T
variable {α β γ : Type}
def bind : T α → (α → T β) → T β
  | ret a, f => f a
  | exc e, _ => exc e
  | stuck, _ => stuck
  | draw m k, f => draw m fun n => (k n).bind f
instance : Monad T where
  pure := ret
  bind := bind
@[simp] theorem pure_eq (a : α) : (pure a : T α) = ret a := nr rfl
@[simp] theorem ret_bind (a : α) (f : α → T β) : (ret a >>= f) = f a := nr rfl
@[simp] theorem exc_bind (e : Ex) (f : α → T β) : (exc e >>= f) = exc e := nr rfl
@[simp] theorem stuck_bind (f : α → T β) : (stuck >>= f) = stuck := nr rfl
@[simp] theorem draw_bind (m : Int) (k : Int → T α) (f : α → T β) : (draw m k >>= f) = draw m fun n => k n >>= f := nr rfl
theorem bind_ret (x : T α) : (x >>= ret) = x := by
  induction x with
  | ret a => rfl
  | exc e => rfl
  | stuck => rfl
  | draw m k ih => exact congrArg (draw m) (funext ih)
theorem assoc (x : T α) (f : α → T β) (g : β → T γ) : (x >>= f >>= g) = (x >>= fun a => f a >>= g) := by
  induction x with
  | ret a => rfl
  | exc e => rfl
  | stuck => rfl
  | draw m k ih => exact congrArg (draw m) (funext ih)
instance : LawfulMonad T := LawfulMonad.mk' T
  (id_map := fun x => bind_ret x) (pure_bind := fun _ _ => rfl) (bind_assoc := assoc)

/-- all ends are good; c bounds the draws on every way -/
def Wc (Q : Nat → α → Prop) (E : Nat → Ex → Prop) : Nat → T α → Prop
  | c, ret a => Q c a
  | c, exc e => E c e
  | _, stuck => False
  | c, draw m k => 0 < m ∧ 0 < c ∧ ∀ n, 0 ≤ n → n < m → Wc Q E (c - 1) (k n)
theorem Wc_bind {Q : Nat → β → Prop} {E : Nat → Ex → Prop} {f : α → T β} : ∀ (x : T α) (c : Nat), Wc Q E c (x >>= f) ↔ Wc (fun c a => Wc Q E c (f a)) E c x := by
  intro x
  induction x with
  | ret a => exact fun c => Iff.rfl
  | exc e => exact fun c => Iff.rfl
  | stuck => exact fun c => Iff.rfl
  | draw m k ih =>
    intro c
    constructor
    · rintro ⟨h1, h2, h3⟩
      exact ⟨h1, h2, fun n a b => (ih n _).mp (h3 n a b)⟩
    · rintro ⟨h1, h2, h3⟩
      exact ⟨h1, h2, fun n a b => (ih n _).mpr (h3 n a b)⟩
theorem Wc.mono {Q Q' : Nat → α → Prop} {E E' : Nat → Ex → Prop} (hQ : ∀ c a, Q c a → Q' c a) (hE : ∀ c e, E c e → E' c e) : ∀ (x : T α) (c : Nat), Wc Q E c x → Wc Q' E' c x := by
  intro x
  induction x with
  | ret a => exact fun c h => hQ c a h
  | exc e => exact fun c h => hE c e h
  | stuck => exact fun c h => h
  | draw m k ih => exact fun c ⟨h1, h2, h3⟩ => ⟨h1, h2, fun n a b => ih n _ (h3 n a b)⟩

/-- every end is a value of which Q holds -/
def W (Q : α → Prop) : T α → Prop
  | ret a => Q a
  | exc _ => False
  | stuck => False
  | draw m k => 0 < m ∧ ∀ n, 0 ≤ n → n < m → W Q (k n)
theorem W_bind {Q : β → Prop} {f : α → T β} : ∀ (x : T α), W Q (x >>= f) ↔ W (fun a => W Q (f a)) x := by
  intro x
  induction x with
  | ret a => exact Iff.rfl
  | exc e => exact Iff.rfl
  | stuck => exact Iff.rfl
  | draw m k ih =>
    constructor
    · rintro ⟨h1, h3⟩
      exact ⟨h1, fun n a b => (ih n).mp (h3 n a b)⟩
    · rintro ⟨h1, h3⟩
      exact ⟨h1, fun n a b => (ih n).mpr (h3 n a b)⟩
theorem W.mono {Q Q' : α → Prop} (hQ : ∀ a, Q a → Q' a) : ∀ (x : T α), W Q x → W Q' x := by
  intro x
  induction x with
  | ret a => exact fun h => hQ a h
  | exc e => exact fun h => h
  | stuck => exact fun h => h
  | draw m k ih => exact fun ⟨h1, h3⟩ => ⟨h1, fun n a b => ih n (h3 n a b)⟩
/-- at most 2 ^ b draws on every way -/
def Few : Nat → T α → Prop
  | _, ret _ => True
  | _, exc _ => True
  | _, stuck => True
  | c, draw _ k => 0 < c ∧ ∀ n, Few (c - 1) (k n)
theorem Few.mono : ∀ (x : T α) {c d : Nat}, c ≤ d → Few c x → Few d x := by
  intro x
  induction x with
  | ret a => exact fun _ h => h
  | exc e => exact fun _ h => h
  | stuck => exact fun _ h => h
  | draw m k ih => exact fun hcd ⟨h1, h2⟩ => ⟨by omega, fun n => ih n (by omega) (h2 n)⟩
theorem Few.bind {f : α → T β} : ∀ (x : T α) {c d : Nat}, Few c x → (∀ a, Few d (f a)) → Few (c + d) (x >>= f) := by
  intro x
  induction x with
  | ret a => exact fun _ h => Few.mono _ (by omega) (h a)
  | exc e => exact fun _ _ => trivial
  | stuck => exact fun _ _ => trivial
  | draw m k ih =>
    intro c d ⟨h1, h2⟩ h
    refine ⟨by omega, fun n => ?_⟩
    have e : c + d - 1 = (c - 1) + d := by omega
    rw [e]
    exact ih n (h2 n) h
theorem Wc_of_W {Q : α → Prop} {E : Nat → Ex → Prop} : ∀ (x : T α) (c : Nat), W Q x → Few c x → Wc (fun _ a => Q a) E c x := by
  intro x
  induction x with
  | ret a => exact fun c h _ => h
  | exc e => exact fun c h _ => h.elim
  | stuck => exact fun c h _ => h.elim
  | draw m k ih => exact fun c ⟨h1, h3⟩ ⟨f1, f2⟩ => ⟨h1, f1, fun n a b => ih n _ (h3 n a b) (f2 n)⟩
end T
open T

/-- what a slot of a frame holds: nothing, a value, a list of its own, a list of lists of its own -/
inductive Slot where
  | un | v (x : PV) | own (xs : List PyData) | own2 (xss : List (List PyData))
abbrev Ev := List Slot
def Ev.at : Ev → Nat → Slot
  | [], _ => .un
  | s :: _, 0 => s
  | _ :: r, n + 1 => Ev.at r n
@[simp] theorem at_zero (s : Slot) (r : Ev) : Ev.at (s :: r) 0 = s := nr rfl
@[simp] theorem at_succ (s : Slot) (r : Ev) (n : Nat) : Ev.at (s :: r) (n + 1) = Ev.at r n := nr rfl

inductive O1 where
  | len | tuple | list | sorted | sortedSet | lenSet | minL | maxL | sumL | allL | anyL | abs | int | repr | neg | not | isNone | notNone | rev
  deriving DecidableEq
inductive O2 where
  | add | sub | mul | mod | fdiv | pow | eq | ne | lt | le | gt | ge | inn | notIn | ix | max2 | min2 | count | index
  deriving DecidableEq
inductive Ty where
  | int | bool | str | tuple | list | dict
  deriving DecidableEq
/-- a target: a name, names of a tuple, names of a list -/
inductive MT where
  | nm (i : Nat) | tp (is : List Nat)
  deriving DecidableEq
mutual
inductive ME where
  | var (i : Nat) | rd (i : Nat) | brw (e : ME) | gl (k : Nat) | k (c : PyData)
  | tup (es : MEs) | lst (es : MEs) | dict0
  | o1 (op : O1) (a : ME) | o2 (op : O2) (a b : ME)
  | slL (a lo : ME) | slU (a hi : ME) | slLU (a lo hi : ME)
  | and (a b : ME) | or (a b : ME) | ife (c a b : ME) | chain (p q : O2) (a b c : ME)
  | call (f : Nat) (as : MEs) | draw (i : Nat) (m : ME) | isi (ts : List Ty) (a : ME)
  | lc (g : Bool) (tg : MT) (it : MI) (e : ME) | lcIf (g : Bool) (tg : MT) (it : MI) (c e : ME) | lc2 (g : Bool) (t1 : MT) (i1 : MI) (t2 : MT) (i2 : MI) (e : ME)
  | fld (a : ME) (f : String) | ofI (l : Bool) (it : MI) | mth (op : O2) (a b : ME) | isx (cs : List Nat) (a : ME) | alone (a : ME)
inductive MEs where
  | nil | cons (e : ME) (r : MEs) | star (e : ME) (r : MEs)
inductive MI where
  | seq (e : ME) | range (a b : ME) | range1 (b : ME) | range3 (a b c : ME) | enum (e : ME) | zip (a b : ME)
end
mutual
inductive MS where
  | asg (i : Nat) (e : ME) | asgO (i : Nat) (e : ME) | asgO2 (i : Nat) (g : Bool) (tg : MT) (it : MI) (e : ME) | mov (i j : Nat) | unpk (tg : MT) (e : ME)
  | par (is : List (Bool × Nat)) (es : MEs)
  | frz (i : Nat) | app (i : Nat) (e : ME) | ext (i : Nat) (e : ME) | popTo (i : Nat) (l : Nat) (e : ME) | popLast (i : Nat) (l : Nat) | appPop (i l : Nat) (e : ME)
  | setI (l : Nat) (i e : ME) | setII (l : Nat) (i j e : ME) | aug (i : Nat) (op : O2) (e : ME)
  | ex (e : ME) | ret (e : ME) | retN | ite (c : ME) (a b : MSs) | for (g : Bool) (tg : MT) (it : MI) (b : MSs) | whl (c : ME) (b : MSs)
  | brk | cont | pass | never | rais (c : Nat) (es : MEs) | tryx (b : MS) (hs : MHs)
inductive MSs where
  | nil | cons (s : MS) (r : MSs)
/-- except clauses: class, slot of the name, suite -/
inductive MHs where
  | nil | cons (c i : Nat) (s : MSs) (r : MHs)
end

abbrev PyData.ints (ns : List Int) : List PyData := ns.map PyData.int
def asInt : PyData → T Int
  | .int i => ret i
  | _ => stuck
def asBool : PyData → T Bool
  | .bool b => ret b
  | _ => stuck
def asSeq : PyData → T (List PyData)
  | .list xs => ret xs
  | .tuple xs => ret xs
  | _ => stuck
def intsOf : List PyData → Option (List Int)
  | [] => some []
  | .int i :: r => (intsOf r).map (i :: ·)
  | _ :: _ => none
def boolsOf : List PyData → Option (List Bool)
  | [] => some []
  | .bool b :: r => (boolsOf r).map (b :: ·)
  | _ :: _ => none
/-- a pair of ints -/
def pairsOf : List PyData → Option (List (Int × Int))
  | [] => some []
  | .tuple [.int a, .int b] :: r => (pairsOf r).map ((a, b) :: ·)
  | _ :: _ => none
@[simp] theorem intsOf_ints (ns : List Int) : intsOf (ns.map PyData.int) = some ns := by
  induction ns with
  | nil => rfl
  | cons n r ih => simp [intsOf, ih]
@[simp] theorem boolsOf_bools (bs : List Bool) : boolsOf (bs.map PyData.bool) = some bs := by
  induction bs with
  | nil => rfl
  | cons n r ih => simp [boolsOf, ih]
theorem ints_of : ∀ {xs : List PyData} {ns : List Int}, intsOf xs = some ns → xs = ns.map PyData.int
  | [], ns, h => by
    cases h
    rfl
  | .int i :: r, ns, h => by
    simp only [intsOf, Option.map_eq_some_iff] at h
    obtain ⟨m, hm, rfl⟩ := h
    rw [ints_of hm]
    rfl
  | .none :: _, _, h => by simp [intsOf] at h
  | .bool _ :: _, _, h => by simp [intsOf] at h
  | .str _ :: _, _, h => by simp [intsOf] at h
  | .list _ :: _, _, h => by simp [intsOf] at h
  | .tuple _ :: _, _, h => by simp [intsOf] at h
  | .dict _ :: _, _, h => by simp [intsOf] at h
theorem bools_of : ∀ {xs : List PyData} {ns : List Bool}, boolsOf xs = some ns → xs = ns.map PyData.bool
  | [], ns, h => by
    cases h
    rfl
  | .bool i :: r, ns, h => by
    simp only [boolsOf, Option.map_eq_some_iff] at h
    obtain ⟨m, hm, rfl⟩ := h
    rw [bools_of hm]
    rfl
  | .none :: _, _, h => by simp [boolsOf] at h
  | .int _ :: _, _, h => by simp [boolsOf] at h
  | .str _ :: _, _, h => by simp [boolsOf] at h
  | .list _ :: _, _, h => by simp [boolsOf] at h
  | .tuple _ :: _, _, h => by simp [boolsOf] at h
  | .dict _ :: _, _, h => by simp [boolsOf] at h
def SL : Nat := 16777216
theorem SL_eq : SL = sizeLine := by rw [sizeLine_eq]; rfl
/-- insertion sort of ints -/
def insI (a : Int) : List Int → List Int
  | [] => [a]
  | b :: r => if a ≤ b then a :: b :: r else b :: insI a r
def sortI : List Int → List Int
  | [] => []
  | a :: r => insI a (sortI r)
def dedup : List Int → List Int
  | [] => []
  | a :: r => if a ∈ r then dedup r else a :: dedup r
/-- the greatest, the least of a list that isn't empty -/
def maxI : List Int → Int
  | [] => 0
  | [a] => a
  | a :: r => max a (maxI r)
def minI : List Int → Int
  | [] => 0
  | [a] => a
  | a :: r => min a (minI r)
/-- flat: no object -/
def flat : PyData → Bool
  | .none => true | .bool _ => true | .int _ => true | .str _ => true | _ => false
/-- == of flat data as HandS's scal serves it -/
def scalD : PyData → PyData → Bool
  | .none, .none => true | .none, .int _ => true | .int _, .none => true | .none, .bool _ => true | .bool _, .none => true | .none, .str _ => true | .str _, .none => true
  | .int _, .int _ => true | .bool _, .bool _ => true | .str _, .str _ => true
  | .int _, .str _ => true | .str _, .int _ => true | .bool _, .str _ => true | .str _, .bool _ => true
  | _, _ => false
def eqFlat : PyData → PyData → Bool
  | .none, .none => true
  | .int a, .int b => decide (a = b)
  | .bool a, .bool b => decide (a = b)
  | .str a, .str b => decide (a = b)
  | _, _ => false
/-- a place of a list: from the front, from the back -/
def place (n : Nat) (i : Int) : Option Nat := if 0 ≤ i then (if i < n then some i.toNat else none) else if -(n : Int) ≤ i then some (i + n).toNat else none
def seqAt (xs : List PyData) (i : Int) : T PyData := match place xs.length i with
  | some j => match xs[j]? with
    | some x => ret x
    | none => stuck
  | none => stuck
/-- a bound of a slice -/
def cutP (n : Nat) (i : Int) : Nat := if i < 0 then (i + n).toNat else min i.toNat n
def cut (xs : List PyData) (lo hi : Option Int) : List PyData :=
  let a := match lo with | none => 0 | some i => cutP xs.length i
  let b := match hi with | none => xs.length | some i => cutP xs.length i
  (xs.drop a).take (b - a)
def tyOf : PyData → Option Ty
  | .int _ => some .int | .bool _ => some .bool | .str _ => some .str | .tuple _ => some .tuple | .list _ => some .list | .dict _ => some .dict | .none => none
/-- isinstance: a bool is an int -/
def isTy (x : PyData) (t : Ty) : Bool := match tyOf x with
  | some u => decide (u = t) || (decide (u = .bool) && decide (t = .int))
  | none => false

def need (p : Prop) [Decidable p] : T Unit := if p then ret () else stuck
@[simp] theorem need_pos {p : Prop} [Decidable p] (h : p) : need p = ret () := if_pos h
def opt {α : Type} : Option α → T α
  | some a => ret a
  | none => stuck
def asD : PV → T PyData
  | .d x => ret x
  | _ => stuck
/-- lexicographic order of lists of ints -/
def lexLt : List Int → List Int → Bool
  | [], [] => false
  | [], _ :: _ => true
  | _ :: _, [] => false
  | x :: xs, y :: ys => if x = y then lexLt xs ys else decide (x < y)
/-- tuples of ints -/
def tupsOf : List PyData → Option (List (List Int))
  | [] => some []
  | .tuple xs :: r => match intsOf xs, tupsOf r with
    | some a, some b => some (a :: b)
    | _, _ => none
  | _ :: _ => none
def insT (a : List Int) : List (List Int) → List (List Int)
  | [] => [a]
  | b :: r => if lexLt b a then b :: insT a r else a :: b :: r
def sortT : List (List Int) → List (List Int)
  | [] => []
  | a :: r => insT a (sortT r)
def tupI (a : List Int) : PyData := .tuple (a.map .int)
def sortD (xs : List PyData) : T (List PyData) := match intsOf xs with
  | some ns => ret ((sortI ns).map .int)
  | none => stuck
def absI (i : Int) : Int := if i < 0 then -i else i
def bI (b : Bool) : Int := if b then 1 else 0
def reprD (x : PyData) : T PyData := do
  need (x.showable = true ∧ x.depth ≤ 64 ∧ x.shown.length ≤ SL)
  ret (.str x.shown)
def o1 : O1 → PyData → T PyData
  | .len, .list xs => ret (.int xs.length)
  | .len, .tuple xs => ret (.int xs.length)
  | .tuple, .list xs => ret (.tuple xs)
  | .tuple, .tuple xs => ret (.tuple xs)
  | .list, .list xs => ret (.list xs)
  | .list, .tuple xs => ret (.list xs)
  | .sorted, .list xs => sortD xs >>= fun ys => ret (.list ys)
  | .sortedSet, .list xs => opt (intsOf xs) >>= fun ns => need (ns.length ≤ 4000) >>= fun _ => ret (.list ((sortI (dedup ns)).map .int))
  | .sortedSet, .tuple xs => opt (intsOf xs) >>= fun ns => need (ns.length ≤ 4000) >>= fun _ => ret (.list ((sortI (dedup ns)).map .int))
  | .lenSet, .tuple xs => opt (intsOf xs) >>= fun ns => need (ns.length ≤ 4000) >>= fun _ => ret (.int (dedup ns).length)
  | .lenSet, .list xs => opt (intsOf xs) >>= fun ns => need (ns.length ≤ 4000) >>= fun _ => ret (.int (dedup ns).length)
  | .minL, .tuple xs => opt (intsOf xs) >>= fun ns => need (0 < ns.length) >>= fun _ => ret (.int (minI ns))
  | .maxL, .tuple xs => opt (intsOf xs) >>= fun ns => need (0 < ns.length) >>= fun _ => ret (.int (maxI ns))
  | .minL, .list xs => opt (intsOf xs) >>= fun ns => need (0 < ns.length) >>= fun _ => ret (.int (minI ns))
  | .maxL, .list xs => opt (intsOf xs) >>= fun ns => need (0 < ns.length) >>= fun _ => ret (.int (maxI ns))
  | .sumL, .list xs => opt (intsOf xs) >>= fun ns => ret (.int ns.sum)
  | .allL, .list xs => opt (boolsOf xs) >>= fun bs => ret (.bool (bs.all id))
  | .anyL, .list xs => opt (boolsOf xs) >>= fun bs => ret (.bool (bs.any id))
  | .abs, .int i => ret (.int (absI i))
  | .int, .int i => ret (.int i)
  | .int, .bool b => ret (.int (bI b))
  | .repr, x => reprD x
  | .neg, .int i => ret (.int (-i))
  | .not, .bool b => ret (.bool (!b))
  | .isNone, .none => ret (.bool true)
  | .isNone, _ => ret (.bool false)
  | .notNone, .none => ret (.bool false)
  | .notNone, _ => ret (.bool true)
  | .rev, .list xs => ret (.list xs.reverse)
  | .rev, .tuple xs => ret (.tuple xs.reverse)
  | .sorted, .tuple xs => sortD xs >>= fun ys => ret (.list ys)
  | _, _ => stuck
def small (i : Int) : Prop := -18446744073709551616 < i ∧ i < 18446744073709551616
instance (i : Int) : Decidable (small i) := inferInstanceAs (Decidable (_ ∧ _))
/-- == of two empty dicts, == with an empty list or tuple: told without a look at the items -/
def nilP : PyData → PyData → Option Bool
  | .dict [], .dict [] => some true
  | .list xs, .list [] => some xs.isEmpty
  | .tuple xs, .tuple [] => some xs.isEmpty
  | _, _ => none
def eqD (a b : PyData) : T Bool := match nilP a b with
  | some r => ret r
  | none => need (SeqAt.shaped a = true ∧ SeqAt.shaped b = true) >>= fun _ => ret (PyData.eqv a b)
def inD (a : PyData) (xs : List PyData) : T Bool := need (SeqAt.shaped a = true ∧ SeqAt.shaped (.list xs) = true) >>= fun _ => ret (xs.any fun z => PyData.eqv z a)
def indexD (a : PyData) (xs : List PyData) : T Nat := need (SeqAt.shaped a = true ∧ SeqAt.shaped (.list xs) = true) >>= fun _ => opt (xs.findIdx? fun z => PyData.eqv z a)
def countD (a : PyData) (xs : List PyData) : T Nat := need (SeqAt.shaped a = true ∧ SeqAt.shaped (.list xs) = true) >>= fun _ => ret (xs.countP fun z => PyData.eqv z a)
def ltD : PyData → PyData → T Bool
  | .int i, .int j => ret (decide (i < j))
  | .tuple xs, .tuple ys => opt (intsOf xs) >>= fun a => opt (intsOf ys) >>= fun b => ret (lexLt a b)
  | _, _ => stuck
def leD : PyData → PyData → T Bool
  | .int i, .int j => ret (decide (i ≤ j))
  | _, _ => stuck
def o2 : O2 → PyData → PyData → T PyData
  | .add, .int i, .int j => ret (.int (i + j))
  | .add, .list xs, .list ys => need (xs.length + ys.length ≤ SL) >>= fun _ => ret (.list (xs ++ ys))
  | .add, .tuple xs, .tuple ys => need (xs.length + ys.length ≤ SL) >>= fun _ => ret (.tuple (xs ++ ys))
  | .sub, .int i, .int j => ret (.int (i - j))
  | .mul, .int i, .int j => need (small i ∨ small j) >>= fun _ => ret (.int (i * j))
  | .mul, .tuple xs, .int j => need (-1000 ≤ j ∧ j ≤ 1000 ∧ xs.length ≤ 1000) >>= fun _ => ret (.tuple (List.replicate j.toNat xs).flatten)
  | .mul, .list xs, .int j => need (0 ≤ j ∧ j < 4611686018427387904 ∧ xs.length * j.toNat ≤ SL) >>= fun _ => ret (.list (List.replicate j.toNat xs).flatten)
  | .mod, .int i, .int j => need (0 < j) >>= fun _ => ret (.int (i % j))
  | .fdiv, .int i, .int j => need (0 < j ∧ j < 1073741824) >>= fun _ => ret (.int (i / j))
  | .pow, .int i, .int j => need (0 ≤ j ∧ j ≤ 1000000 ∧ i.natAbs < 2 ^ 64) >>= fun _ => ret (.int (i ^ j.toNat))
  | .eq, a, b => eqD a b >>= fun r => ret (.bool r)
  | .ne, a, b => eqD a b >>= fun r => ret (.bool (!r))
  | .lt, a, b => ltD a b >>= fun r => ret (.bool r)
  | .le, a, b => leD a b >>= fun r => ret (.bool r)
  | .gt, .int i, .int j => ret (.bool (decide (j < i)))
  | .ge, .int i, .int j => ret (.bool (decide (j ≤ i)))
  | .inn, a, .list xs => inD a xs >>= fun r => ret (.bool r)
  | .inn, a, .tuple xs => inD a xs >>= fun r => ret (.bool r)
  | .notIn, a, .list xs => inD a xs >>= fun r => ret (.bool (!r))
  | .notIn, a, .tuple xs => inD a xs >>= fun r => ret (.bool (!r))
  | .ix, .list xs, .int i => seqAt xs i
  | .ix, .tuple xs, .int i => seqAt xs i
  | .max2, .int i, .int j => ret (.int (max i j))
  | .min2, .int i, .int j => ret (.int (min i j))
  | .count, .list xs, a => countD a xs >>= fun n => ret (.int n)
  | .index, .list xs, a => indexD a xs >>= fun n => ret (.int n)
  | .count, .tuple xs, a => countD a xs >>= fun n => ret (.int n)
  | .index, .tuple xs, a => indexD a xs >>= fun n => ret (.int n)
  | _, _, _ => stuck
def sliceD (lo hi : Option Int) : PyData → T PyData
  | .list xs => ret (.list (cut xs lo hi))
  | .tuple xs => ret (.tuple (cut xs lo hi))
  | _ => stuck
def Slot.fz : Slot → Slot
  | .own xs => .v (.d (.list xs))
  | .own2 xss => .v (.d (.list (xss.map .list)))
  | s => s
def setAll : List Nat → List PyData → Ev → Ev
  | i :: is, x :: xs, env => setAll is xs (env.set i (.v (.d x)))
  | _, _, env => env
def noOwn : Slot → Slot
  | .own _ => .un
  | .own2 _ => .un
  | s => s
def asListD : PyData → T Unit
  | .list _ => ret ()
  | .tuple _ => ret ()
  | _ => stuck
def asTup : PyData → T (List PyData)
  | .tuple xs => ret xs
  | .list xs => ret xs
  | _ => stuck
def zipK : PyData → PyData → T (List PyData × List PyData)
  | .list xs, .list ys => ret (xs, ys)
  | .tuple xs, .tuple ys => ret (xs, ys)
  | .list xs, .tuple ys => ret (xs, ys)
  | .tuple xs, .list ys => ret (xs, ys)
  | _, _ => stuck
def enumK : PyData → T (List PyData)
  | .list xs => ret xs
  | .tuple xs => ret xs
  | _ => stuck
def asgT : MT → PyData → Ev → T Ev
  | .nm i, x, env => ret (env.set i (.v (.d x)))
  | .tp is, x, env => asTup x >>= fun xs => need (xs.length = is.length) >>= fun _ => ret (setAll is xs env)
def unT : MT → Ev → Ev
  | .nm i, env => env.set i .un
  | .tp is, env => is.foldl (fun e i => e.set i .un) env
def mapT {α β : Type} (f : α → T β) : List α → T (List β)
  | [] => ret []
  | x :: xs => f x >>= fun y => mapT f xs >>= fun ys => ret (y :: ys)
def optC {β : Type} : Option β → List β → List β
  | some z, ys => z :: ys
  | none, ys => ys
def filT {α β : Type} (f : α → T (Option β)) : List α → T (List β)
  | [] => ret []
  | x :: xs => f x >>= fun y => filT f xs >>= fun ys => ret (optC y ys)
def appT {α β : Type} (f : α → T (List β)) : List α → T (List β)
  | [] => ret []
  | x :: xs => f x >>= fun y => appT f xs >>= fun ys => ret (y ++ ys)
def rangeD (a b : Int) : T (List PyData) := need (-4611686018427387904 ≤ a ∧ a < 4611686018427387904 ∧ -4611686018427387904 ≤ b ∧ b < 4611686018427387904 ∧ (b - a).toNat ≤ SL) >>= fun _ => T.ret ((List.range (b - a).toNat).map fun (i : Nat) => PyData.int (a + (i : Int)))
def enumD : Nat → List PyData → List PyData
  | _, [] => []
  | n, x :: xs => .tuple [.int n, x] :: enumD (n + 1) xs
def zipD : List PyData → List PyData → List PyData
  | x :: xs, y :: ys => .tuple [x, y] :: zipD xs ys
  | _, _ => []
def guardL (g : Bool) (xs : List PyData) : T Unit := if g then need (xs.length ≤ SL) else ret ()
@[simp] theorem guardL_false (xs : List PyData) : guardL false xs = ret () := nr rfl
theorem guardL_ok {g : Bool} {xs : List PyData} (h : xs.length ≤ SL) : guardL g xs = ret () := by
  unfold guardL
  cases g
  · rfl
  · simp [h]
def nmX : Nat → String
  | 0 => "ValueError" | 1 => "LookupError" | 2 => "MergeError" | 3 => "InvalidTable" | 4 => "SameItem" | 5 => "UnknownLimit" | 6 => "NotSpanning" | 7 => "UnequalSizes" | 8 => "InvalidLevels" | 9 => "Contradictory"
  | 10 => "InvalidLevel" | 11 => "TooMany" | 12 => "InvalidRow" | 13 => "LastItem" | 14 => "NoItems" | 15 => "RepeatedItem" | 16 => "TooLow" | 17 => "InvalidCount" | 18 => "Unlike" | 19 => "InvalidOrder"
  | 20 => "TooManyActions" | 21 => "Busy" | 22 => "NothingToUndo" | 23 => "InvalidBatch" | 24 => "BatchFailed" | 25 => "NotNested" | 26 => "ParseError" | 27 => "NoSuchItem" | 28 => "NoSuchStep" | _ => ""
/-- the names of the fields -/
def fsX : Nat → List Str
  | 3 => [Str.ofString "path", Str.ofString "reason"] | 4 => [Str.ofString "item"] | 5 => [Str.ofString "name"] | 7 => [Str.ofString "index"] | 8 => [Str.ofString "levels"] | 9 => [Str.ofString "one", Str.ofString "other"]
  | 10 => [Str.ofString "level"] | 12 => [Str.ofString "row"] | 15 => [Str.ofString "item"] | 16 => [Str.ofString "least"] | 17 => [Str.ofString "count"] | 18 => [Str.ofString "one", Str.ofString "other"] | 19 => [Str.ofString "order"]
  | 24 => [Str.ofString "index"] | 25 => [Str.ofString "three"] | 26 => [Str.ofString "place"] | 27 => [Str.ofString "item"] | 28 => [Str.ofString "step"] | _ => []
/-- the class c is k or below it -/
def subX (c k : Nat) : Bool := c == k || (k == 0 && (2 ≤ c && c ≤ 26)) || (k == 2 && (2 ≤ c && c ≤ 26)) || (k == 1 && (27 ≤ c && c ≤ 28))
/-- what _law_alone answers: one of four classes, a ValueError, no LookupError -/
def aloneX (c : Nat) : Bool := (c == 7 || c == 8 || c == 9 || c == 4)
structure Ctx where
  call : Nat → List PV → T PV
  sub : Nat → Nat → Bool

/-- the module's constants -/
def gv : Nat → PyData
  | 0 => .int 12
  | 1 => .int 1000000000000
  | 2 => .int 60
  | 3 => .int 20
  | 4 => .tuple [.str (Str.ofString "gap"), .str (Str.ofString "join"), .str (Str.ofString "level")]
  | _ => .none
def gnm : Nat → String
  | 0 => "ITEMS"
  | 1 => "LEVEL"
  | 2 => "GRADES"
  | 3 => "BATCH"
  | 4 => "LIMITS"
  | _ => ""
/-- raising is not served -/
def nox {α : Type} : T α → T α
  | .ret a => .ret a
  | .exc _ => .stuck
  | .stuck => .stuck
  | .draw m k => .draw m fun n => nox (k n)
@[simp] theorem nox_ret {α : Type} (a : α) : nox (T.ret a) = T.ret a := nr rfl
@[simp] theorem nox_stuck {α : Type} : nox (T.stuck : T α) = T.stuck := nr rfl
theorem nox_bind {α β : Type} (x : T α) (f : α → T β) : nox (x >>= f) = nox x >>= fun a => nox (f a) := by
  induction x with
  | ret a => rfl
  | exc e => rfl
  | stuck => rfl
  | draw m k ih => exact congrArg (T.draw m) (funext ih)
theorem T_W_nox {α : Type} {Q : α → Prop} : ∀ (x : T α), T.W Q (nox x) ↔ T.W Q x := by
  intro x
  induction x with
  | ret a => exact Iff.rfl
  | exc e => exact Iff.rfl
  | stuck => exact Iff.rfl
  | draw m k ih =>
    constructor
    · rintro ⟨h1, h3⟩
      exact ⟨h1, fun n a b => (ih n).mp (h3 n a b)⟩
    · rintro ⟨h1, h3⟩
      exact ⟨h1, fun n a b => (ih n).mpr (h3 n a b)⟩
mutual
def denE (C : Ctx) : ME → Ev → T PV
  | .var i, env => match env.at i with
    | .v x => ret x
    | _ => stuck
  | .rd i, env => match env.at i with
    | .v x => ret x
    | .own xs => ret (.d (.list xs))
    | _ => stuck
  | .brw e, env => nox (denE C e (env.map Slot.fz)) >>= fun v => asD v >>= fun x => need (flat x = true) >>= fun _ => ret (.d x)
  | .gl k, _ => ret (.d (gv k))
  | .k c, _ => ret (.d c)
  | .tup es, env => denEs C es env >>= fun xs => need (xs.length ≤ SL) >>= fun _ => ret (.d (.tuple xs))
  | .lst es, env => denEs C es env >>= fun xs => need (xs.length ≤ SL) >>= fun _ => ret (.d (.list xs))
  | .dict0, _ => ret (.d (.dict []))
  | .o1 op a, env => denE C a env >>= asD >>= fun x => o1 op x >>= fun y => ret (.d y)
  | .o2 op a b, env => denE C a env >>= asD >>= fun x => denE C b env >>= asD >>= fun y => o2 op x y >>= fun z => ret (.d z)
  | .slL a lo, env => denE C a env >>= asD >>= fun x => denE C lo env >>= asD >>= asInt >>= fun i => sliceD (some i) none x >>= fun z => ret (.d z)
  | .slU a hi, env => denE C a env >>= asD >>= fun x => denE C hi env >>= asD >>= asInt >>= fun i => sliceD none (some i) x >>= fun z => ret (.d z)
  | .slLU a lo hi, env => denE C a env >>= asD >>= fun x => denE C lo env >>= asD >>= asInt >>= fun i => denE C hi env >>= asD >>= asInt >>= fun j => sliceD (some i) (some j) x >>= fun z => ret (.d z)
  | .and a b, env => denE C a env >>= asD >>= asBool >>= fun p => if p then denE C b env else ret (.d (.bool false))
  | .or a b, env => denE C a env >>= asD >>= asBool >>= fun p => if p then ret (.d (.bool true)) else denE C b env
  | .ife c a b, env => denE C c env >>= asD >>= asBool >>= fun p => if p then denE C a env else denE C b env
  | .chain p q a b c, env => denE C a env >>= asD >>= fun x => denE C b env >>= asD >>= fun y => o2 p x y >>= asBool >>= fun r => if r then denE C c env >>= asD >>= fun z => o2 q y z >>= fun u => ret (.d u) else ret (.d (.bool false))
  | .call f as, env => denAs C as env >>= fun vs => C.call f vs
  | .draw g m, env => match env.at g with
    | .v .rng => denE C m env >>= asD >>= asInt >>= fun i => need (0 < i ∧ i < 1606938044258990275541962092341162602522202993782792835301376) >>= fun _ => T.draw i fun n => ret (.d (.int n))
    | _ => stuck
  | .isi ts a, env => denE C a env >>= asD >>= fun x => ret (.d (.bool (ts.any fun t => isTy x t)))
  | .lc g tg it e, env => denI C it env >>= fun xs => guardL g xs >>= fun _ => mapT (fun x => nox (asgT tg x env >>= fun env' => denE C e env' >>= asD)) xs >>= fun ys => ret (.d (.list ys))
  | .lcIf g tg it c e, env => denI C it env >>= fun xs => guardL g xs >>= fun _ => filT (fun x => nox (asgT tg x env >>= fun env' => denE C c env' >>= asD >>= asBool >>= fun p =>
      if p then denE C e env' >>= asD >>= fun y => ret (some y) else ret none)) xs >>= fun ys => ret (.d (.list ys))
  | .lc2 g t1 i1 t2 i2 e, env => denI C i1 env >>= fun xs => need (xs.length ≤ 4096) >>= fun _ => appT (fun x => nox (asgT t1 x (unT t2 (env.map noOwn)) >>= fun env' => denI C i2 env' >>= fun ys => need (ys.length ≤ 4096) >>= fun _ =>
      mapT (fun y => asgT t2 y env' >>= fun env'' => denE C e env'' >>= asD) ys)) xs >>= fun zs => ret (.d (.list zs))
  | .fld a f, env => denE C a env >>= fun v => match v with
    | .exc _ fs => opt (fs.lookup (Str.ofString f)) >>= fun x => ret (.d x)
    | _ => stuck
  | .isx cs a, env => denE C a env >>= fun v => match v with
    | .exc k _ => ret (.d (.bool (cs.any fun j => subX k j)))
    | _ => stuck
  | .alone a, env => denE C a env >>= fun v => match v with
    | .exc k _ => ret (.d (.bool (aloneX k)))
    | _ => stuck
  | .ofI l it, env => denI C it env >>= fun xs => ret (.d (if l then .list xs else .tuple xs))
  | .mth op a b, env => denE C a env >>= asD >>= fun x => asListD x >>= fun _ => denE C b env >>= asD >>= fun y => o2 op x y >>= fun z => ret (.d z)
/-- the items of a display, data -/
def denEs (C : Ctx) : MEs → Ev → T (List PyData)
  | .nil, _ => ret []
  | .cons e r, env => denE C e env >>= asD >>= fun x => denEs C r env >>= fun xs => ret (x :: xs)
  | .star e r, env => denE C e env >>= asD >>= asSeq >>= fun ys => denEs C r env >>= fun xs => ret (ys ++ xs)
/-- arguments -/
def denAs (C : Ctx) : MEs → Ev → T (List PV)
  | .nil, _ => ret []
  | .cons e r, env => denE C e env >>= fun x => denAs C r env >>= fun xs => ret (x :: xs)
  | .star e r, env => denE C e env >>= asD >>= asSeq >>= fun ys => denAs C r env >>= fun xs => ret (ys.map PV.d ++ xs)
/-- what is walked -/
def denI (C : Ctx) : MI → Ev → T (List PyData)
  | .seq e, env => denE C e env >>= asD >>= asSeq
  | .range a b, env => denE C a env >>= asD >>= asInt >>= fun i => denE C b env >>= asD >>= asInt >>= fun j => rangeD i j
  | .range1 b, env => denE C b env >>= asD >>= asInt >>= fun j => rangeD 0 j
  | .range3 _ _ _, _ => stuck
  | .enum e, env => denE C e env >>= asD >>= enumK >>= fun xs => ret (enumD 0 xs)
  | .zip a b, env => denE C a env >>= asD >>= fun x => denE C b env >>= asD >>= fun y => zipK x y >>= fun p => ret (zipD p.1 p.2)
end

/-- how a statement ends -/
inductive Fl where
  | nx | bk | ct | rt (v : PV)
/-- a try: what the clause takes is handled -/
def tryT {α : Type} (h : Ex → Option (T α)) : T α → T α
  | .ret a => .ret a
  | .exc e => match h e with
    | some t => t
    | none => .exc e
  | .stuck => .stuck
  | .draw m k => .draw m fun n => tryT h (k n)
def forG (body : PyData → Ev → T (Fl × Ev)) : List PyData → Ev → T (Fl × Ev)
  | [], env => ret (.nx, env)
  | x :: xs, env => body x env >>= fun p => match p.1 with
    | .nx => forG body xs p.2
    | .ct => forG body xs p.2
    | .bk => ret (.nx, p.2)
    | .rt v => ret (.rt v, p.2)
def whlG (c : Ev → T Bool) (body : Ev → T (Fl × Ev)) : Nat → Ev → T (Fl × Ev)
  | 0, _ => stuck
  | n + 1, env => c env >>= fun b => if b then body env >>= fun p => match p.1 with
    | .nx => whlG c body n p.2
    | .ct => whlG c body n p.2
    | .bk => ret (.nx, p.2)
    | .rt v => ret (.rt v, p.2)
    else ret (.nx, env)
def ownAt (env : Ev) (i : Nat) : T (List PyData) := match env.at i with
  | .own xs => ret xs
  | _ => stuck
def own2At (env : Ev) (i : Nat) : T (List (List PyData)) := match env.at i with
  | .own2 xs => ret xs
  | _ => stuck
def asList : PyData → T (List PyData)
  | .list xs => ret xs
  | _ => stuck
def listsOf : List PyData → Option (List (List PyData))
  | [] => some []
  | .list xs :: r => (listsOf r).map (xs :: ·)
  | _ :: _ => none
def parSet : List (Bool × Nat) → List PV → Ev → T Ev
  | [], [], env => ret env
  | (true, i) :: is, v :: vs, env => asD v >>= asList >>= fun xs => parSet is vs (env.set i (.own xs))
  | (false, i) :: is, v :: vs, env => parSet is vs (env.set i (.v v))
  | _, _, _ => stuck
/-- no exception is left in a slot -/
def Slot.nx : Slot → Slot
  | .v (.exc _ _) => .un
  | s => s
/-- behind an except suite: the exception is gone -/
def unx (i : Nat) : Fl × Ev → T (Fl × Ev)
  | (.rt (.exc _ _), _) => stuck
  | (f, env) => ret (f, (env.map Slot.nx).set i .un)
mutual
def denS (C : Ctx) : MS → Ev → T (Fl × Ev)
  | .asg i e, env => denE C e env >>= fun v => ret (.nx, env.set i (.v v))
  | .asgO i e, env => denE C e env >>= asD >>= asList >>= fun xs => ret (.nx, env.set i (.own xs))
  | .asgO2 i g tg it e, env => denI C it env >>= fun xs => guardL g xs >>= fun _ => mapT (fun x => nox (asgT tg x env >>= fun env' => denE C e env' >>= asD >>= asList)) xs >>= fun xss => ret (.nx, env.set i (.own2 xss))
  | .mov i j, env => ownAt env j >>= fun xs => ret (.nx, (env.set j .un).set i (.own xs))
  | .unpk tg e, env => denE C e env >>= asD >>= fun x => asgT tg x env >>= fun env' => ret (.nx, env')
  | .par is es, env => denAs C es env >>= fun vs => parSet is vs env >>= fun env' => ret (.nx, env')
  | .frz i, env => ret (.nx, env.set i (env.at i).fz)
  | .app i e, env => ownAt env i >>= fun xs => denE C e env >>= asD >>= fun x => need (xs.length < SL) >>= fun _ => ret (.nx, env.set i (.own (xs ++ [x])))
  | .ext i e, env => ownAt env i >>= fun xs => denE C e env >>= asD >>= asSeq >>= fun ys => need (xs.length + ys.length ≤ SL) >>= fun _ => ret (.nx, env.set i (.own (xs ++ ys)))
  | .popTo i l e, env => ownAt env l >>= fun xs => denE C e env >>= asD >>= asInt >>= fun k => opt (place xs.length k) >>= fun j => opt xs[j]? >>= fun x => ret (.nx, (env.set l (.own (xs.eraseIdx j))).set i (.v (.d x)))
  | .popLast i l, env => ownAt env l >>= fun xs => opt xs[xs.length - 1]? >>= fun x => ret (.nx, (env.set l (.own xs.dropLast)).set i (.v (.d x)))
  | .appPop i l e, env => ownAt env i >>= fun ys => ownAt env l >>= fun xs => denE C e env >>= asD >>= asInt >>= fun k => opt (place xs.length k) >>= fun j => opt xs[j]? >>= fun x => need (ys.length < SL) >>= fun _ =>
      ret (.nx, (env.set l (.own (xs.eraseIdx j))).set i (.own (ys ++ [x])))
  | .setI l i e, env => denE C e env >>= asD >>= fun x => ownAt env l >>= fun xs => denE C i env >>= asD >>= asInt >>= fun k => opt (place xs.length k) >>= fun j => ret (.nx, env.set l (.own (xs.set j x)))
  | .setII l i j e, env => denE C e env >>= asD >>= fun x => own2At env l >>= fun xss => denE C i env >>= asD >>= asInt >>= fun k => opt (place xss.length k) >>= fun p => opt xss[p]? >>= fun xs =>
      denE C j env >>= asD >>= asInt >>= fun m => opt (place xs.length m) >>= fun q => ret (.nx, env.set l (.own2 (xss.set p (xs.set q x))))
  | .aug i op e, env => denE C (.var i) env >>= asD >>= asInt >>= fun x => denE C e env >>= asD >>= asInt >>= fun y => o2 op (.int x) (.int y) >>= fun z => ret (.nx, env.set i (.v (.d z)))
  | .ex e, env => denE C e env >>= fun _ => ret (.nx, env)
  | .ret e, env => denE C e env >>= fun v => ret (.rt v, env)
  | .retN, env => ret (.rt (.d .none), env)
  | .ite c a b, env => denE C c env >>= asD >>= asBool >>= fun p => if p then denSs C a env else denSs C b env
  | .for g tg it b, env => denI C it env >>= fun xs => guardL g xs >>= fun _ => forG (fun x env => asgT tg x env >>= fun env' => denSs C b env') xs env
  | .whl c b, env => whlG (fun env => denE C c env >>= asD >>= asBool) (fun env => denSs C b env) SL env
  | .brk, env => ret (.bk, env)
  | .cont, env => ret (.ct, env)
  | .pass, env => ret (.nx, env)
  | .never, _ => stuck
  | .rais c es, env => denEs C es env >>= fun xs => need (xs.length = (fsX c).length) >>= fun _ => exc ⟨c, (fsX c).zip xs⟩
  | .tryx b hs, env => tryT (fun e => denH C hs e env) (denS C b env)
def denSs (C : Ctx) : MSs → Ev → T (Fl × Ev)
  | .nil, env => ret (.nx, env)
  | .cons s r, env => denS C s env >>= fun p => match p.1 with
    | .nx => denSs C r p.2
    | f => ret (f, p.2)
/-- the clause that takes e -/
def denH (C : Ctx) : MHs → Ex → Ev → Option (T (Fl × Ev))
  | .nil, _, _ => none
  | .cons c i s r, e, env => if subX e.c c then some (nox (denSs C s (env.set i (.v (.exc e.c e.fs)))) >>= unx i) else denH C r e env
end
/-- a def: how many parameters, how many slots, its body, whether the last parameter takes what is left over -/
structure FD where
  np : Nat
  ns : Nat
  body : MSs
  star : Bool
def asDs : List PV → T (List PyData)
  | [] => ret []
  | x :: xs => asD x >>= fun d => asDs xs >>= fun ds => ret (d :: ds)
/-- what the parameters hold -/
def argsF (fd : FD) (vs : List PV) : T (List PV) := if fd.star then need (fd.np - 1 ≤ vs.length) >>= fun _ => asDs (vs.drop (fd.np - 1)) >>= fun ds => need (ds.length ≤ SL) >>= fun _ => ret (vs.take (fd.np - 1) ++ [.d (.tuple ds)])
  else need (vs.length = fd.np) >>= fun _ => ret vs
def runF (C : Ctx) (fd : FD) (vs : List PV) : T PV := argsF fd vs >>= fun us => denSs C fd.body (us.map Slot.v ++ List.replicate (fd.ns - fd.np) Slot.un) >>= fun p => match p.1 with
  | .rt v => ret v
  | .nx => ret (.d .none)
  | _ => stuck
/-- calls to a depth -/
def callF (tb : Nat → Option FD) (sub : Nat → Nat → Bool) : Nat → Nat → List PV → T PV
  | 0, _, _ => stuck
  | n + 1, f, vs => opt (tb f) >>= fun fd => runF ⟨callF tb sub n, sub⟩ fd vs
end Mp
namespace Mp
open PySem PySem.Spec PyProof.Rows L2
open Mp.T (Wc)

/-- a tuple that stands still whole, without a dict -/
def NoD (K : PySem.W.Frag) (F : Hp) (a : Addr) : Prop := (∃ o u, F a = some (.frz o u) ∧ o.dict = none) ∨ ∃ o, K.lookup a = some o ∧ o.dict = none
def TF (K : PySem.W.Frag) (F : Hp) (a : Addr) (xs : List V) : Prop := SqT K F a xs ∧ NoD K F a
mutual
inductive Dv (K : PySem.W.Frag) (F : Hp) : V → PyData → Prop
  | non : Dv K F .non .none
  | bl (b : Bool) : Dv K F (.bl b) (.bool b)
  | int (i : Int) : Dv K F (.int i) (.int i)
  | str (x : Str) : Dv K F (.str x) (.str x)
  | lst {a : Addr} {xs : List V} {ds : List PyData} : F a = some (.lst xs) → xs.length ≤ sizeLine → DvAll K F xs ds → Dv K F (.ref a) (.list ds)
  | tup {a : Addr} {xs : List V} {ds : List PyData} : TF K F a xs → xs.length ≤ sizeLine → DvAll K F xs ds → Dv K F (.ref a) (.tuple ds)
  | dct {a : Addr} : F a = some (.dK []) → Dv K F (.ref a) (.dict [])
inductive DvAll (K : PySem.W.Frag) (F : Hp) : List V → List PyData → Prop
  | nil : DvAll K F [] []
  | cons {v : V} {vs : List V} {d : PyData} {ds : List PyData} : Dv K F v d → DvAll K F vs ds → DvAll K F (v :: vs) (d :: ds)
end
/-- more is known -/
def HLe (F F' : Hp) : Prop := ∀ a o, F a = some o → F' a = some o
theorem HLe.refl (F : Hp) : HLe F F := fun _ _ h => h
theorem HLe.trans {F F' F'' : Hp} (h : HLe F F') (h' : HLe F' F'') : HLe F F'' := fun a o e => h' a o (h a o e)
theorem HLe.rd {F F' : Hp} (h : HLe F F') {a : Addr} {u : HO} (r : Rd F a u) : Rd F' a u := by
  rcases r with r | ⟨o, r⟩
  · exact .inl (h _ _ r)
  · exact .inr ⟨o, h _ _ r⟩
theorem HLe.sqT {F F' : Hp} (h : HLe F F') {K : PySem.W.Frag} {a : Addr} {xs : List V} (r : SqT K F a xs) : SqT K F' a xs := by
  rcases r with r | r
  · exact .inl (h.rd r)
  · exact .inr r
theorem HLe.sqL {F F' : Hp} (h : HLe F F') {K : PySem.W.Frag} {a : Addr} {xs : List V} (r : SqL K F a xs) : SqL K F' a xs := by
  rcases r with r | r
  · exact .inl (h.rd r)
  · exact .inr r
theorem HLe.tF {F F' : Hp} (h : HLe F F') {K : PySem.W.Frag} {a : Addr} {xs : List V} (r : TF K F a xs) : TF K F' a xs := by
  refine ⟨h.sqT r.1, ?_⟩
  rcases r.2 with ⟨o, u, e, d⟩ | r
  · exact .inl ⟨o, u, h _ _ e, d⟩
  · exact .inr r
theorem HLe.noD {F F' : Hp} (h : HLe F F') {K : PySem.W.Frag} {a : Addr} (r : NoD K F a) : NoD K F' a := by
  rcases r with ⟨o, u, e, d⟩ | r
  · exact .inl ⟨o, u, h _ _ e, d⟩
  · exact .inr r
section
variable {K : PySem.W.Frag} {F F' : Hp}
mutual
theorem Dv.le (h : HLe F F') : ∀ (d : PyData) {v : V}, Dv K F v d → Dv K F' v d
  | .none, _, r => by
    cases r
    exact .non
  | .bool b, _, r => by
    cases r
    exact .bl b
  | .int i, _, r => by
    cases r
    exact .int i
  | .str x, _, r => by
    cases r
    exact .str x
  | .list ds, _, r => by
    cases r with
    | lst e z q => exact .lst (h _ _ e) z (DvAll.le h ds q)
  | .tuple ds, _, r => by
    cases r with
    | tup e z q => exact .tup (h.tF e) z (DvAll.le h ds q)
  | .dict [], _, r => by
    cases r with
    | dct e => exact .dct (h _ _ e)
  | .dict (_ :: _), _, r => nomatch r
theorem DvAll.le (h : HLe F F') : ∀ (ds : List PyData) {vs : List V}, DvAll K F vs ds → DvAll K F' vs ds
  | [], _, r => by
    cases r
    exact .nil
  | d :: ds, _, r => by
    cases r with
    | cons a b => exact .cons (Dv.le h d a) (DvAll.le h ds b)
end
theorem DvAll.length : ∀ {vs : List V} {ds : List PyData}, DvAll K F vs ds → vs.length = ds.length
  | _, [], h => by
    cases h
    rfl
  | _, d :: ds, h => by
    cases h with
    | cons a b => rw [List.length_cons, List.length_cons, DvAll.length b]
theorem DvAll.get : ∀ {vs : List V} {ds : List PyData} {i : Nat} {d : PyData}, DvAll K F vs ds → ds[i]? = some d → ∃ v, vs[i]? = some v ∧ Dv K F v d
  | _, [], i, d, _, e => by simp at e
  | _, d0 :: ds, 0, d, h, e => by
    cases h with
    | cons a b =>
      simp at e
      subst e
      exact ⟨_, rfl, a⟩
  | _, d0 :: ds, i + 1, d, h, e => by
    cases h with
    | cons a b =>
      obtain ⟨v, e', r⟩ := DvAll.get (i := i) b (by simpa using e)
      exact ⟨v, by simpa using e', r⟩
theorem DvAll.get' {vs : List V} {ds : List PyData} {i : Nat} {v : V} (h : DvAll K F vs ds) (e : vs[i]? = some v) : ∃ d, ds[i]? = some d ∧ Dv K F v d := by
  have hl : i < ds.length := by
    have := h.length
    have := (List.getElem?_eq_some_iff.mp e).1
    omega
  obtain ⟨v', e', r⟩ := h.get (List.getElem?_eq_getElem hl)
  rw [e] at e'
  cases e'
  exact ⟨_, List.getElem?_eq_getElem hl, r⟩
theorem DvAll.append : ∀ {vs us : List V} {ds es : List PyData}, DvAll K F vs ds → DvAll K F us es → DvAll K F (vs ++ us) (ds ++ es)
  | _, _, [], _, h, h' => by
    cases h
    exact h'
  | _, _, d :: ds, _, h, h' => by
    cases h with
    | cons a b => exact .cons a (DvAll.append b h')
theorem DvAll.of_get : ∀ {vs : List V} {ds : List PyData}, vs.length = ds.length → (∀ (i : Nat) v d, vs[i]? = some v → ds[i]? = some d → Dv K F v d) → DvAll K F vs ds
  | [], [], _, _ => .nil
  | v :: vs, d :: ds, hl, h => .cons (h 0 v d rfl rfl) (DvAll.of_get (by simpa using hl) fun i v' d' e e' => h (i + 1) v' d' (by simpa using e) (by simpa using e'))
  | [], d :: ds, hl, _ => by simp at hl
  | v :: vs, [], hl, _ => by simp at hl
theorem DvAll.take {vs : List V} {ds : List PyData} (n : Nat) (h : DvAll K F vs ds) : DvAll K F (vs.take n) (ds.take n) := by
  refine .of_get (by simp [h.length]) fun i v d e e' => ?_
  rw [List.getElem?_take] at e e'
  split at e
  · rename_i hi
    rw [if_pos hi] at e'
    obtain ⟨d', e2, r⟩ := h.get' e
    rw [e'] at e2
    cases e2
    exact r
  · cases e
theorem DvAll.drop {vs : List V} {ds : List PyData} (n : Nat) (h : DvAll K F vs ds) : DvAll K F (vs.drop n) (ds.drop n) := by
  refine .of_get (by simp [h.length]) fun i v d e e' => ?_
  rw [List.getElem?_drop] at e e'
  obtain ⟨d', e2, r⟩ := h.get' e
  rw [e'] at e2
  cases e2
  exact r
theorem DvAll.set {vs : List V} {ds : List PyData} {v : V} {d : PyData} (i : Nat) (h : DvAll K F vs ds) (r : Dv K F v d) : DvAll K F (vs.set i v) (ds.set i d) := by
  refine .of_get (by simp [h.length]) fun j v' d' e e' => ?_
  by_cases hj : i = j
  · subst hj
    have h1 : i < vs.length := by
      have := (List.getElem?_eq_some_iff.mp e).1
      simpa using this
    have h2 : i < ds.length := by rw [← h.length]; exact h1
    rw [List.getElem?_set_self h1] at e
    rw [List.getElem?_set_self h2] at e'
    cases e
    cases e'
    exact r
  · rw [List.getElem?_set_ne hj] at e e'
    obtain ⟨d'', e2, r'⟩ := h.get' e
    rw [e'] at e2
    cases e2
    exact r'
theorem DvAll.eraseIdx {vs : List V} {ds : List PyData} (n : Nat) (h : DvAll K F vs ds) : DvAll K F (vs.eraseIdx n) (ds.eraseIdx n) := by
  refine .of_get (by simp [List.length_eraseIdx, h.length]) fun i v d e e' => ?_
  rw [List.getElem?_eraseIdx] at e e'
  split at e
  · rename_i hi
    rw [if_pos hi] at e'
    obtain ⟨d', e2, r⟩ := h.get' e
    rw [e'] at e2
    cases e2
    exact r
  · rename_i hi
    rw [if_neg hi] at e'
    obtain ⟨d', e2, r⟩ := h.get' e
    rw [e'] at e2
    cases e2
    exact r
theorem DvAll.dropLast {vs : List V} {ds : List PyData} (h : DvAll K F vs ds) : DvAll K F vs.dropLast ds.dropLast := by
  rw [List.dropLast_eq_take, List.dropLast_eq_take, h.length]
  exact h.take _
theorem DvAll.reverse : ∀ {vs : List V} {ds : List PyData}, DvAll K F vs ds → DvAll K F vs.reverse ds.reverse
  | _, [], h => by
    cases h
    exact .nil
  | _, d :: ds, h => by
    cases h with
    | cons a b =>
      rw [List.reverse_cons, List.reverse_cons]
      exact b.reverse.append (.cons a .nil)
theorem DvAll.ints : ∀ {vs : List V} {ns : List Int}, DvAll K F vs (ns.map PyData.int) → vs = ns.map V.int
  | _, [], h => by
    cases h
    rfl
  | _, n :: ns, h => by
    cases h with
    | cons a b =>
      cases a
      rw [DvAll.ints b]
      rfl
theorem DvAll.of_ints : ∀ (ns : List Int), DvAll K F (ns.map V.int) (ns.map PyData.int)
  | [] => .nil
  | n :: ns => .cons (.int n) (DvAll.of_ints ns)
theorem DvAll.bools : ∀ {vs : List V} {ns : List Bool}, DvAll K F vs (ns.map PyData.bool) → vs = ns.map V.bl
  | _, [], h => by
    cases h
    rfl
  | _, n :: ns, h => by
    cases h with
    | cons a b =>
      cases a
      rw [DvAll.bools b]
      rfl
mutual
/-- as HandS's Dp -/
theorem Dv.dp : ∀ (d : PyData) {v : V}, d.canLay0 = true → Dv K F v d → Dp K F v d
  | .none, _, _, r => by
    cases r
    exact .non
  | .bool b, _, _, r => by
    cases r
    exact .bl b
  | .int i, _, _, r => by
    cases r
    exact .int i
  | .str x, _, _, r => by
    cases r
    exact .str x
  | .list ds, _, c, r => by
    cases r with
    | lst e z q => exact .lst (SqL.of e) (DvAll.dp ds (by simpa only [PyData.canLay0] using c) q)
  | .tuple ds, _, c, r => by
    cases r with
    | tup e z q => exact .tup e.1 (DvAll.dp ds (by simpa only [PyData.canLay0] using c) q)
  | .dict kvs, _, c, r => by simp [PyData.canLay0] at c
theorem DvAll.dp : ∀ (ds : List PyData) {vs : List V}, PyData.canLayAll0 ds = true → DvAll K F vs ds → DpAll K F vs ds
  | [], _, _, r => by
    cases r
    exact .nil
  | d :: ds, _, c, r => by
    cases r with
    | cons a b =>
      simp only [PyData.canLayAll0, Bool.and_eq_true] at c
      exact .cons (Dv.dp d c.1 a) (DvAll.dp ds c.2 b)
end
end

/-- where the draws' object lies: itself, its cells, its rests -/
structure Rg where
  d : Addr
  c : Addr
  r : Addr
  cells : List Int
def BIG : Nat := 2 ^ 20000
def RgOk (K : PySem.W.Frag) (g : Rg) (b : Nat) (H : Hp) : Prop :=
  g.d ≠ g.r ∧ 0 < g.cells.length ∧ g.cells.length ≤ 63 ∧ SqL K H g.c (g.cells.map V.int) ∧ g.c ≠ g.d ∧ g.c ≠ g.r ∧
    ∃ (t : Nat) (rests : List Int), H g.d = some (.lst [.ref g.c, .int t, .ref g.r]) ∧ t + b ≤ BIG ∧ H g.r = some (.lst (rests.map V.int)) ∧ rests.length = g.cells.length ∧ ∀ x ∈ rests, 0 ≤ x ∧ x.natAbs < 2 ^ 1100000

/-- what is known: what stands still, and the draws' object -/
structure Wd where
  F : Hp
  g : Option Rg
  /-- the exception in hand: where it lies, its dict, its class -/
  x : Option (Addr × Option Addr × Nat) := none
def Wd.isG (W : Wd) (a : Addr) : Prop := ∃ r, W.g = some r ∧ (a = r.d ∨ a = r.r)
structure Wd.Le (W W' : Wd) : Prop where
  f : HLe W.F W'.F
  g : ∀ r, W.g = some r → W'.g = some r
  x : W'.x = W.x
/-- the fields of an exception whose dict is d -/
def XFs (K : PySem.W.Frag) (F : Hp) (d : Option Addr) (c : Nat) (fs : List (Str × PyData)) : Prop := (d = none ∨ ∃ dd fv, d = some dd ∧ F dd = some (.xd fv)) ∧ ∀ f x, fs.lookup f = some x → f ∈ fsX c ∧ ∃ dd fv v, d = some dd ∧ F dd = some (.xd fv) ∧ fv.lookup f = some v ∧ Dv K F v x
theorem XFs.le {K : PySem.W.Frag} {F F' : Hp} {d : Option Addr} {c : Nat} {fs : List (Str × PyData)} (h : HLe F F') (r : XFs K F d c fs) : XFs K F' d c fs := by
  refine ⟨?_, fun f x e => ?_⟩
  · rcases r.1 with r | ⟨dd, fv, h1, h2⟩
    · exact .inl r
    · exact .inr ⟨dd, fv, h1, h _ _ h2⟩
  · obtain ⟨h0, dd, fv, v, h1, h2, h3, h4⟩ := r.2 f x e
    exact ⟨h0, dd, fv, v, h1, h _ _ h2, h3, h4.le h⟩
inductive RV (K : PySem.W.Frag) (W : Wd) : PV → V → Prop
  | d {x : PyData} {v : V} : Dv K W.F v x → RV K W (.d x) v
  | rng {r : Rg} : W.g = some r → RV K W .rng (.ref r.d)
  | scr {a : Addr} {ns : List Int} : SqL K W.F a (ns.map V.int) → ns.length ≤ 63 → RV K W .scr (.ref a)
  | exc {a : Addr} {d : Option Addr} {c : Nat} {fs : List (Str × PyData)} : W.x = some (a, d, c) → XFs K W.F d c fs → RV K W (.exc c fs) (.ref a)
/-- the heap holds what is known -/
structure SR (K : PySem.W.Frag) (W : Wd) (b : Nat) (H : Hp) : Prop where
  f : HLe W.F H
  g : ∀ r, W.g = some r → RgOk K r b H ∧ W.F r.d = none ∧ W.F r.r = none ∧ SqL K W.F r.c (r.cells.map V.int)
/-- from one state to a later one -/
structure Ext (W : Wd) (H : Hp) (W' : Wd) (H' : Hp) : Prop where
  le : W.Le W'
  same : ∀ a o, H a = some o → ¬ W'.isG a → H' a = some o
  new : ∀ a, W'.F a ≠ none → W.F a = none → H a = none
  newg : ∀ r, W'.g = some r → W.g = none → H r.d = none ∧ H r.r = none
section
variable {K : PySem.W.Frag} {W W1 W2 : Wd} {H H1 H2 : Hp} {b b1 b2 : Nat} {a : Addr} {o : HO}
theorem Wd.Le.refl (W : Wd) : W.Le W := ⟨HLe.refl _, fun _ h => h, rfl⟩
theorem Wd.Le.trans (h : W.Le W1) (h' : W1.Le W2) : W.Le W2 := ⟨h.f.trans h'.f, fun r e => h'.g r (h.g r e), h'.x.trans h.x⟩
theorem Wd.Le.isG (h : W.Le W1) (q : W.isG a) : W1.isG a := by
  obtain ⟨r, e, q⟩ := q
  exact ⟨r, h.g r e, q⟩
theorem RV.le {x : PV} {v : V} (h : W.Le W1) (r : RV K W x v) : RV K W1 x v := by
  cases r with
  | d q => exact .d (q.le h.f)
  | rng e => exact .rng (h.g _ e)
  | scr e z => exact .scr (h.f.sqL e) z
  | exc e q => exact .exc (h.x.trans e) (q.le h.f)
theorem SR.isG (S : SR K W b H) (q : W.isG a) : W.F a = none ∧ ∃ o, H a = some o := by
  obtain ⟨r, e, q⟩ := q
  obtain ⟨⟨_, _, _, _, _, _, t, rests, e1, _, e2, _⟩, h2, h3, _⟩ := S.g r e
  rcases q with rfl | rfl
  · exact ⟨h2, _, e1⟩
  · exact ⟨h3, _, e2⟩
theorem Ext.refl (W : Wd) (H : Hp) : Ext W H W H := ⟨Wd.Le.refl W, fun _ _ h _ => h, fun a h h' => absurd h' h, fun r e e' => by rw [e'] at e; cases e⟩
theorem Ext.trans (h : Ext W H W1 H1) (h' : Ext W1 H1 W2 H2) (S : SR K W2 b H2) : Ext W H W2 H2 := by
  refine ⟨h.le.trans h'.le, fun a o e n => h'.same a o (h.same a o e fun q => n (h'.le.isG q)) n, fun a q q' => ?_, fun r e e' => ?_⟩
  · cases e1 : W1.F a with
    | some u => exact h.new a (by rw [e1]; simp) q'
    | none =>
      have z := h'.new a q e1
      cases e2 : H a with
      | none => rfl
      | some u =>
        refine absurd (h.same a u e2 fun w => ?_) (by rw [z]; simp)
        exact q (S.isG (h'.le.isG w)).1
  · cases e1 : W1.g with
    | some r' =>
      have := h'.le.g r' e1
      rw [e] at this
      cases this
      exact h.newg r e1 e'
    | none =>
      obtain ⟨z1, z2⟩ := h'.newg r e e1
      have no : ∀ a, ¬ W1.isG a := fun a ⟨r', q, _⟩ => by
        rw [e1] at q
        cases q
      constructor
      · cases e2 : H r.d with
        | none => rfl
        | some u => exact absurd (h.same _ u e2 (no _)) (by rw [z1]; simp)
      · cases e2 : H r.r with
        | none => rfl
        | some u => exact absurd (h.same _ u e2 (no _)) (by rw [z2]; simp)
/-- something that stands stays, and is no draw's object -/
theorem Ext.keep (h : Ext W H W1 H1) (e : H a = some o) (n : ¬ W.isG a) : H1 a = some o ∧ ¬ W1.isG a := by
  have nn : ¬ W1.isG a := fun ⟨r, e1, q⟩ => by
    cases e2 : W.g with
    | some r' =>
      have := h.le.g r' e2
      rw [e1] at this
      cases this
      exact n ⟨r, e2, q⟩
    | none =>
      obtain ⟨z1, z2⟩ := h.newg r e1 e2
      rcases q with rfl | rfl
      · rw [z1] at e
        cases e
      · rw [z2] at e
        cases e
  exact ⟨h.same a o e nn, nn⟩
theorem Ext.unf (h : Ext W H W1 H1) (e : H a = some o) (n : W.F a = none) : W1.F a = none := by
  cases q : W1.F a with
  | none => rfl
  | some u =>
    have := h.new a (by rw [q]; simp) n
    rw [this] at e
    cases e
/-- a new object, not known to stand still -/
theorem Ext.laid (n : H a = none) : Ext W H W (upd H a o) := by
  refine ⟨Wd.Le.refl W, fun c u e _ => ?_, fun c h h' => absurd h' h, fun r e e' => by rw [e'] at e; cases e⟩
  rw [upd_ne (ne_of_none e n)]
  exact e
theorem SR.laid (S : SR K W b H) (n : H a = none) : SR K W b (upd H a o) := by
  have hl : HLe H (upd H a o) := fun c u e => by
    rw [upd_ne (ne_of_none e n)]
    exact e
  refine ⟨S.f.trans hl, fun r e => ?_⟩
  obtain ⟨⟨h0, h1, h2, h3, h4, h5, t, rests, e1, h6, e2, h7⟩, h8, h9⟩ := S.g r e
  exact ⟨⟨h0, h1, h2, hl.sqL h3, h4, h5, t, rests, hl _ _ e1, h6, hl _ _ e2, h7⟩, h8, h9⟩
/-- a list not known to stand still is written -/
theorem SR.write (S : SR K W b H) (n : W.F a = none) (ng : ¬ W.isG a) : SR K W b (upd H a o) := by
  have hl : HLe W.F (upd H a o) := fun c u e => by
    rw [upd_ne (ne_of_none e n)]
    exact S.f c u e
  refine ⟨hl, fun r e => ?_⟩
  obtain ⟨⟨h0, h1, h2, h3, h4, h5, t, rests, e1, h6, e2, h7⟩, h8, h9, h10⟩ := S.g r e
  refine ⟨⟨h0, h1, h2, hl.sqL h10, h4, h5, t, rests, ?_, h6, ?_, h7⟩, h8, h9, h10⟩
  · rw [upd_ne fun z => ng ⟨r, e, .inl z.symm⟩]
    exact e1
  · rw [upd_ne fun z => ng ⟨r, e, .inr z.symm⟩]
    exact e2
theorem Ext.write {W0 : Wd} {H0 : Hp} (h : Ext W0 H0 W H) (n : H0 a = none) : Ext W0 H0 W (upd H a o) :=
  ⟨h.le, fun c u e q => by
    rw [upd_ne (ne_of_none e n)]
    exact h.same c u e q, h.new, h.newg⟩
theorem SR.notG (S : SR K W b H) (n : H a = none) : ¬ W.isG a := fun q => by
  obtain ⟨_, o, e⟩ := S.isG q
  rw [n] at e
  cases e
theorem SR.noF (S : SR K W b H) (n : H a = none) : W.F a = none := by
  cases q : W.F a with
  | none => rfl
  | some u =>
    have := S.f a u q
    rw [n] at this
    cases this
theorem SR.less (S : SR K W b H) (h : b1 ≤ b) : SR K W b1 H := by
  refine ⟨S.f, fun r e => ?_⟩
  obtain ⟨⟨h0, h1, h2, h3, h4, h5, t, rests, e1, h6, h7⟩, h8⟩ := S.g r e
  exact ⟨⟨h0, h1, h2, h3, h4, h5, t, rests, e1, by omega, h7⟩, h8⟩
/-- what stands is known to stand still from now on -/
def Wd.frz (W : Wd) (a : Addr) (o : HO) : Wd := { W with F := upd W.F a o }
theorem Wd.frz_le (n : W.F a = none) : W.Le (W.frz a o) := ⟨fun c u e => by
    show upd W.F a o c = some u
    rw [upd_ne (ne_of_none e n)]
    exact e, fun _ h => h, rfl⟩
theorem SR.frz (S : SR K W b H) (e : H a = some o) (nf : W.F a = none) (n : ¬ W.isG a) : SR K (W.frz a o) b H := by
  refine ⟨fun c u q => ?_, fun r q => ?_⟩
  · by_cases hc : c = a
    · subst hc
      have q' : upd W.F c o c = some u := q
      rw [upd_same] at q'
      cases q'
      exact e
    · have q' : upd W.F a o c = some u := q
      rw [upd_ne hc] at q'
      exact S.f c u q'
  · obtain ⟨h1, h2, h3, h4⟩ := S.g r q
    refine ⟨h1, ?_, ?_, (Wd.frz_le nf).f.sqL h4⟩
    · show upd W.F a o r.d = none
      rw [upd_ne fun z => n ⟨r, q, .inl z.symm⟩]
      exact h2
    · show upd W.F a o r.r = none
      rw [upd_ne fun z => n ⟨r, q, .inr z.symm⟩]
      exact h3
/-- behind a step from W0 H0 a thing that was not there at W0 H0 is frozen -/
theorem Ext.frz {W0 : Wd} {H0 : Hp} (h : Ext W0 H0 W H) (n0 : H0 a = none) (n : W.F a = none) : Ext W0 H0 (W.frz a o) H := by
  refine ⟨h.le.trans (Wd.frz_le n), fun c u e q => h.same c u e q, fun c q q' => ?_, h.newg⟩
  by_cases hc : c = a
  · rw [hc]
    exact n0
  · refine h.new c ?_ q'
    have q2 : upd W.F a o c ≠ none := q
    rw [upd_ne hc] at q2
    exact q2
end

/-- a list of the frame's own may be read, too -/
inductive RR (K : PySem.W.Frag) (W : Wd) (H : Hp) : PV → V → Prop
  | v {x : PV} {v : V} : RV K W x v → RR K W H x v
  | own {a : Addr} {vs : List V} {xs : List PyData} : H a = some (.lst vs) → ¬ W.isG a → vs.length ≤ sizeLine → DvAll K W.F vs xs → RR K W H (.d (.list xs)) (.ref a)
/-- a list that was just made, and nothing else knows -/
def New (K : PySem.W.Frag) (H : Hp) (W' : Wd) (H' : Hp) (x : PV) (v : V) : Prop :=
  ∃ a vs xs, x = .d (.list xs) ∧ v = .ref a ∧ H a = none ∧ H' a = some (.lst vs) ∧ W'.F a = none ∧ ¬ W'.isG a ∧ vs.length ≤ sizeLine ∧ DvAll K W'.F vs xs
section
variable {K : PySem.W.Frag} {W W1 W2 : Wd} {H H1 H2 : Hp} {b b1 b2 : Nat} {x : PV} {v : V}
theorem RR.ext (h : Ext W H W1 H1) (r : RR K W H x v) : RR K W1 H1 x v := by
  cases r with
  | v q => exact .v (q.le h.le)
  | own e n z q =>
    obtain ⟨e', n'⟩ := h.keep e n
    exact .own e' n' z (q.le h.le.f)
/-- it is known to stand still from now on -/
theorem New.rv (h : Ext W H W1 H1) (S : SR K W1 b H1) (r : New K H W1 H1 x v) : ∃ W2, Ext W H W2 H1 ∧ SR K W2 b H1 ∧ RV K W2 x v := by
  obtain ⟨a, vs, xs, rfl, rfl, n0, e, nf, ng, z, q⟩ := r
  exact ⟨W1.frz a (.lst vs), h.frz n0 nf, S.frz e nf ng, .d (.lst (show upd W1.F a _ a = _ from upd_same) z (q.le (Wd.frz_le nf).f))⟩
theorem New.rr (r : New K H W1 H1 x v) : RR K W1 H1 x v := by
  obtain ⟨a, vs, xs, rfl, rfl, n0, e, nf, ng, z, q⟩ := r
  exact .own e ng z q
/-- a readable list -/
theorem RR.list {xs : List PyData} (S : SR K W b H) (r : RR K W H (.d (.list xs)) v) : ∃ a vs, v = .ref a ∧ H a = some (.lst vs) ∧ vs.length ≤ sizeLine ∧ DvAll K W.F vs xs := by
  cases r with
  | v q =>
    cases q with
    | d q =>
      cases q with
      | lst e z q => exact ⟨_, _, rfl, S.f _ _ e, z, q⟩
  | own e n z q => exact ⟨_, _, rfl, e, z, q⟩
theorem RR.tup {xs : List PyData} (S : SR K W b H) (r : RR K W H (.d (.tuple xs)) v) : ∃ a vs, v = .ref a ∧ SqT K H a vs ∧ TF K W.F a vs ∧ vs.length ≤ sizeLine ∧ DvAll K W.F vs xs := by
  cases r with
  | v q =>
    cases q with
    | d q =>
      cases q with
      | tup e z q => exact ⟨_, _, rfl, S.f.sqT e.1, e, z, q⟩
theorem RR.int {i : Int} (r : RR K W H (.d (.int i)) v) : v = .int i := by
  cases r with
  | v q =>
    cases q with
    | d q =>
      cases q
      rfl
theorem RR.bl {i : Bool} (r : RR K W H (.d (.bool i)) v) : v = .bl i := by
  cases r with
  | v q =>
    cases q with
    | d q =>
      cases q
      rfl
theorem RR.str {i : Str} (r : RR K W H (.d (.str i)) v) : v = .str i := by
  cases r with
  | v q =>
    cases q with
    | d q =>
      cases q
      rfl
theorem RR.non (r : RR K W H (.d .none) v) : v = .non := by
  cases r with
  | v q =>
    cases q with
    | d q =>
      cases q
      rfl
/-- as data of the heap (for ==, in, repr) -/
theorem RR.dp {x : PyData} (S : SR K W b H) (c : x.canLay0 = true) (r : RR K W H (.d x) v) : Dp K H v x := by
  cases r with
  | v q =>
    cases q with
    | d q => exact Dv.dp x c (q.le S.f)
  | own e n z q => exact .lst (SqL.of e) (DvAll.dp _ (by simpa only [PyData.canLay0] using c) (q.le S.f))
end
end Mp
namespace Mp
open PySem PySem.Spec PyProof.Rows L2
open Mp.T (Wc)

theorem need_ret {α : Type} {p : Prop} [Decidable p] {f : Unit → T α} {r : α} (h : (need p >>= f) = T.ret r) : p ∧ f () = T.ret r := by
  by_cases hp : p
  · rw [need_pos hp] at h
    exact ⟨hp, h⟩
  · have e : need p = T.stuck := if_neg hp
    rw [e] at h
    cases h
theorem bind_ret_inv {α β : Type} {x : T α} {f : α → T β} {r : β} (h : (x >>= f) = T.ret r) : ∃ a, x = T.ret a ∧ f a = T.ret r := by
  cases x with
  | ret a => exact ⟨a, rfl, h⟩
  | exc e => cases h
  | stuck => cases h
  | draw m k => cases h
theorem opt_ret {α β : Type} {x : Option α} {f : α → T β} {r : β} (h : (opt x >>= f) = T.ret r) : ∃ a, x = some a ∧ f a = T.ret r := by
  cases x with
  | some a => exact ⟨a, rfl, h⟩
  | none => cases h
theorem ret_inj {α : Type} {a b : α} (h : (T.ret a : T α) = T.ret b) : a = b := by cases h; rfl

/-- what an operator hands back: known to stand still -/
def outV (K : PySem.W.Frag) (H : Hp) (W' : Wd) (H' : Hp) (r : PyData) (v : V) : Prop := RV K W' (.d r) v
/-- .. a list is new -/
def outN (K : PySem.W.Frag) (H : Hp) (W' : Wd) (H' : Hp) (r : PyData) (v : V) : Prop := match r with
  | .list _ => New K H W' H' (.d r) v
  | _ => RV K W' (.d r) v
abbrev Out := Hp → Wd → Hp → PyData → V → Prop
/-- an operator's reading, one value -/
def rU1 (K : PySem.W.Frag) (out : Out) (f : PyData → T PyData) : V → Hp → VK → Prop := fun x H Q => ∃ W b p r, SR K W b H ∧ RR K W H (.d p) x ∧ f p = T.ret r ∧
  ∀ W' H' v, Ext W H W' H' → SR K W' b H' → out H W' H' r v → Q v H'
/-- two values -/
def rO2 (K : PySem.W.Frag) (out : Out) (f : PyData → PyData → T PyData) : R2 := fun x y H Q => ∃ W b p q r, SR K W b H ∧ RR K W H (.d p) x ∧ RR K W H (.d q) y ∧ f p q = T.ret r ∧
  ∀ W' H' v, Ext W H W' H' → SR K W' b H' → out H W' H' r v → Q v H'
theorem SL_le {n : Nat} (h : n ≤ SL) : n ≤ sizeLine := by rw [← SL_eq]; exact h

section
variable {K : PySem.W.Frag} {W : Wd} {H : Hp} {b : Nat} {p : Addr}
theorem new_list {vs : List V} {xs : List PyData} (S : SR K W b H) (n : H p = none) (z : vs.length ≤ sizeLine) (q : DvAll K W.F vs xs) :
    Ext W H W (upd H p (.lst vs)) ∧ SR K W b (upd H p (.lst vs)) ∧ New K H W (upd H p (.lst vs)) (.d (.list xs)) (.ref p) :=
  ⟨Ext.laid n, S.laid n, p, vs, xs, rfl, rfl, n, upd_same, S.noF n, S.notG n, z, q⟩
theorem new_tup {vs : List V} {xs : List PyData} {o : Obj} (ho : o.dict = none) (S : SR K W b H) (n : H p = none) (z : vs.length ≤ sizeLine) (q : DvAll K W.F vs xs) :
    ∃ W', Ext W H W' (upd H p (.frz o (.tup vs))) ∧ SR K W' b (upd H p (.frz o (.tup vs))) ∧ RV K W' (.d (.tuple xs)) (.ref p) := by
  have nF := S.noF n
  have e : (W.frz p (.frz o (.tup vs))).F p = some (.frz o (.tup vs)) := upd_same
  exact ⟨W.frz p (.frz o (.tup vs)), (Ext.laid n).frz n nF, (S.laid n).frz upd_same nF (S.notG n), .d (.tup ⟨.inl (.inr ⟨o, e⟩), .inl ⟨o, _, e, ho⟩⟩ z (q.le (Wd.frz_le nF).f))⟩
end


theorem ints_len {xs : List PyData} {ns : List Int} (h : intsOf xs = some ns) : ns.length = xs.length := by
  rw [ints_of h, List.length_map]
theorem lexLt_eq : ∀ a b : List Int, HT.lexLt a b = lexLt a b
  | [], [] => rfl
  | [], _ :: _ => rfl
  | _ :: _, [] => rfl
  | x :: xs, y :: ys => by
    rw [HT.lexLt_cons, lexLt_eq xs ys]
    rfl
theorem maxI_mem : ∀ {ns : List Int}, 0 < ns.length → maxI ns ∈ ns ∧ ∀ y ∈ ns, y ≤ maxI ns
  | [], h => by simp at h
  | [a], _ => by simp [maxI]
  | a :: b :: r, _ => by
    obtain ⟨h1, h2⟩ := maxI_mem (ns := b :: r) (by simp)
    have e : maxI (a :: b :: r) = max a (maxI (b :: r)) := rfl
    rw [e]
    constructor
    · by_cases h : a ≤ maxI (b :: r)
      · rw [Int.max_eq_right h]
        exact List.mem_cons_of_mem _ h1
      · rw [Int.max_eq_left (by omega)]
        exact List.mem_cons_self
    · intro y hy
      rcases List.mem_cons.mp hy with rfl | hy
      · omega
      · have := h2 y hy
        omega
theorem minI_mem : ∀ {ns : List Int}, 0 < ns.length → minI ns ∈ ns ∧ ∀ y ∈ ns, minI ns ≤ y
  | [], h => by simp at h
  | [a], _ => by simp [minI]
  | a :: b :: r, _ => by
    obtain ⟨h1, h2⟩ := minI_mem (ns := b :: r) (by simp)
    have e : minI (a :: b :: r) = min a (minI (b :: r)) := rfl
    rw [e]
    constructor
    · by_cases h : a ≤ minI (b :: r)
      · rw [Int.min_eq_left h]
        exact List.mem_cons_self
      · rw [Int.min_eq_right (by omega)]
        exact List.mem_cons_of_mem _ h1
    · intro y hy
      rcases List.mem_cons.mp hy with rfl | hy
      · omega
      · have := h2 y hy
        omega
theorem insI_perm (a : Int) : ∀ l, (insI a l).Perm (a :: l)
  | [] => .refl _
  | b :: r => by
    unfold insI
    split
    · exact .refl _
    · exact ((insI_perm a r).cons b).trans (.swap a b r)
theorem sortI_perm : ∀ l, (sortI l).Perm l
  | [] => .refl _
  | a :: r => (insI_perm a (sortI r)).trans ((sortI_perm r).cons a)
theorem insI_sorted (a : Int) : ∀ l, l.Pairwise (· ≤ ·) → (insI a l).Pairwise (· ≤ ·)
  | [], _ => by simp [insI]
  | b :: r, h => by
    unfold insI
    rw [List.pairwise_cons] at h
    split
    · rename_i hab
      refine List.pairwise_cons.mpr ⟨fun c hc => ?_, List.pairwise_cons.mpr h⟩
      rcases List.mem_cons.mp hc with rfl | hc
      · exact hab
      · have := h.1 c hc
        omega
    · rename_i hab
      refine List.pairwise_cons.mpr ⟨fun c hc => ?_, insI_sorted a r h.2⟩
      rcases List.mem_cons.mp ((insI_perm a r).mem_iff.mp hc) with rfl | hc
      · omega
      · exact h.1 c hc
theorem sortI_sorted : ∀ l, (sortI l).Pairwise (· ≤ ·)
  | [] => .nil
  | a :: r => insI_sorted a _ (sortI_sorted r)
theorem sorted_uniq : ∀ {l m : List Int}, l.Perm m → l.Pairwise (· ≤ ·) → m.Pairwise (· ≤ ·) → l = m
  | [], m, p, _, _ => by
    have := p.length_eq
    cases m with
    | nil => rfl
    | cons _ _ => simp at this
  | a :: r, [], p, _, _ => by
    have := p.length_eq
    simp at this
  | a :: r, b :: q, p, h1, h2 => by
    rw [List.pairwise_cons] at h1 h2
    have e : a = b := by
      have hb : b ∈ a :: r := p.mem_iff.mpr List.mem_cons_self
      have ha : a ∈ b :: q := p.mem_iff.mp List.mem_cons_self
      rcases List.mem_cons.mp hb with z | hb
      · exact z.symm
      · rcases List.mem_cons.mp ha with z | ha
        · exact z
        · have x1 := h1.1 b hb
          have x2 := h2.1 a ha
          omega
    subst e
    rw [sorted_uniq (List.Perm.cons_inv p) h1.2 h2.2]

section
variable {X : Cx}
/-- a + b -/
theorem opS_add : OpR X (binaryOp .Add) (rO2 X.K (outN X.K) (o2 .add)) := by
  intro pins s σ H x y v u Q I rx ry ⟨W, b, p, q, r, S, rp, rq, e, h⟩
  cases p with
  | int i =>
    cases q with
    | int j =>
      cases ret_inj e
      obtain rfl := rp.int
      obtain rfl := rq.int
      exact op_add pins s σ H _ _ v u Q I rx ry ⟨i, j, rfl, rfl, h W H _ (Ext.refl _ _) S (.d (.int _))⟩
    | _ => cases e
  | list xs =>
    cases q with
    | list ys =>
      obtain ⟨hz, e⟩ := need_ret e
      cases ret_inj e
      obtain ⟨a, vs, rfl, ea, za, qa⟩ := rp.list S
      obtain ⟨c, us, rfl, ec, zc, qc⟩ := rq.list S
      have hl : vs.length + us.length ≤ sizeLine := by rw [qa.length, qc.length]; exact SL_le hz
      refine op_cat pins s σ H _ _ v u Q I rx ry ⟨a, c, vs, us, rfl, rfl, ea, ec, hl, fun p n => ?_⟩
      obtain ⟨h1, h2, h3⟩ := new_list (W := W) S n (by rw [List.length_append]; exact hl) (qa.append qc)
      exact h W _ _ h1 h2 h3
    | _ => cases e
  | tuple xs =>
    cases q with
    | tuple ys =>
      obtain ⟨hz, e⟩ := need_ret e
      cases ret_inj e
      obtain ⟨a, vs, rfl, ea, fa, za, qa⟩ := rp.tup S
      obtain ⟨c, us, rfl, ec, fc, zc, qc⟩ := rq.tup S
      have hl : vs.length + us.length ≤ sizeLine := by rw [qa.length, qc.length]; exact SL_le hz
      refine EnT.op_catF pins s σ H _ _ v u Q I rx ry ⟨a, c, vs, us, rfl, rfl, ea, ec, hl, fun e1 => ?_, fun e1 e2 => ?_, fun e1 e2 p o n ho => ?_⟩
      · subst e1
        cases qa
        exact h W H _ (Ext.refl _ _) S (.d (.tup fc zc qc))
      · subst e2
        cases qc
        rw [List.append_nil] at h
        exact h W H _ (Ext.refl _ _) S (.d (.tup fa za qa))
      · obtain ⟨W', h1, h2, h3⟩ := new_tup (W := W) ho S n (by rw [List.length_append]; exact hl) (qa.append qc)
        exact h W' _ _ h1 h2 h3
    | _ => cases e
  | _ => cases e
theorem opS_sub : OpR X (binaryOp .Sub) (rO2 X.K (outN X.K) (o2 .sub)) := by
  intro pins s σ H x y v u Q I rx ry ⟨W, b, p, q, r, S, rp, rq, e, h⟩
  cases p with
  | int i =>
    cases q with
    | int j =>
      cases ret_inj e
      obtain rfl := rp.int
      obtain rfl := rq.int
      exact op_sub pins s σ H _ _ v u Q I rx ry ⟨i, j, rfl, rfl, h W H _ (Ext.refl _ _) S (.d (.int _))⟩
    | _ => cases e
  | _ => cases e
theorem opS_mul : OpR X (binaryOp .Mult) (rO2 X.K (outN X.K) (o2 .mul)) := by
  intro pins s σ H x y v u Q I rx ry ⟨W, b, p, q, r, S, rp, rq, e, h⟩
  cases p with
  | int i =>
    cases q with
    | int j =>
      obtain ⟨hz, e⟩ := need_ret e
      cases ret_inj e
      obtain rfl := rp.int
      obtain rfl := rq.int
      exact op_mul pins s σ H _ _ v u Q I rx ry ⟨i, j, rfl, rfl, hz, h W H _ (Ext.refl _ _) S (.d (.int _))⟩
    | _ => cases e
  | list xs =>
    cases q with
    | int j =>
      obtain ⟨⟨h1, h2, h3⟩, e⟩ := need_ret e
      cases ret_inj e
      obtain ⟨a, vs, rfl, ea, za, qa⟩ := rp.list S
      obtain rfl := rq.int
      have hl : vs.length * j.toNat ≤ sizeLine := by rw [qa.length]; exact SL_le h3
      refine op_rep pins s σ H _ _ v u Q I rx ry ⟨a, j, vs, rfl, rfl, ea, by omega, by omega, hl, fun p n => ?_⟩
      have qr : ∀ k : Nat, DvAll X.K W.F (List.replicate k vs).flatten (List.replicate k xs).flatten := by
        intro k
        induction k with
        | zero => exact .nil
        | succ k ih =>
          rw [List.replicate_succ, List.replicate_succ, List.flatten_cons, List.flatten_cons]
          exact qa.append ih
      have z2 : (List.replicate j.toNat vs).flatten.length ≤ sizeLine := by
        rw [List.length_flatten, List.map_replicate, List.sum_replicate_nat, Nat.mul_comm]
        exact hl
      obtain ⟨g1, g2, g3⟩ := new_list (W := W) S n z2 (qr _)
      exact h W _ _ g1 g2 g3
    | _ => cases e
  | tuple xs =>
    cases q with
    | int j =>
      obtain ⟨⟨h1, h2, h3⟩, e⟩ := need_ret e
      cases ret_inj e
      obtain ⟨a, vs, rfl, ea, fa, za, qa⟩ := rp.tup S
      obtain rfl := rq.int
      have qr : ∀ k : Nat, DvAll X.K W.F (List.replicate k vs).flatten (List.replicate k xs).flatten := by
        intro k
        induction k with
        | zero => exact .nil
        | succ k ih =>
          rw [List.replicate_succ, List.replicate_succ, List.flatten_cons, List.flatten_cons]
          exact qa.append ih
      have hvx : vs = [] ↔ xs = [] := by
        have := qa.length
        constructor
        · intro e; subst e; exact List.eq_nil_of_length_eq_zero this.symm
        · intro e; subst e; exact List.eq_nil_of_length_eq_zero this
      refine EnT.op_repTF pins s σ H _ _ v u Q I rx ry ⟨a, j, vs, rfl, rfl, ea, h1, h2, by rw [qa.length]; exact h3, fun e1 => ?_, fun e1 p o n ho => ?_⟩
      · have e2 : (List.replicate j.toNat xs).flatten = xs := by
          rcases e1 with e1 | e1
          · rw [hvx.mp e1]; simp
          · subst e1; simp
        rw [e2] at h
        exact h W H _ (Ext.refl _ _) S (.d (.tup fa za qa))
      · have z2 : (List.replicate j.toNat vs).flatten.length ≤ sizeLine := by
          rw [List.length_flatten, List.map_replicate, List.sum_replicate_nat, sizeLine_eq, qa.length]
          have a1 : j.toNat * xs.length ≤ 1000 * 1000 := Nat.mul_le_mul (by omega) h3
          omega
        obtain ⟨W', g1, g2, g3⟩ := new_tup (W := W) ho S n z2 (qr _)
        exact h W' _ _ g1 g2 g3
    | _ => cases e
  | _ => cases e
theorem opS_mod : OpR X (binaryOp .Mod) (rO2 X.K (outN X.K) (o2 .mod)) := by
  intro pins s σ H x y v u Q I rx ry ⟨W, b, p, q, r, S, rp, rq, e, h⟩
  cases p with
  | int i =>
    cases q with
    | int j =>
      obtain ⟨hz, e⟩ := need_ret e
      cases ret_inj e
      obtain rfl := rp.int
      obtain rfl := rq.int
      exact op_mod pins s σ H _ _ v u Q I rx ry ⟨i, j, rfl, rfl, hz, h W H _ (Ext.refl _ _) S (.d (.int _))⟩
    | _ => cases e
  | _ => cases e
theorem opS_fdiv : OpR X (binaryOp .FloorDiv) (rO2 X.K (outN X.K) (o2 .fdiv)) := by
  intro pins s σ H x y v u Q I rx ry ⟨W, b, p, q, r, S, rp, rq, e, h⟩
  cases p with
  | int i =>
    cases q with
    | int j =>
      obtain ⟨hz, e⟩ := need_ret e
      cases ret_inj e
      obtain rfl := rp.int
      obtain rfl := rq.int
      exact op_fdiv pins s σ H _ _ v u Q I rx ry ⟨i, j, rfl, rfl, hz, h W H _ (Ext.refl _ _) S (.d (.int _))⟩
    | _ => cases e
  | _ => cases e
theorem opS_pow : OpR X (binaryOp .Pow) (rO2 X.K (outN X.K) (o2 .pow)) := by
  intro pins s σ H x y v u Q I rx ry ⟨W, b, p, q, r, S, rp, rq, e, h⟩
  cases p with
  | int i =>
    cases q with
    | int j =>
      obtain ⟨hz, e⟩ := need_ret e
      cases ret_inj e
      obtain rfl := rp.int
      obtain rfl := rq.int
      exact op_pow pins s σ H _ _ v u Q I rx ry ⟨i, j, rfl, rfl, hz, h W H _ (Ext.refl _ _) S (.d (.int _))⟩
    | _ => cases e
  | _ => cases e
theorem nilP_some {x y : PyData} {r : Bool} (h : nilP x y = some r) : (x = .dict [] ∧ y = .dict [] ∧ r = true) ∨ (∃ xs, x = .list xs ∧ y = .list [] ∧ r = xs.isEmpty) ∨ ∃ xs, x = .tuple xs ∧ y = .tuple [] ∧ r = xs.isEmpty := by
  unfold nilP at h
  split at h
  · cases h
    exact .inl ⟨rfl, rfl, rfl⟩
  · cases h
    exact .inr (.inl ⟨_, rfl, rfl, rfl⟩)
  · cases h
    exact .inr (.inr ⟨_, rfl, rfl, rfl⟩)
  · cases h
theorem RR.d0 {K : PySem.W.Frag} {W : Wd} {H : Hp} {b : Nat} {v : V} (S : SR K W b H) (r : RR K W H (.d (.dict [])) v) : ∃ a, v = .ref a ∧ H a = some (.dK []) := by
  cases r with
  | v q =>
    cases q with
    | d q =>
      cases q with
      | dct e => exact ⟨_, rfl, S.f _ _ e⟩
theorem opS_eq (hu : X.A.units + 65 < cLine) : OpR X (compareOp .Eq) (rO2 X.K (outV X.K) (o2 .eq)) := by
  intro pins s σ H x y v u Q I rx ry ⟨W, b, p, q, r, S, rp, rq, e, h⟩
  obtain ⟨z, e1, e⟩ := bind_ret_inv e
  cases ret_inj e
  unfold eqD at e1
  split at e1
  · rename_i rr hd
    cases ret_inj e1
    rcases nilP_some hd with ⟨rfl, rfl, rfl⟩ | ⟨xs, rfl, rfl, rfl⟩ | ⟨xs, rfl, rfl, rfl⟩
    · obtain ⟨a, rfl, ha⟩ := rp.d0 S
      obtain ⟨c, rfl, hc⟩ := rq.d0 S
      exact op_eq_dict (by omega) pins s σ H _ _ v u Q I rx ry ⟨a, c, [], rfl, rfl, ha, hc, by simp, by simp, h W H _ (Ext.refl _ _) S (.d (.bl _))⟩
    · obtain ⟨a, va, rfl, ea, za, qa⟩ := rp.list S
      obtain ⟨c, vc, rfl, ec, zc, qc⟩ := rq.list S
      cases rx
      cases ry
      obtain ⟨ia, rva, pa, _⟩ := I.list (SqL.of ea)
      obtain ⟨ic, rvc, pc, _⟩ := I.list (SqL.of ec)
      cases qc
      cases rvc
      have hlen := qa.length
      have hvl := rva.length
      have done : EP X pins σ Q (Value.bool (xs.isEmpty)) s := ⟨.bl _, H, I, rfl, h W H _ (Ext.refl _ _) S (.d (.bl _))⟩
      cases xs with
      | nil =>
        have e0 : ia = [] := List.eq_nil_of_length_eq_zero (by rw [← hvl, hlen]; rfl)
        subst e0
        exact SeqAt.RcAt.lists (e := fun _ => true) pa.isList pc.isList rfl (by omega) (fun j h1 _ => absurd h1 (by simp)) X.prog X.w _ _ done
      | cons x xs =>
        refine SeqAt.RcAt.lists_lengths pa.isList pc.isList ?_ (by omega) X.prog X.w _ _ done
        have : ia.length ≠ 0 := by rw [← hvl, hlen]; simp
        simpa using this
    · obtain ⟨a, va, rfl, ea, fa, za, qa⟩ := rp.tup S
      obtain ⟨c, vc, rfl, ec, fc, zc, qc⟩ := rq.tup S
      cases rx
      cases ry
      obtain ⟨ia, rva, pa, _⟩ := I.tuple ea
      obtain ⟨ic, rvc, pc, _⟩ := I.tuple ec
      cases qc
      cases rvc
      have hlen := qa.length
      have hvl := rva.length
      have done : EP X pins σ Q (Value.bool (xs.isEmpty)) s := ⟨.bl _, H, I, rfl, h W H _ (Ext.refl _ _) S (.d (.bl _))⟩
      refine SeqAt.RcAt.tuples (e := fun _ => true) (show s.heap.IsTuple a ia.toArray from pa) (show s.heap.IsTuple c ([] : List Value).toArray from pc) (by omega) (fun j _ h2 => absurd h2 (by simp)) X.prog X.w _ _ ?_
      have e1 : ((List.range (min ia.toArray.size ([] : List Value).toArray.size)).all (fun _ => true) && ia.toArray.size == ([] : List Value).toArray.size) = xs.isEmpty := by
        have hl : ia.length = xs.length := by rw [← hvl, hlen]
        cases xs with
        | nil => simp at hl; simp [hl]
        | cons x xs => cases ia with
          | nil => simp at hl
          | cons y ys => simp
      rw [e1]
      exact done
  obtain ⟨⟨s1, s2⟩, e1⟩ := need_ret e1
  cases ret_inj e1
  exact op_eqD (by omega) pins s σ H _ _ v u Q I rx ry ⟨p, q, rp.dp S (SeqAt.canLay_of_shaped s1), rq.dp S (SeqAt.canLay_of_shaped s2), s1, s2, h W H _ (Ext.refl _ _) S (.d (.bl _))⟩
theorem opS_ne (hu : X.A.units + 65 < cLine) : OpR X (compareOp .NotEq) (rO2 X.K (outV X.K) (o2 .ne)) := by
  intro pins s σ H x y v u Q I rx ry ⟨W, b, p, q, r, S, rp, rq, e, h⟩
  obtain ⟨z, e1, e⟩ := bind_ret_inv e
  cases ret_inj e
  unfold eqD at e1
  split at e1
  · rename_i rr hd
    cases ret_inj e1
    rcases nilP_some hd with ⟨rfl, rfl, rfl⟩ | ⟨xs, rfl, rfl, rfl⟩ | ⟨xs, rfl, rfl, rfl⟩
    · obtain ⟨a, rfl, ha⟩ := rp.d0 S
      obtain ⟨c, rfl, hc⟩ := rq.d0 S
      cases rx
      cases ry
      obtain ⟨_, ya, va, ra, da⟩ := dk_of I.hok ha
      obtain ⟨_, yc, vc, rc, dc⟩ := dk_of I.hok hc
      cases ra
      cases rc
      exact PySem.W.keq_ne (knd := mixKind X.prog X.w) (r := true) ya yc da dc (by omega) (fun _ => .nil) ⟨.bl false, H, I, rfl, h W H _ (Ext.refl _ _) S (.d (.bl _))⟩
    · obtain ⟨a, va, rfl, ea, za, qa⟩ := rp.list S
      obtain ⟨c, vc, rfl, ec, zc, qc⟩ := rq.list S
      cases rx
      cases ry
      obtain ⟨ia, rva, pa, _⟩ := I.list (SqL.of ea)
      obtain ⟨ic, rvc, pc, _⟩ := I.list (SqL.of ec)
      cases qc
      cases rvc
      have hlen := qa.length
      have hvl := rva.length
      have done : EP X pins σ Q (Value.bool (!xs.isEmpty)) s := ⟨.bl _, H, I, rfl, h W H _ (Ext.refl _ _) S (.d (.bl _))⟩
      cases xs with
      | nil =>
        have e0 : ia = [] := List.eq_nil_of_length_eq_zero (by rw [← hvl, hlen]; rfl)
        subst e0
        exact SeqAt.RcNeAt.lists (e := fun _ => true) pa.isList pc.isList rfl (by omega) (fun j h1 _ => absurd h1 (by simp)) X.prog X.w _ _ done
      | cons x xs =>
        refine SeqAt.RcNeAt.lists_lengths pa.isList pc.isList ?_ (by omega) X.prog X.w _ _ done
        have : ia.length ≠ 0 := by rw [← hvl, hlen]; simp
        simpa using this
    · obtain ⟨a, va, rfl, ea, fa, za, qa⟩ := rp.tup S
      obtain ⟨c, vc, rfl, ec, fc, zc, qc⟩ := rq.tup S
      cases rx
      cases ry
      obtain ⟨ia, rva, pa, _⟩ := I.tuple ea
      obtain ⟨ic, rvc, pc, _⟩ := I.tuple ec
      cases qc
      cases rvc
      have hlen := qa.length
      have hvl := rva.length
      have done : EP X pins σ Q (Value.bool (!xs.isEmpty)) s := ⟨.bl _, H, I, rfl, h W H _ (Ext.refl _ _) S (.d (.bl _))⟩
      refine SeqAt.RcNeAt.tuples (e := fun _ => true) (show s.heap.IsTuple a ia.toArray from pa) (show s.heap.IsTuple c ([] : List Value).toArray from pc) (by omega) (fun j _ h2 => absurd h2 (by simp)) X.prog X.w _ _ ?_
      have e1 : ((List.range (min ia.toArray.size ([] : List Value).toArray.size)).all (fun _ => true) && ia.toArray.size == ([] : List Value).toArray.size) = xs.isEmpty := by
        have hl : ia.length = xs.length := by rw [← hvl, hlen]
        cases xs with
        | nil => simp at hl; simp [hl]
        | cons x xs => cases ia with
          | nil => simp at hl
          | cons y ys => simp
      rw [e1]
      exact done
  obtain ⟨⟨s1, s2⟩, e1⟩ := need_ret e1
  cases ret_inj e1
  exact op_neD (by omega) pins s σ H _ _ v u Q I rx ry ⟨p, q, rp.dp S (SeqAt.canLay_of_shaped s1), rq.dp S (SeqAt.canLay_of_shaped s2), s1, s2, h W H _ (Ext.refl _ _) S (.d (.bl _))⟩
theorem opS_lt (hu : X.A.units + 65 < cLine) : OpR X (compareOp .Lt) (rO2 X.K (outV X.K) (o2 .lt)) := by
  intro pins s σ H x y v u Q I rx ry ⟨W, b, p, q, r, S, rp, rq, e, h⟩
  obtain ⟨z, e1, e⟩ := bind_ret_inv e
  cases ret_inj e
  cases p with
  | int i =>
    cases q with
    | int j =>
      cases ret_inj e1
      obtain rfl := rp.int
      obtain rfl := rq.int
      exact op_lt pins s σ H _ _ v u Q I rx ry ⟨i, j, rfl, rfl, h W H _ (Ext.refl _ _) S (.d (.bl _))⟩
    | _ => cases e1
  | tuple xs =>
    cases q with
    | tuple ys =>
      obtain ⟨a, ea, e1⟩ := opt_ret e1
      obtain ⟨c, ec, e1⟩ := opt_ret e1
      cases ret_inj e1
      obtain ⟨pa, vs, rfl, sa, _, za, qa⟩ := rp.tup S
      obtain ⟨pc, us, rfl, sc, _, zc, qc⟩ := rq.tup S
      rw [ints_of ea] at qa
      rw [ints_of ec] at qc
      rw [qa.ints] at sa
      rw [qc.ints] at sc
      have hh := h W H (.bl (lexLt a c)) (Ext.refl _ _) S (.d (.bl _))
      rw [← lexLt_eq] at hh
      exact op_ltT (by omega) pins s σ H _ _ v u Q I rx ry ⟨pa, pc, a, c, rfl, rfl, sa, sc, hh⟩
    | _ => cases e1
  | _ => cases e1
theorem opS_le : OpR X (compareOp .LtE) (rO2 X.K (outV X.K) (o2 .le)) := by
  intro pins s σ H x y v u Q I rx ry ⟨W, b, p, q, r, S, rp, rq, e, h⟩
  obtain ⟨z, e1, e⟩ := bind_ret_inv e
  cases ret_inj e
  cases p with
  | int i =>
    cases q with
    | int j =>
      cases ret_inj e1
      obtain rfl := rp.int
      obtain rfl := rq.int
      exact op_le pins s σ H _ _ v u Q I rx ry ⟨i, j, rfl, rfl, h W H _ (Ext.refl _ _) S (.d (.bl _))⟩
    | _ => cases e1
  | _ => cases e1
theorem opS_gt : OpR X (compareOp .Gt) (rO2 X.K (outV X.K) (o2 .gt)) := by
  intro pins s σ H x y v u Q I rx ry ⟨W, b, p, q, r, S, rp, rq, e, h⟩
  cases p with
  | int i =>
    cases q with
    | int j =>
      cases ret_inj e
      obtain rfl := rp.int
      obtain rfl := rq.int
      exact op_gt pins s σ H _ _ v u Q I rx ry ⟨i, j, rfl, rfl, h W H _ (Ext.refl _ _) S (.d (.bl _))⟩
    | _ => cases e
  | _ => cases e
theorem opS_ge : OpR X (compareOp .GtE) (rO2 X.K (outV X.K) (o2 .ge)) := by
  intro pins s σ H x y v u Q I rx ry ⟨W, b, p, q, r, S, rp, rq, e, h⟩
  cases p with
  | int i =>
    cases q with
    | int j =>
      cases ret_inj e
      obtain rfl := rp.int
      obtain rfl := rq.int
      exact op_ge pins s σ H _ _ v u Q I rx ry ⟨i, j, rfl, rfl, h W H _ (Ext.refl _ _) S (.d (.bl _))⟩
    | _ => cases e
  | _ => cases e
theorem shaped_tl {xs : List PyData} : SeqAt.shaped (.tuple xs) = SeqAt.shaped (.list xs) := by
  unfold SeqAt.shaped
  have e1 : PyData.canLay0 (.tuple xs) = PyData.canLay0 (.list xs) := by simp only [PyData.canLay0]
  have e2 : PyData.depth (.tuple xs) = PyData.depth (.list xs) := by simp only [PyData.depth]
  rw [e1, e2]
theorem op_inT (hu : X.A.units + 65 < cLine) : OpR X (compareOp .In) (fun x y H Q => ∃ d ds, Dp X.K H x d ∧ Dp X.K H y (.tuple ds) ∧ SeqAt.shaped d = true ∧ SeqAt.shaped (.list ds) = true ∧ Q (.bl (ds.any fun z => PyData.eqv z d)) H) := by
  intro pins s σ H x y v u Q I rx ry ⟨d, ds, hd, he, sd, se, q⟩
  obtain ⟨as, r1⟩ := Dp.reads I d x v hd rx
  obtain ⟨bs, r2⟩ := Dp.reads I (.tuple ds) y u he ry
  exact SeqAt.in_tuple_reads r2 r1 (by have := SeqAt.canLay_of_shaped se; simpa only [PyData.canLay0] using this) (SeqAt.canLay_of_shaped sd) (room_in_shaped sd hu) ⟨.bl _, H, I, rfl, q⟩
theorem op_notInT (hu : X.A.units + 65 < cLine) : OpR X (compareOp .NotIn) (fun x y H Q => ∃ d ds, Dp X.K H x d ∧ Dp X.K H y (.tuple ds) ∧ SeqAt.shaped d = true ∧ SeqAt.shaped (.list ds) = true ∧ Q (.bl (!ds.any fun z => PyData.eqv z d)) H) := by
  intro pins s σ H x y v u Q I rx ry ⟨d, ds, hd, he, sd, se, q⟩
  obtain ⟨as, r1⟩ := Dp.reads I d x v hd rx
  obtain ⟨bs, r2⟩ := Dp.reads I (.tuple ds) y u he ry
  exact SeqAt.notIn_tuple_reads r2 r1 (by have := SeqAt.canLay_of_shaped se; simpa only [PyData.canLay0] using this) (SeqAt.canLay_of_shaped sd) (room_in_shaped sd hu) ⟨.bl _, H, I, rfl, q⟩
theorem opS_inn (hu : X.A.units + 65 < cLine) : OpR X (compareOp .In) (rO2 X.K (outV X.K) (o2 .inn)) := by
  intro pins s σ H x y v u Q I rx ry ⟨W, b, p, q, r, S, rp, rq, e, h⟩
  cases q with
  | list ys =>
    obtain ⟨z, e1, e⟩ := bind_ret_inv e
    cases ret_inj e
    obtain ⟨⟨s1, s2⟩, e1⟩ := need_ret e1
    cases ret_inj e1
    exact op_inD hu pins s σ H _ _ v u Q I rx ry ⟨p, ys, rp.dp S (SeqAt.canLay_of_shaped s1), rq.dp S (SeqAt.canLay_of_shaped s2), s1, s2, h W H _ (Ext.refl _ _) S (.d (.bl _))⟩
  | tuple ys =>
    obtain ⟨z, e1, e⟩ := bind_ret_inv e
    cases ret_inj e
    obtain ⟨⟨s1, s2⟩, e1⟩ := need_ret e1
    cases ret_inj e1
    exact op_inT hu pins s σ H _ _ v u Q I rx ry ⟨p, ys, rp.dp S (SeqAt.canLay_of_shaped s1), rq.dp S (SeqAt.canLay_of_shaped (shaped_tl.trans s2)), s1, s2, h W H _ (Ext.refl _ _) S (.d (.bl _))⟩
  | _ => cases p <;> cases e
theorem opS_notIn (hu : X.A.units + 65 < cLine) : OpR X (compareOp .NotIn) (rO2 X.K (outV X.K) (o2 .notIn)) := by
  intro pins s σ H x y v u Q I rx ry ⟨W, b, p, q, r, S, rp, rq, e, h⟩
  cases q with
  | list ys =>
    obtain ⟨z, e1, e⟩ := bind_ret_inv e
    cases ret_inj e
    obtain ⟨⟨s1, s2⟩, e1⟩ := need_ret e1
    cases ret_inj e1
    exact op_notInD hu pins s σ H _ _ v u Q I rx ry ⟨p, ys, rp.dp S (SeqAt.canLay_of_shaped s1), rq.dp S (SeqAt.canLay_of_shaped s2), s1, s2, h W H _ (Ext.refl _ _) S (.d (.bl _))⟩
  | tuple ys =>
    obtain ⟨z, e1, e⟩ := bind_ret_inv e
    cases ret_inj e
    obtain ⟨⟨s1, s2⟩, e1⟩ := need_ret e1
    cases ret_inj e1
    exact op_notInT hu pins s σ H _ _ v u Q I rx ry ⟨p, ys, rp.dp S (SeqAt.canLay_of_shaped s1), rq.dp S (SeqAt.canLay_of_shaped (shaped_tl.trans s2)), s1, s2, h W H _ (Ext.refl _ _) S (.d (.bl _))⟩
  | _ => cases p <;> cases e
theorem place_ix (n : Nat) (i : Int) : ixN n i = place n i := rfl
theorem seqAt_ret {xs : List PyData} {i : Int} {r : PyData} (h : seqAt xs i = T.ret r) : ∃ j, place xs.length i = some j ∧ xs[j]? = some r := by
  unfold seqAt at h
  split at h
  · rename_i j hj
    split at h
    · rename_i z hz
      cases ret_inj h
      exact ⟨j, hj, hz⟩
    · cases h
  · cases h
theorem ixS_seq : IxR X (rO2 X.K (outV X.K) (o2 .ix)) := by
  intro value slice pins s σ H x y v u Q I rx ry ⟨W, b, p, q, r, S, rp, rq, e, h⟩ hpl
  cases p with
  | list xs =>
    cases q with
    | int i =>
      obtain ⟨j, hj, hr⟩ := seqAt_ret e
      obtain ⟨a, vs, rfl, ea, za, qa⟩ := rp.list S
      obtain rfl := rq.int
      obtain ⟨w, hw, rw'⟩ := qa.get hr
      refine ix_list value slice pins s σ H _ _ v u Q I rx ry ⟨a, vs, i, w, rfl, rfl, SqL.of ea, ?_, h W H _ (Ext.refl _ _) S (.d rw')⟩ hpl
      unfold atI
      rw [qa.length, place_ix, hj]
      exact hw
    | _ => cases e
  | tuple xs =>
    cases q with
    | int i =>
      obtain ⟨j, hj, hr⟩ := seqAt_ret e
      obtain ⟨a, vs, rfl, ea, _, za, qa⟩ := rp.tup S
      obtain rfl := rq.int
      obtain ⟨w, hw, rw'⟩ := qa.get hr
      refine ix_tup value slice pins s σ H _ _ v u Q I rx ry ⟨a, vs, i, w, rfl, rfl, ea, ?_, h W H _ (Ext.refl _ _) S (.d rw')⟩ hpl
      unfold atI
      rw [qa.length, place_ix, hj]
      exact hw
    | _ => cases e
  | _ => cases q <;> cases e
/-- a slice's reading -/
def rSl (K : PySem.W.Frag) : V → Option Int → Option Int → Hp → VK → Prop := fun x lo hi H Q => ∃ W b p r, SR K W b H ∧ RR K W H (.d p) x ∧ sliceD lo hi p = T.ret r ∧
  ∀ W' H' v, Ext W H W' H' → SR K W' b H' → outN K H W' H' r v → Q v H'
theorem cutP_eq (n : Nat) (i : Int) (d : Nat) : HT.sIx n d (some i) = cutP n i := by
  have h := HT.clip_eq i n d
  unfold cutP
  split
  · rename_i hi
    rw [if_pos hi] at h
    omega
  · rename_i hi
    rw [if_neg hi] at h
    omega
theorem cutV_cut {K : PySem.W.Frag} {F : Hp} {vs : List V} {xs : List PyData} (q : DvAll K F vs xs) (lo hi : Option Int) : DvAll K F (cutV vs lo hi) (cut xs lo hi) := by
  have e1 : HT.sIx vs.length 0 lo = (match lo with | none => 0 | some i => cutP xs.length i) := by
    cases lo with
    | none => exact HT.sIx_none _ _
    | some i => rw [cutP_eq, q.length]
  have e2 : HT.sIx vs.length vs.length hi = (match hi with | none => xs.length | some i => cutP xs.length i) := by
    cases hi with
    | none => rw [HT.sIx_none, q.length]
    | some i => rw [cutP_eq, q.length]
  unfold cutV cut
  rw [e1, e2]
  exact (q.drop _).take _
theorem slS : SlR X (rSl X.K) := by
  intro pins s σ H x v vl vu lo hi sl Q I rx hs pl pu ⟨W, b, p, r, S, rp, e, h⟩
  cases p with
  | list xs =>
    cases ret_inj e
    obtain ⟨a, vs, rfl, ea, za, qa⟩ := rp.list S
    refine sl_list pins s σ H _ v vl vu lo hi sl Q I rx hs pl pu ⟨a, vs, rfl, SqL.of ea, fun p n => ?_⟩
    obtain ⟨g1, g2, g3⟩ := new_list (W := W) S n (Nat.le_trans (cutV_length vs lo hi) za) (cutV_cut qa lo hi)
    exact h W _ _ g1 g2 g3
  | tuple xs =>
    cases ret_inj e
    obtain ⟨a, vs, rfl, ea, fa, za, qa⟩ := rp.tup S
    refine EnT.sl_tupF pins s σ H _ v vl vu lo hi sl Q I rx hs pl pu ⟨a, vs, rfl, ea, fun hw => ?_, fun hw p o n ho => ?_⟩
    · have ec : cutV vs lo hi = vs := by
        unfold cutV
        rw [hw.1, hw.2]
        simp
      have qc := cutV_cut qa lo hi
      rw [ec] at qc
      exact h W H _ (Ext.refl _ _) S (.d (.tup fa za qc))
    · obtain ⟨W', g1, g2, g3⟩ := new_tup (W := W) ho S n (Nat.le_trans (cutV_length vs lo hi) za) (cutV_cut qa lo hi)
      exact h W' _ _ g1 g2 g3
  | _ => cases e
/-- a call's reading, one argument; two -/
def rC1 (K : PySem.W.Frag) (out : Out) (f : PyData → T PyData) : List V → Hp → VK → Prop := fun vs H Q => ∃ x, vs = [x] ∧ rU1 K out f x H Q
def rC2 (K : PySem.W.Frag) (out : Out) (f : PyData → PyData → T PyData) : List V → Hp → VK → Prop := fun vs H Q => ∃ x y, vs = [x, y] ∧ rO2 K out f x y H Q
theorem clS_len : CallR X (.builtin "len") (rC1 X.K (outV X.K) (o1 .len)) := by
  intro pins s σ H vs us Q I rv ⟨x, ex, W, b, p, r, S, rp, e, h⟩
  subst ex
  cases p with
  | list xs =>
    cases ret_inj e
    obtain ⟨a, vs, rfl, ea, za, qa⟩ := rp.list S
    have hh := h W H (.int vs.length) (Ext.refl _ _) S (by rw [qa.length]; exact .d (.int _))
    exact call_len_seq pins s σ H _ us Q I rv ⟨a, vs, rfl, .inl (SqL.of ea), hh⟩
  | tuple xs =>
    cases ret_inj e
    obtain ⟨a, vs, rfl, ea, _, za, qa⟩ := rp.tup S
    have hh := h W H (.int vs.length) (Ext.refl _ _) S (by rw [qa.length]; exact .d (.int _))
    exact call_len_seq pins s σ H _ us Q I rv ⟨a, vs, rfl, .inr ea, hh⟩
  | _ => cases e
theorem clS_tuple : CallR X (.type "tuple") (rC1 X.K (outV X.K) (o1 .tuple)) := by
  intro pins s σ H vs us Q I rv ⟨x, ex, W, b, p, r, S, rp, e, h⟩
  subst ex
  cases p with
  | list xs =>
    cases ret_inj e
    obtain ⟨a, vs, rfl, ea, za, qa⟩ := rp.list S
    refine EnT.call_tuple_ofF pins s σ H _ us Q I rv ⟨a, vs, rfl, .inl ⟨SqL.of ea, fun p o n ho => ?_⟩⟩
    obtain ⟨W', g1, g2, g3⟩ := new_tup (W := W) ho S n za qa
    exact h W' _ _ g1 g2 g3
  | tuple xs =>
    cases ret_inj e
    obtain ⟨a, vs, rfl, ea, fa, za, qa⟩ := rp.tup S
    exact EnT.call_tuple_ofF pins s σ H _ us Q I rv ⟨a, vs, rfl, .inr ⟨ea, h W H _ (Ext.refl _ _) S (.d (.tup fa za qa))⟩⟩
  | _ => cases e
theorem clS_list : CallR X (.type "list") (rC1 X.K (outN X.K) (o1 .list)) := by
  intro pins s σ H vs us Q I rv ⟨x, ex, W, b, p, r, S, rp, e, h⟩
  subst ex
  cases p with
  | list xs =>
    cases ret_inj e
    obtain ⟨a, vs, rfl, ea, za, qa⟩ := rp.list S
    refine call_list_of pins s σ H _ us Q I rv ⟨a, vs, rfl, .inl (SqL.of ea), fun p n => ?_⟩
    obtain ⟨g1, g2, g3⟩ := new_list (W := W) S n za qa
    exact h W _ _ g1 g2 g3
  | tuple xs =>
    cases ret_inj e
    obtain ⟨a, vs, rfl, ea, fa, za, qa⟩ := rp.tup S
    refine call_list_of pins s σ H _ us Q I rv ⟨a, vs, rfl, .inr ea, fun p n => ?_⟩
    obtain ⟨g1, g2, g3⟩ := new_list (W := W) S n za qa
    exact h W _ _ g1 g2 g3
  | _ => cases e
theorem clS_max2 (hc : X.calm = true) : CallR X (.builtin "max") (rC2 X.K (outV X.K) (o2 .max2)) := by
  intro pins s σ H vs us Q I rv ⟨x, y, ex, W, b, p, q, r, S, rp, rq, e, h⟩
  subst ex
  cases p with
  | int i =>
    cases q with
    | int j =>
      cases ret_inj e
      obtain rfl := rp.int
      obtain rfl := rq.int
      refine call_max2 hc pins s σ H _ us Q I rv ⟨i, j, rfl, ?_⟩
      have em : (if j > i then j else i) = max i j := by omega
      rw [em]
      exact h W H _ (Ext.refl _ _) S (.d (.int _))
    | _ => cases e
  | _ => cases e
theorem clS_min2 (hc : X.calm = true) : CallR X (.builtin "min") (rC2 X.K (outV X.K) (o2 .min2)) := by
  intro pins s σ H vs us Q I rv ⟨x, y, ex, W, b, p, q, r, S, rp, rq, e, h⟩
  subst ex
  cases p with
  | int i =>
    cases q with
    | int j =>
      cases ret_inj e
      obtain rfl := rp.int
      obtain rfl := rq.int
      refine call_min2 hc pins s σ H _ us Q I rv ⟨i, j, rfl, ?_⟩
      have em : (if j < i then j else i) = min i j := by omega
      rw [em]
      exact h W H _ (Ext.refl _ _) S (.d (.int _))
    | _ => cases e
  | _ => cases e
theorem clS_abs : CallR X (.builtin "abs") (rC1 X.K (outV X.K) (o1 .abs)) := by
  intro pins s σ H vs us Q I rv ⟨x, ex, W, b, p, r, S, rp, e, h⟩
  subst ex
  cases p with
  | int i =>
    cases ret_inj e
    obtain rfl := rp.int
    exact call_abs pins s σ H _ us Q I rv ⟨i, rfl, h W H _ (Ext.refl _ _) S (.d (.int _))⟩
  | _ => cases e
theorem clS_int : CallR X (.type "int") (rC1 X.K (outV X.K) (o1 .int)) := by
  intro pins s σ H vs us Q I rv ⟨x, ex, W, b, p, r, S, rp, e, h⟩
  subst ex
  cases p with
  | int i =>
    cases ret_inj e
    obtain rfl := rp.int
    exact call_int1 pins s σ H _ us Q I rv (.inl ⟨i, rfl, h W H _ (Ext.refl _ _) S (.d (.int _))⟩)
  | bool k =>
    cases ret_inj e
    obtain rfl := rp.bl
    exact call_int1 pins s σ H _ us Q I rv (.inr ⟨k, rfl, h W H _ (Ext.refl _ _) S (.d (.int _))⟩)
  | _ => cases e
theorem clS_maxL (hc : X.calm = true) : CallR X (.builtin "max") (rC1 X.K (outV X.K) (o1 .maxL)) := by
  intro pins s σ H vs us Q I rv ⟨x, ex, W, b, p, r, S, rp, e, h⟩
  subst ex
  cases p with
  | list xs =>
    obtain ⟨ns, en, e⟩ := opt_ret e
    obtain ⟨hz, e⟩ := need_ret e
    cases ret_inj e
    obtain ⟨a, vs, rfl, ea, za, qa⟩ := rp.list S
    rw [ints_of en] at qa
    rw [qa.ints] at ea
    refine cr_max hc pins s σ H _ us Q I rv ⟨a, ns, rfl, SqL.of ea, hz, fun m h1 h2 => ?_⟩
    have hm : m = maxI ns := by
      have h3 := (maxI_mem hz).2 m h1
      have h4 := h2 _ (maxI_mem hz).1
      omega
    rw [hm]
    exact h W H _ (Ext.refl _ _) S (.d (.int _))
  | tuple xs =>
    obtain ⟨ns, en, e⟩ := opt_ret e
    obtain ⟨hz, e⟩ := need_ret e
    cases ret_inj e
    obtain ⟨a, vs, rfl, ea, ef, za, qa⟩ := rp.tup S
    rw [ints_of en] at qa
    rw [qa.ints] at ea
    refine EnT.cr_maxT hc pins s σ H _ us Q I rv ⟨a, ns, rfl, ea, hz, fun m h1 h2 => ?_⟩
    have hm : m = maxI ns := by
      have h3 := (maxI_mem hz).2 m h1
      have h4 := h2 _ (maxI_mem hz).1
      omega
    rw [hm]
    exact h W H _ (Ext.refl _ _) S (.d (.int _))
  | _ => cases e
theorem clS_minL (hc : X.calm = true) : CallR X (.builtin "min") (rC1 X.K (outV X.K) (o1 .minL)) := by
  intro pins s σ H vs us Q I rv ⟨x, ex, W, b, p, r, S, rp, e, h⟩
  subst ex
  cases p with
  | list xs =>
    obtain ⟨ns, en, e⟩ := opt_ret e
    obtain ⟨hz, e⟩ := need_ret e
    cases ret_inj e
    obtain ⟨a, vs, rfl, ea, za, qa⟩ := rp.list S
    rw [ints_of en] at qa
    rw [qa.ints] at ea
    refine cr_min hc pins s σ H _ us Q I rv ⟨a, ns, rfl, SqL.of ea, hz, fun m h1 h2 => ?_⟩
    have hm : m = minI ns := by
      have h3 := (minI_mem hz).2 m h1
      have h4 := h2 _ (minI_mem hz).1
      omega
    rw [hm]
    exact h W H _ (Ext.refl _ _) S (.d (.int _))
  | tuple xs =>
    obtain ⟨ns, en, e⟩ := opt_ret e
    obtain ⟨hz, e⟩ := need_ret e
    cases ret_inj e
    obtain ⟨a, vs, rfl, ea, ef, za, qa⟩ := rp.tup S
    rw [ints_of en] at qa
    rw [qa.ints] at ea
    refine EnT.cr_minT hc pins s σ H _ us Q I rv ⟨a, ns, rfl, ea, hz, fun m h1 h2 => ?_⟩
    have hm : m = minI ns := by
      have h3 := (minI_mem hz).2 m h1
      have h4 := h2 _ (minI_mem hz).1
      omega
    rw [hm]
    exact h W H _ (Ext.refl _ _) S (.d (.int _))
  | _ => cases e
theorem clS_sum (hc : X.calm = true) : CallR X (.builtin "sum") (rC1 X.K (outV X.K) (o1 .sumL)) := by
  intro pins s σ H vs us Q I rv ⟨x, ex, W, b, p, r, S, rp, e, h⟩
  subst ex
  cases p with
  | list xs =>
    obtain ⟨ns, en, e⟩ := opt_ret e
    cases ret_inj e
    obtain ⟨a, vs, rfl, ea, za, qa⟩ := rp.list S
    rw [ints_of en] at qa
    rw [qa.ints] at ea
    exact cr_sum hc pins s σ H _ us Q I rv ⟨a, ns, rfl, SqL.of ea, h W H _ (Ext.refl _ _) S (.d (.int _))⟩
  | _ => cases e
theorem clS_all (hc : X.calm = true) : CallR X (.builtin "all") (rC1 X.K (outV X.K) (o1 .allL)) := by
  intro pins s σ H vs us Q I rv ⟨x, ex, W, b, p, r, S, rp, e, h⟩
  subst ex
  cases p with
  | list xs =>
    obtain ⟨ns, en, e⟩ := opt_ret e
    cases ret_inj e
    obtain ⟨a, vs, rfl, ea, za, qa⟩ := rp.list S
    rw [bools_of en] at qa
    rw [qa.bools] at ea
    exact cr_all hc pins s σ H _ us Q I rv ⟨a, ns, rfl, SqL.of ea, h W H _ (Ext.refl _ _) S (.d (.bl _))⟩
  | _ => cases e
theorem clS_any (hc : X.calm = true) : CallR X (.builtin "any") (rC1 X.K (outV X.K) (o1 .anyL)) := by
  intro pins s σ H vs us Q I rv ⟨x, ex, W, b, p, r, S, rp, e, h⟩
  subst ex
  cases p with
  | list xs =>
    obtain ⟨ns, en, e⟩ := opt_ret e
    cases ret_inj e
    obtain ⟨a, vs, rfl, ea, za, qa⟩ := rp.list S
    rw [bools_of en] at qa
    rw [qa.bools] at ea
    exact cr_any hc pins s σ H _ us Q I rv ⟨a, ns, rfl, SqL.of ea, h W H _ (Ext.refl _ _) S (.d (.bl _))⟩
  | _ => cases e
theorem clS_sorted : CallR X (.builtin "sorted") (rC1 X.K (outN X.K) (o1 .sorted)) := by
  intro pins s σ H vs us Q I rv ⟨x, ex, W, b, p, r, S, rp, e, h⟩
  subst ex
  cases p with
  | list xs =>
    obtain ⟨ys, e1, e⟩ := bind_ret_inv e
    cases ret_inj e
    obtain ⟨a, vs, rfl, ea, za, qa⟩ := rp.list S
    unfold sortD at e1
    split at e1
    · rename_i ns en
      cases ret_inj e1
      rw [ints_of en] at qa
      have zl := za
      rw [qa.ints] at ea zl
      refine cr_sortedI pins s σ H _ us Q I rv ⟨a, ns, rfl, SqL.of ea, fun ns' p h1 h2 n => ?_⟩
      have en' : ns' = sortI ns := sorted_uniq (h1.trans (sortI_perm ns).symm) h2 (sortI_sorted ns)
      subst en'
      obtain ⟨g1, g2, g3⟩ := new_list (W := W) (vs := (sortI ns).map V.int) S n (by rw [List.length_map, (sortI_perm ns).length_eq]; rw [List.length_map] at zl; exact zl) (DvAll.of_ints (K := X.K) (F := W.F) (sortI ns))
      exact h W _ _ g1 g2 g3
    · cases e1
  | tuple xs =>
    obtain ⟨ys, e1, e⟩ := bind_ret_inv e
    cases ret_inj e
    obtain ⟨a, vs, rfl, ea, fa, za, qa⟩ := rp.tup S
    unfold sortD at e1
    split at e1
    · rename_i ns en
      cases ret_inj e1
      rw [ints_of en] at qa
      have zl := za
      rw [qa.ints] at ea zl
      refine EnT.cr_sortedTI pins s σ H _ us Q I rv ⟨a, ns, rfl, ea, fun ns' p h1 h2 n => ?_⟩
      have en' : ns' = sortI ns := sorted_uniq (h1.trans (sortI_perm ns).symm) h2 (sortI_sorted ns)
      subst en'
      obtain ⟨g1, g2, g3⟩ := new_list (W := W) (vs := (sortI ns).map V.int) S n (by rw [List.length_map, (sortI_perm ns).length_eq]; rw [List.length_map] at zl; exact zl) (DvAll.of_ints (K := X.K) (F := W.F) (sortI ns))
      exact h W _ _ g1 g2 g3
    · cases e1
  | _ => cases e
section
variable {X : Cx} {pins : List (Addr × Obj)} {σ : L2.St} {H : Hp} {s : Shared}
theorem d0Raw (I : Inv X pins σ H s) {a : Addr} (e : H a = some (.dK [])) : ∃ o ep, s.heap.get? a = some o ∧ o.cls = .type "dict" ∧ o.data = .dict #[] ep ∧ (a == sysModules) = false := by
  obtain ⟨_, hs, vs, kv, o, es, ep, ho, hx, hdt, _, hp, _⟩ := dk_of I.hok e
  have hv : vs = [] := by
    cases kv
    rfl
  subst hv
  have he : es = #[] := Array.eq_empty_of_size_eq_zero (by rw [← Array.length_toList]; exact hp.length)
  rw [he] at hdt
  exact ⟨o, ep, ho, hx.1, hdt, hs⟩
/-- how a value's text is found: what is read, and the objects on the way -/
def Tells (X : Cx) (s : Shared) (u : Value) (d : PyData) : Prop := ∃ as bs, Reads s.heap u d as ∧ ReadAtMost s.heap d.depth bs ∧ ReprK X.prog X.w bs s.heap d.depth u d.shown
def TellsAll (X : Cx) (s : Shared) (us : List Value) (ds : List PyData) : Prop := ∃ as bs, ReadsAll s.heap us ds as ∧ ReadAtMost s.heap (PyData.depthAll ds) bs ∧ ReprAllK X.prog X.w bs s.heap (PyData.depthAll ds) us (PyData.shownAll ds)
theorem no_addr {n : Nat} : ReadAtMost s.heap n [] := fun b hb => by cases hb
mutual
theorem tells (I : Inv X pins σ H s) : ∀ (d : PyData) {v : V} {u : Value}, Dv X.K H v d → RelV v u → d.showable = true → d.shown.length ≤ sizeLine → Tells X s u d
  | .none, _, _, r, ru, hs, hz => by
    cases r
    cases ru
    exact ⟨_, [], .none, no_addr, by simp only [PyData.shown]; exact .of_is ReprIs.none _ _ _⟩
  | .bool b, _, _, r, ru, hs, hz => by
    cases r
    cases ru
    exact ⟨_, [], .bool b, no_addr, by simp only [PyData.shown]; exact .of_is (ReprIs.bool b) _ _ _⟩
  | .int i, _, _, r, ru, hs, hz => by
    cases r
    obtain ⟨t, rfl⟩ := ru
    exact ⟨_, [], .int i t, no_addr, by simp only [PyData.shown]; exact .of_is (ReprIs.int t (by simpa [PyData.showable] using hs)) _ _ _⟩
  | .str x, _, _, r, ru, hs, hz => by
    cases r
    obtain ⟨t, rfl⟩ := ru
    exact ⟨_, [], .str x t, no_addr, by
      simp only [PyData.shown] at hz ⊢
      exact .of_is (ReprIs.str x t hz) _ _ _⟩
  | .list ds, _, _, r, ru, hs, hz => by
    cases r with
    | lst e z q =>
      cases ru
      obtain ⟨its, rv, ⟨o, n, ho, hc, _, hd⟩, _⟩ := I.list (SqL.of e)
      simp only [PyData.shown] at hz
      obtain ⟨as, bs, h1, h2, h3⟩ := tellsAll I ds q rv (by simpa [PyData.showable] using hs) fun t ht => Nat.le_trans (listText_mem_le ht) hz
      have r := Reads.list ho hc hd h1
      have dp : (PyData.list ds).depth = PyData.depthAll ds + 1 := by simp only [PyData.depth]
      have hna := not_mem_of_deeper r (by rw [dp]; exact Nat.lt_succ_self _) h2
      refine ⟨_, _ :: bs, r, .cons r (Nat.le_refl _) (fun b hb => ?_), ?_⟩
      · obtain ⟨d', as', r', hd'⟩ := h2 b hb
        exact ⟨d', as', r', by rw [dp]; omega⟩
      · rw [dp]
        simp only [PyData.shown]
        cases its with
        | nil =>
          cases h1
          simp only [PyData.shownAll, listText_nil]
          exact ReprK.listEmpty ho hc hd
        | cons y l => exact ReprK.list ho hc hd hna (by simpa using h3.length_eq) fun i y e => h3.item i y (by simpa using e)
  | .tuple ds, _, _, r, ru, hs, hz => by
    cases r with
    | tup e z q =>
      cases ru
      obtain ⟨its, rv, ⟨o, ho, hc, n, hd⟩, _⟩ := I.tuple e.1
      simp only [PyData.shown] at hz
      obtain ⟨as, bs, h1, h2, h3⟩ := tellsAll I ds q rv (by simpa [PyData.showable] using hs) fun t ht => Nat.le_trans (tupleText_mem_le ht) hz
      have r := Reads.tuple ho hc hd h1
      have dp : (PyData.tuple ds).depth = PyData.depthAll ds + 1 := by simp only [PyData.depth]
      have hna := not_mem_of_deeper r (by rw [dp]; exact Nat.lt_succ_self _) h2
      refine ⟨_, _ :: bs, r, .cons r (Nat.le_refl _) (fun b hb => ?_), ?_⟩
      · obtain ⟨d', as', r', hd'⟩ := h2 b hb
        exact ⟨d', as', r', by rw [dp]; omega⟩
      · rw [dp]
        simp only [PyData.shown]
        exact ReprK.tuple ho hc hd hna h3
  | .dict [], _, _, r, ru, hs, hz => by
    cases r with
    | dct e =>
      cases ru
      obtain ⟨o, ep, ho, hc, hd, hy⟩ := d0Raw I e
      have r := Reads.dict (kvs := []) ho hc hd .nil .nil
      refine ⟨_, _, r, .cons r (Nat.le_refl _) no_addr, ?_⟩
      simp only [PyData.depth, PyData.shown, PyData.shownKv_eq]
      exact ReprK.dict ho hc hd hy (by simp) (ReprEntriesK.of_two [] _ _ .nil .nil)
  | .dict (_ :: _), _, _, r, _, _, _ => nomatch r
theorem tellsAll (I : Inv X pins σ H s) : ∀ (ds : List PyData) {vs : List V} {us : List Value}, DvAll X.K H vs ds → Vals vs us → PyData.showableAll ds = true → (∀ t ∈ PyData.shownAll ds, t.length ≤ sizeLine) → TellsAll X s us ds
  | [], _, _, r, rv, _, _ => by
    cases r
    cases rv
    exact ⟨_, [], .nil, no_addr, by simp only [PyData.shownAll]; exact .nil⟩
  | d :: ds, _, _, r, rv, hs, hz => by
    cases r with
    | cons a b =>
      cases rv with
      | cons r1 r2 =>
        simp only [PyData.showableAll, Bool.and_eq_true] at hs
        simp only [PyData.shownAll, List.mem_cons] at hz
        obtain ⟨as, bs, q1, q2, q3⟩ := tells I d a r1 hs.1 (hz _ (.inl rfl))
        obtain ⟨cs, es, p1, p2, p3⟩ := tellsAll I ds b r2 hs.2 fun t ht => hz t (.inr ht)
        refine ⟨_, bs ++ es, .cons q1 p1, fun b hb => ?_, ?_⟩
        · simp only [PyData.depthAll]
          rcases List.mem_append.mp hb with hb | hb
          · obtain ⟨d', as', r', hd'⟩ := q2 b hb
            exact ⟨d', as', r', by omega⟩
          · obtain ⟨d', as', r', hd'⟩ := p2 b hb
            exact ⟨d', as', r', by omega⟩
        · simp only [PyData.depthAll, PyData.shownAll]
          exact .cons ((q3.more fun b hb => List.mem_append_left _ hb).level_le (by omega)) (p3.more_le (fun b hb => List.mem_append_right _ hb) (by omega))
end
/-- repr of data that lies in the heap -/
theorem repr_dv (I : Inv X pins σ H s) (d : PyData) {v : V} {a : Addr} {A : Around} {E Q : Value → Shared → Prop} (r : Dv X.K H v d) (ru : RelV v (.ref a)) (hs : d.showable = true) (hz : d.shown.length ≤ sizeLine) (hg : A.guards = some []) (hu : A.units + (d.depth + 1) < cLine)
    (hQ : ∀ h' u tk, (∀ b o, s.heap.get? b = some o → h'.get? b = some o) → Q (.str d.shown u) { s with heap := h', toks := tk }) : wpAny (model X.prog X.w) A (call (.builtin "repr") [.ref a]) Q E s := by
  have go : ∀ {T idr : String}, ShowsBy X.prog X.w s.heap a d T idr → wpAny (model X.prog X.w) A (call (.builtin "repr") [.ref a]) Q E s := fun S =>
    call_repr_slot (by omega) (S.typeIs s fun _ _ e => e) S.slotRepr (S.call A.in1 E s _ hg (by show A.units + 1 + d.depth < cLine; omega) (fun _ _ e => e) fun h' u tk hk => ⟨_, _, rfl, hQ h' u tk hk⟩)
  cases d with
  | none => cases r; cases ru
  | bool b => cases r; cases ru
  | int i => cases r; obtain ⟨t, e⟩ := ru; cases e
  | str x => cases r; obtain ⟨t, e⟩ := ru; cases e
  | list ds =>
    cases r with
    | lst e z q =>
      cases ru
      obtain ⟨its, rv, ⟨o, n, ho, hc, _, hd⟩, _⟩ := I.list (SqL.of e)
      simp only [PyData.shown] at hz
      obtain ⟨as, bs, h1, h2, h3⟩ := tellsAll I ds q rv (by simpa [PyData.showable] using hs) fun t ht => Nat.le_trans (listText_mem_le ht) hz
      have dp : (PyData.list ds).depth = PyData.depthAll ds + 1 := by simp only [PyData.depth]
      have hna := not_mem_of_deeper (Reads.list ho hc hd h1) (by rw [dp]; exact Nat.lt_succ_self _) h2
      refine go (T := "list") (idr := "list.__repr__") ⟨F.slot_list_repr.toG, F.slot_list_str, F.slot_list_format, fun s' k => ⟨o, k _ _ ho, hc⟩, fun A' E' s' Q' hg' hu' k hQ' => ?_⟩
      rw [dp] at hu'
      simp only [PyData.shown] at hQ'
      cases its with
      | nil =>
        cases h1
        simp only [PyData.shownAll, listText_nil] at hQ'
        exact call_list_repr_empty ⟨o, k _ _ ho, hc⟩ (k _ _ ho) hd (hQ' s'.heap _ _ fun _ _ e => e)
      | cons y l => exact call_list_reprK ho hc hd hna (by simpa using h3.length_eq) (fun i y e => h3.item i y (by simpa using e)) hg' (fun b _ => Clear.nil b) hu' k hQ' hz
  | tuple ds =>
    cases r with
    | tup e z q =>
      cases ru
      obtain ⟨its, rv, ⟨o, ho, hc, n, hd⟩, _⟩ := I.tuple e.1
      simp only [PyData.shown] at hz
      obtain ⟨as, bs, h1, h2, h3⟩ := tellsAll I ds q rv (by simpa [PyData.showable] using hs) fun t ht => Nat.le_trans (tupleText_mem_le ht) hz
      have dp : (PyData.tuple ds).depth = PyData.depthAll ds + 1 := by simp only [PyData.depth]
      have hna := not_mem_of_deeper (Reads.tuple ho hc hd h1) (by rw [dp]; exact Nat.lt_succ_self _) h2
      refine go (T := "tuple") (idr := "tuple.__repr__") ⟨F.slot_tuple_repr, F.slot_tuple_str, F.slot_tuple_format, fun s' k => ⟨o, k _ _ ho, hc⟩, fun A' E' s' Q' hg' hu' k hQ' => ?_⟩
      rw [dp] at hu'
      simp only [PyData.shown] at hQ'
      exact call_tuple_reprK ho hc hd hna h3 hg' (fun b _ => Clear.nil b) hu' k hQ' hz
  | dict kvs =>
    cases kvs with
    | cons p q => exact nomatch r
    | nil =>
      cases r with
      | dct e =>
        cases ru
        obtain ⟨o, ep, ho, hc, hd, hy⟩ := d0Raw I e
        refine go (T := "dict") (idr := "dict.__repr__") ⟨F.slot_dict_repr, F.slot_dict_str, F.slot_dict_format, fun s' k => ⟨o, k _ _ ho, hc⟩, fun A' E' s' Q' hg' hu' k hQ' => ?_⟩
        simp only [PyData.shown, PyData.shownKv_eq] at hQ' hz
        simp only [PyData.depth] at hu'
        exact call_dict_reprK ho hc hd hy (as := []) (fun h => by cases h) (ReprEntriesK.of_two [] _ _ .nil .nil) hg' (fun b _ => Clear.nil b) hu' k hQ' hz
end
theorem RR.dv {K : PySem.W.Frag} {W : Wd} {H : Hp} {b : Nat} {v : V} {x : PyData} (S : SR K W b H) (r : RR K W H (.d x) v) : Dv K H v x := by
  cases r with
  | v q =>
    cases q with
    | d q => exact q.le S.f
  | own e n z q => exact .lst e z (DvAll.le S.f _ q)
theorem clS_repr (hg : X.A.guards = some []) (hu : X.A.units + 100 < cLine) : CallR X (.builtin "repr") (rC1 X.K (outV X.K) (o1 .repr)) := by
  intro pins s σ H vs us Q I rv ⟨x, ex, W, b, p, r, S, rp, e, h⟩
  subst ex
  obtain ⟨u, rfl, ru⟩ := vals1 rv
  have e' : reprD p = T.ret r := e
  obtain ⟨⟨h1, h3, h4⟩, e'⟩ := need_ret e'
  cases ret_inj e'
  have hQ : ∀ (h' : Heap) (t : Tok) (tk : Nat), (∀ b o, s.heap.get? b = some o → h'.get? b = some o) → EP X pins σ Q (.str p.shown t) { s with heap := h', toks := tk } := fun h' t tk hk =>
    ⟨.str p.shown, H, I.kept hk, ⟨t, rfl⟩, h W H _ (Ext.refl _ _) S (.d (.str _))⟩
  have hsz := SL_le h4
  have dv := rp.dv S
  have ref : ∀ a, u = .ref a → wpAny (model X.prog X.w) X.A (call (.builtin "repr") [u]) (EP X pins σ Q) X.xe s := fun a ea => by
    subst ea
    exact repr_dv I p dv ru h1 hsz hg (by omega) hQ
  cases p with
  | none => 
    obtain rfl := rp.non
    cases ru
    exact PySem.P.repr_of_none (hQ s.heap _ _ fun _ _ e => e)
  | bool k =>
    obtain rfl := rp.bl
    cases ru
    exact PySem.P.repr_of_bool (hQ s.heap _ _ fun _ _ e => e)
  | int i =>
    obtain rfl := rp.int
    obtain ⟨t, rfl⟩ := ru
    exact PySem.P.repr_of_int (by simpa [PyData.showable] using h1) (hQ s.heap _ _ fun _ _ e => e)
  | str y =>
    obtain rfl := rp.str
    obtain ⟨t, rfl⟩ := ru
    exact PySem.P.repr_of_str (hQ s.heap _ _ fun _ _ e => e) hsz
  | list xs =>
    obtain ⟨a, vs, rfl, _⟩ := rp.list S
    exact ref a ru
  | tuple xs =>
    obtain ⟨a, vs, rfl, _⟩ := rp.tup S
    exact ref a ru
  | dict kvs =>
    cases kvs with
    | nil =>
      obtain ⟨a, rfl, _⟩ := rp.d0 S
      exact ref a ru
    | cons _ _ => exact nomatch dv
def rM1 (K : PySem.W.Frag) (out : Out) (f : PyData → PyData → T PyData) : V → List V → Hp → VK → Prop := fun x vs H Q => ∃ y, vs = [y] ∧ rO2 K out f x y H Q
/-- for lists alone, for tuples alone -/
def lOnly (f : PyData → PyData → T PyData) : PyData → PyData → T PyData
  | .list xs, q => f (.list xs) q
  | _, _ => T.stuck
def tOnly (f : PyData → PyData → T PyData) : PyData → PyData → T PyData
  | .tuple xs, q => f (.tuple xs) q
  | _, _ => T.stuck
theorem mtS_index (hu : X.A.units + 65 < cLine) : MtR X "list.index" (rM1 X.K (outV X.K) (lOnly (o2 .index))) := by
  intro pins s σ H x vs v us Q I rx rvs ⟨y, ey, W, b, p, q, r, S, rp, rq, e, h⟩
  subst ey
  cases p with
  | list xs =>
    obtain ⟨z, e1, e⟩ := bind_ret_inv e
    cases ret_inj e
    obtain ⟨⟨s1, s2⟩, e1⟩ := need_ret e1
    have e2 : (List.findIdx? (fun z => PyData.eqv z q) xs) = some z := by
      cases hf : List.findIdx? (fun z => PyData.eqv z q) xs with
      | none => rw [hf] at e1; cases e1
      | some k => rw [hf] at e1; cases ret_inj e1; rfl
    rw [List.findIdx?_eq_some_iff_getElem] at e2
    obtain ⟨hl, hz, hno⟩ := e2
    obtain ⟨a, vs', rfl, ea, za, qa⟩ := rp.list S
    refine mt_indexD hu pins s σ H _ _ v us Q I rx rvs ⟨a, y, q, xs, z, xs[z], rfl, rfl, rp.dp S (SeqAt.canLay_of_shaped s2), rq.dp S (SeqAt.canLay_of_shaped s1), s2, s1, List.getElem?_eq_getElem hl, hz, fun m z' hm hz' => ?_, h W H _ (Ext.refl _ _) S (.d (.int _))⟩
    have hm' : m < xs.length := by omega
    rw [List.getElem?_eq_getElem hm'] at hz'
    cases hz'
    have := hno m hm
    simpa using this
  | _ => cases e
/-- t.index(x): the first place of an equal one -/
def rIndexT (K : PySem.W.Frag) : V → List V → Hp → VK → Prop := fun x xs H Q => ∃ (a : Addr) (y : V) (ys : List V) (d : PyData) (ds : List PyData) (j : Nat) (z : PyData), x = V.ref a ∧ xs = [y] ∧ SqT K H a ys ∧ DpAll K H ys ds ∧ Dp K H y d ∧
  SeqAt.shaped (.list ds) = true ∧ SeqAt.shaped d = true ∧ ds[j]? = some z ∧ PyData.eqv z d = true ∧ (∀ (m : Nat) (z' : PyData), m < j → ds[m]? = some z' → PyData.eqv z' d = false) ∧ Q (.int (j : Nat)) H
theorem mt_indexT (hu : X.A.units + 65 < cLine) : MtR X "tuple.index" (rIndexT X.K) := by
  intro pins s σ H x xs v us Q I rx rxs h
  obtain ⟨a, y, ys, d, ds, j, z, rfl, rfl, hs, ha, hy, sl, sd, hz, hzj, hno, q⟩ := h
  cases rx
  cases rxs with
  | cons ry rt =>
    rename_i uy ut
    cases rt
    obtain ⟨bs, r1⟩ := Dp.reads I d y uy hy ry
    have hxs : PyData.canLayAll0 ds = true := SeqAt.canLay_of_shaped sl
    have hroom : X.A.units + 1 + min (PyData.depthAll ds) d.depth < cLine := room_in_shaped sd hu
    obtain ⟨its, rv, ⟨⟨cls, dd, data, sls⟩, ho, hc, n, hdt⟩, hlen⟩ := I.tuple hs
    simp only at hc hdt
    subst hc hdt
    obtain ⟨as, h4⟩ := Dp.readsAll I ds _ its ha rv
    have hn : its.length = ds.length := SeqAt.ReadsAll.length ds its as h4
    have hmap : its.map (SeqAt.readOf s.heap) = ds := SeqAt.readsAll_map ds its as hxs h4
    obtain ⟨hjd, _⟩ := List.getElem?_eq_some_iff.mp hz
    have hjl : j < its.length := by omega
    have hj : j < its.toArray.size := by simpa using hjl
    have at_ : ∀ (m : Nat) (hm : m < its.toArray.size) (z' : PyData), ds[m]? = some z' → SeqAt.readOf s.heap its.toArray[m] = z' := by
      intro m hm z' hz'
      have hml : m < its.length := by simpa using hm
      rw [← hmap, List.getElem?_map, List.getElem?_eq_getElem hml] at hz'
      have e1 : SeqAt.readOf s.heap its[m] = z' := Option.some.inj (show some (SeqAt.readOf s.heap its[m]) = some z' from hz')
      simpa using e1
    refine call_meets PySem.F.slot_tuple_index ⟨_, ho, rfl⟩ PySem.F.entry_tuple_index (PySem.F.args_tuple_index_2 _ _)
      (TI.tuple_indexAt a its.toArray n dd sls uy (fun u => PyData.eqv (SeqAt.readOf s.heap u) d) j hj ?_ ?_) ⟨ho, SeqAt.items_eqAt (vs := its.toArray) (show ReadsAll s.heap its.toArray.toList ds as from h4) r1 hxs (SeqAt.canLay_of_shaped sd) hroom, ?_⟩
    · show PyData.eqv (SeqAt.readOf s.heap its.toArray[j]) d = true
      rw [at_ j hj z hz]
      exact hzj
    · intro m hm hmj
      have hmd : m < ds.length := by omega
      have hz' : ds[m]? = some ds[m] := List.getElem?_eq_getElem hmd
      show PyData.eqv (SeqAt.readOf s.heap its.toArray[m]) d = false
      rw [at_ m hm _ hz']
      exact hno m _ hmj hz'
    · exact ⟨.int (j : Nat), H, I.tok _, ⟨_, rfl⟩, q⟩
theorem mtS_indexT (hu : X.A.units + 65 < cLine) : MtR X "tuple.index" (rM1 X.K (outV X.K) (tOnly (o2 .index))) := by
  intro pins s σ H x vs v us Q I rx rvs ⟨y, ey, W, b, p, q, r, S, rp, rq, e, h⟩
  subst ey
  cases p with
  | tuple xs =>
    have e : o2 .index (.tuple xs) q = T.ret r := e
    obtain ⟨z, e1, e⟩ := bind_ret_inv e
    cases ret_inj e
    obtain ⟨⟨s1, s2⟩, e1⟩ := need_ret e1
    have e2 : (List.findIdx? (fun z => PyData.eqv z q) xs) = some z := by
      cases hf : List.findIdx? (fun z => PyData.eqv z q) xs with
      | none => rw [hf] at e1; cases e1
      | some k => rw [hf] at e1; cases ret_inj e1; rfl
    rw [List.findIdx?_eq_some_iff_getElem] at e2
    obtain ⟨hl, hz, hno⟩ := e2
    obtain ⟨a, vs', rfl, ea, ef, za, qa⟩ := rp.tup S
    refine mt_indexT hu pins s σ H _ _ v us Q I rx rvs ⟨a, y, vs', q, xs, z, xs[z], rfl, rfl, ea, DvAll.dp xs (SeqAt.canLay_of_shaped s2) (DvAll.le S.f _ qa), rq.dp S (SeqAt.canLay_of_shaped s1), s2, s1, List.getElem?_eq_getElem hl, hz, fun m z' hm hz' => ?_, h W H _ (Ext.refl _ _) S (.d (.int _))⟩
    have hm' : m < xs.length := by omega
    rw [List.getElem?_eq_getElem hm'] at hz'
    cases hz'
    have := hno m hm
    simpa using this
  | _ => cases e
def tBML (K : PySem.W.Frag) (r1 r2 : V → List V → Hp → VK → Prop) (to : TE) (t : TA) : TE := fun σ H Q => to σ H fun x H1 => (tyV K "list" x H1 ∧ t σ H1 fun xs H2 => r1 x xs H2 Q) ∨ ((∃ p xs, x = .ref p ∧ SqT K H1 p xs ∧ NoD K H1 p) ∧ t σ H1 fun xs H2 => r2 x xs H2 Q)
theorem pe_bml {o e : Expr} {es : List Expr} {to : TE} {t : TA} {name : Str} {apos cpos : Pos} {id1 id2 : String} {r1 r2 : V → List V → Hp → VK → Prop} (pa1 : PlainAttrs "list") (slot1 : PySem.Slot "list" name id1) (hty1 : typeOf (.builtin id1) = pure (.type "method_descriptor")) (hm1 : MtR X id1 r1)
    (pa2 : PlainAttrs "tuple") (slot2 : PySem.Slot "tuple" name id2) (hty2 : typeOf (.builtin id2) = pure (.type "method_descriptor")) (hm2 : MtR X id2 r2) (ho : PE X o to) (ha : PA X (e :: es) t)
    (hbase : attributeBase o name X.env (eval o X.env) = eval o X.env)
    (hfew : ((backTo cpos (starEach (e :: es) X.env)).all (fun x => !x.1) && (backToKw cpos (keywordEach [] X.env)).all (fun x => x.1.isSome)
      && decide ((e :: es).length + ([] : List Keyword).length + (if ([] : List Keyword).isEmpty then 0 else 1) < 30)) = true)
    (hline : (apos.endLine == cpos.line) = true) (hs : starEach (e :: es) X.env = (false, eval e X.env) :: starEach es X.env) (hplain : (backTo cpos (starEach es X.env)).any (·.1) = false) :
    PE X (.Call (.Attribute o name apos) (e :: es) [] cpos) (tBML X.K r1 r2 to t) := by
  refine ⟨fun pins s σ H Q I h => ?_⟩
  refine wpAny_Call_method_late hbase hfew hline rfl (thn (ho.run pins s σ H _ I h) fun v s1 ⟨x, H1, I1, r1', q1⟩ => ?_)
  rcases q1 with ⟨ty, q1⟩ | ⟨⟨p, xs, rfl, hT, hN⟩, q1⟩
  · obtain ⟨h1, h2⟩ := tyV_is I1 r1' ty
    refine ⟨"list", id1, pa1, slot1, hty1, h1, h2, ?_⟩
    have hA := ha.run cpos pins s1 σ H1 _ I1 q1
    rw [hs] at hA ⊢
    refine Calls.callWith_builtin (by show (false || (backTo cpos (starEach es X.env)).any (·.1)) = false; rw [hplain] <;> rfl) (Calls.evalArgs_plain ?_)
    exact thn hA fun us s2 ⟨vs, H2, I2, r2, q2⟩ => hm1 pins s2 σ H2 x vs v us Q I2 r1' r2 q2
  · cases r1'
    obtain ⟨its, rv, pl, hz⟩ := I1.tuple hT
    obtain ⟨ob, eo, hc, n, hd⟩ := id pl
    have h1 : s1.TypeIs (.ref p) "tuple" := ⟨ob, eo, hc⟩
    have h2 : ∀ a, Value.ref p = .ref a → ∃ ob, s1.heap.get? a = some ob ∧ ob.dict = none := fun a e => by
      cases e
      rcases hN with ⟨o, u, e, d⟩ | ⟨o, e, d⟩
      · exact ⟨o, (I1.hok _ _ e).1, d⟩
      · exact ⟨o, I1.kIn _ o e, d⟩
    refine ⟨"tuple", id2, pa2, slot2, hty2, h1, h2, ?_⟩
    have hA := ha.run cpos pins s1 σ H1 _ I1 q1
    rw [hs] at hA ⊢
    refine Calls.callWith_builtin (by show (false || (backTo cpos (starEach es X.env)).any (·.1)) = false; rw [hplain] <;> rfl) (Calls.evalArgs_plain ?_)
    exact thn hA fun us s2 ⟨vs, H2, I2, r2, q2⟩ => hm2 pins s2 σ H2 (.ref p) vs (.ref p) us Q I2 rfl r2 q2
end
end Mp
namespace Mp
open PySem PySem.Spec PyProof.Rows L2
open Mp.T (Wc)

inductive Rows (K : PySem.W.Frag) (W : Wd) (H : Hp) : List Addr → List (List PyData) → Prop
  | nil : Rows K W H [] []
  | cons {a : Addr} {as : List Addr} {vs : List V} {xs : List PyData} {xss : List (List PyData)} : H a = some (.lst vs) → vs.length ≤ sizeLine → DvAll K W.F vs xs → Rows K W H as xss → Rows K W H (a :: as) (xs :: xss)
inductive SlotR (K : PySem.W.Frag) (W : Wd) (H : Hp) : Slot → Option (Option V) → List Addr → Prop
  | un {o : Option (Option V)} : SlotR K W H .un o []
  | v {x : PV} {v : V} : RV K W x v → SlotR K W H (.v x) (some (some v)) []
  | own {a : Addr} {vs : List V} {xs : List PyData} : H a = some (.lst vs) → vs.length ≤ sizeLine → DvAll K W.F vs xs → SlotR K W H (.own xs) (some (some (.ref a))) [a]
  | own2 {a : Addr} {as : List Addr} {xss : List (List PyData)} : H a = some (.lst (as.map V.ref)) → as.length ≤ sizeLine → Rows K W H as xss → SlotR K W H (.own2 xss) (some (some (.ref a))) (a :: as)
/-- a list of the frame's own: nothing else knows it -/
def Mine (W : Wd) (H0 : Hp) (a : Addr) : Prop := W.F a = none ∧ H0 a = none ∧ ¬ W.isG a
structure ER (K : PySem.W.Frag) (H0 : Hp) (W : Wd) (σ : L2.St) (H : Hp) (env : Ev) : Prop where
  len : σ.length = env.length
  ex : ∃ fp : Nat → List Addr, (∀ i, SlotR K W H (env.at i) σ[i]? (fp i)) ∧ (∀ i a, a ∈ fp i → Mine W H0 a) ∧ (∀ i, (fp i).Nodup) ∧ ∀ i j a, a ∈ fp i → a ∈ fp j → i = j

abbrev Sg := L2.St
def updF (fp : Nat → List Addr) (i : Nat) (f : List Addr) : Nat → List Addr := fun j => if j = i then f else fp j
theorem updF_same {fp : Nat → List Addr} {i : Nat} {f : List Addr} : updF fp i f i = f := if_pos rfl
theorem updF_ne {fp : Nat → List Addr} {i j : Nat} {f : List Addr} (h : j ≠ i) : updF fp i f j = fp j := if_neg h
theorem at_set : ∀ (env : Ev) (i j : Nat) (s : Slot), Ev.at (env.set i s) j = if j = i ∧ i < env.length then s else Ev.at env j
  | [], i, j, s => by simp [Ev.at]
  | x :: r, 0, 0, s => by simp
  | x :: r, 0, j + 1, s => by simp
  | x :: r, i + 1, 0, s => by simp
  | x :: r, i + 1, j + 1, s => by
    rw [List.set_cons_succ, at_succ, at_set r i j s, at_succ]
    simp
theorem at_out : ∀ (env : Ev) (i : Nat), env.length ≤ i → Ev.at env i = .un
  | [], _, _ => rfl
  | x :: r, 0, h => by simp at h
  | x :: r, i + 1, h => at_out r i (by simpa using h)
theorem at_map (f : Slot → Slot) (hf : f .un = .un) : ∀ (env : Ev) (i : Nat), Ev.at (env.map f) i = f (Ev.at env i)
  | [], _ => hf.symm
  | x :: r, 0 => rfl
  | x :: r, i + 1 => at_map f hf r i

section
variable {K : PySem.W.Frag} {H0 : Hp} {W W1 W' : Wd} {σ : L2.St} {H H1 H' : Hp} {env : Ev} {b : Nat}
theorem Rows.ext (h : Ext W H W1 H1) : ∀ {as : List Addr} {xss : List (List PyData)}, (∀ a ∈ as, ¬ W.isG a) → Rows K W H as xss → Rows K W1 H1 as xss
  | _, _, _, .nil => .nil
  | _, _, n, .cons e z q r => .cons (h.keep e (n _ List.mem_cons_self)).1 z (q.le h.le.f) (Rows.ext h (fun a ha => n a (List.mem_cons_of_mem _ ha)) r)
theorem Rows.alive : ∀ {as : List Addr} {xss : List (List PyData)}, Rows K W H as xss → ∀ a ∈ as, ∃ o, H a = some o
  | _, _, .nil, _, h => by cases h
  | _, _, .cons e z q r, a, h => by
    rcases List.mem_cons.mp h with rfl | h
    · exact ⟨_, e⟩
    · exact Rows.alive r a h
theorem Rows.length : ∀ {as : List Addr} {xss : List (List PyData)}, Rows K W H as xss → as.length = xss.length
  | _, _, .nil => rfl
  | _, _, .cons _ _ _ r => by rw [List.length_cons, List.length_cons, Rows.length r]
theorem Rows.get : ∀ {as : List Addr} {xss : List (List PyData)} {i : Nat} {xs : List PyData}, Rows K W H as xss → xss[i]? = some xs → ∃ a vs, as[i]? = some a ∧ H a = some (.lst vs) ∧ vs.length ≤ sizeLine ∧ DvAll K W.F vs xs
  | _, _, _, _, .nil, h => by simp at h
  | _, _, 0, _, .cons e z q r, h => by
    simp at h
    subst h
    exact ⟨_, _, rfl, e, z, q⟩
  | _, _, i + 1, _, .cons e z q r, h => by
    obtain ⟨a, vs, h1, h2⟩ := Rows.get (i := i) r (by simpa using h)
    exact ⟨a, vs, by simpa using h1, h2⟩
theorem SlotR.ext {s : Slot} {o : Option (Option V)} {f : List Addr} (h : Ext W H W1 H1) (n : ∀ a ∈ f, ¬ W.isG a) (r : SlotR K W H s o f) : SlotR K W1 H1 s o f := by
  cases r with
  | un => exact .un
  | v q => exact .v (q.le h.le)
  | own e z q => exact .own (h.keep e (n _ List.mem_cons_self)).1 z (q.le h.le.f)
  | own2 e z q => exact .own2 (h.keep e (n _ List.mem_cons_self)).1 z (q.ext h fun a ha => n a (List.mem_cons_of_mem _ ha))
theorem SlotR.alive {s : Slot} {o : Option (Option V)} {f : List Addr} (r : SlotR K W H s o f) : ∀ a ∈ f, ∃ o, H a = some o := by
  cases r with
  | un => exact fun a h => by cases h
  | v q => exact fun a h => by cases h
  | own e z q =>
    intro a h
    rcases List.mem_cons.mp h with rfl | h
    · exact ⟨_, e⟩
    · cases h
  | own2 e z q =>
    intro a h
    rcases List.mem_cons.mp h with rfl | h
    · exact ⟨_, e⟩
    · exact q.alive a h
theorem refs_inj : ∀ {x y : List Addr}, x.map V.ref = y.map V.ref → x = y
  | [], [], _ => rfl
  | [], _ :: _, h => by cases h
  | _ :: _, [], h => by cases h
  | p :: t, p' :: t', h => by
    injection h with z1 z2
    injection z1 with z1
    rw [z1, refs_inj z2]
theorem SlotR.fp_uniq {K : PySem.W.Frag} {W W' : Wd} {H : Hp} {s : Slot} {o : Option (Option V)} {f g : List Addr} (r : SlotR K W H s o f) (q : SlotR K W' H s o g) : f = g := by
  cases r with
  | un => cases q; rfl
  | v _ => cases q; rfl
  | own _ _ _ => cases q; rfl
  | own2 e1 _ _ =>
    cases q with
    | own2 e2 _ _ =>
      rw [e1] at e2
      injection e2 with e2
      injection e2 with e2
      rw [refs_inj e2]
/-- frames stay as the rest goes on -/
theorem ER.ext (h : Ext W H W1 H1) (r : ER K H0 W σ H env) : ER K H0 W1 σ H1 env := by
  obtain ⟨hl, fp, h1, h2, h3, h4⟩ := r
  refine ⟨hl, fp, fun i => (h1 i).ext h fun a ha => (h2 i a ha).2.2, fun i a ha => ?_, h3, h4⟩
  obtain ⟨m1, m2, m3⟩ := h2 i a ha
  obtain ⟨o, e⟩ := (h1 i).alive a ha
  exact ⟨h.unf e m1, m2, (h.keep e m3).2⟩
theorem ER.slot (r : ER K H0 W σ H env) (i : Nat) : ∃ f, SlotR K W H (env.at i) σ[i]? f ∧ ∀ a ∈ f, Mine W H0 a := by
  obtain ⟨hl, fp, h1, h2, h3, h4⟩ := r
  exact ⟨fp i, h1 i, h2 i⟩
/-- another slot at i -/
theorem ER.put {i : Nat} {s : Slot} {o : Option V} {f : List Addr} (r : ER K H0 W σ H env) (hi : i < env.length) (hs : SlotR K W H s (some o) f) (hm : ∀ a ∈ f, Mine W H0 a) (hn : f.Nodup)
    (hd : ∀ a ∈ f, ∀ j g, j ≠ i → SlotR K W H (env.at j) σ[j]? g → (∀ c ∈ g, Mine W H0 c) → a ∉ g) : ER K H0 W (σ.set i o) H (env.set i s) := by
  obtain ⟨hl, fp, h1, h2, h3, h4⟩ := r
  refine ⟨by rw [List.length_set, List.length_set]; exact hl, updF fp i f, fun j => ?_, fun j a ha => ?_, fun j => ?_, fun j k a ha hk => ?_⟩
  · by_cases hj : j = i
    · subst hj
      rw [updF_same, at_set, if_pos ⟨rfl, hi⟩, List.getElem?_set_self (by omega)]
      exact hs
    · rw [updF_ne hj, at_set, if_neg (fun z => hj z.1), List.getElem?_set_ne (Ne.symm hj)]
      exact h1 j
  · by_cases hj : j = i
    · rw [hj, updF_same] at ha
      exact hm a ha
    · rw [updF_ne hj] at ha
      exact h2 j a ha
  · by_cases hj : j = i
    · rw [hj, updF_same]
      exact hn
    · rw [updF_ne hj]
      exact h3 j
  · by_cases hj : j = i
    · by_cases hk' : k = i
      · rw [hj, hk']
      · rw [hj, updF_same] at ha
        rw [updF_ne hk'] at hk
        exact absurd hk (hd a ha k _ hk' (h1 k) (h2 k))
    · by_cases hk' : k = i
      · rw [updF_ne hj] at ha
        rw [hk', updF_same] at hk
        exact absurd ha (hd a hk j _ hj (h1 j) (h2 j))
      · rw [updF_ne hj] at ha
        rw [updF_ne hk'] at hk
        exact h4 j k a ha hk
theorem ER.putV {i : Nat} {x : PV} {v : V} (r : ER K H0 W σ H env) (hi : i < env.length) (h : RV K W x v) : ER K H0 W (σ.set i (some v)) H (env.set i (.v x)) :=
  r.put hi (.v h) (fun _ h => by cases h) .nil (fun _ h => by cases h)
theorem ER.putU {i : Nat} {o : Option V} (r : ER K H0 W σ H env) (hi : i < env.length) : ER K H0 W (σ.set i o) H (env.set i .un) :=
  r.put hi .un (fun _ h => by cases h) .nil (fun _ h => by cases h)
/-- forgetting alone -/
theorem ER.forget {i : Nat} (r : ER K H0 W σ H env) : ER K H0 W σ H (env.set i .un) := by
  obtain ⟨hl, fp, h1, h2, h3, h4⟩ := r
  refine ⟨by rw [List.length_set]; exact hl, updF fp i [], fun j => ?_, fun j a ha => ?_, fun j => ?_, fun j k a ha hk => ?_⟩
  · by_cases hj : j = i
    · rw [hj, updF_same, at_set]
      split
      · exact .un
      · rename_i hh
        rw [at_out env i (by have hn : ¬ (i < env.length) := fun z => hh ⟨rfl, z⟩; omega)]
        exact .un
    · rw [updF_ne hj, at_set, if_neg (fun z => hj z.1)]
      exact h1 j
  · by_cases hj : j = i
    · rw [hj, updF_same] at ha
      cases ha
    · rw [updF_ne hj] at ha
      exact h2 j a ha
  · by_cases hj : j = i
    · rw [hj, updF_same]
      exact .nil
    · rw [updF_ne hj]
      exact h3 j
  · by_cases hj : j = i
    · rw [hj, updF_same] at ha
      cases ha
    · by_cases hk' : k = i
      · rw [hk', updF_same] at hk
        cases hk
      · rw [updF_ne hj] at ha
        rw [updF_ne hk'] at hk
        exact h4 j k a ha hk
/-- a list just made goes to slot i -/
theorem ER.putN {W0 : Wd} {i : Nat} {a : Addr} {vs : List V} {xs : List PyData} (X0 : Ext W0 H0 W H) (S : SR K W b H) (r : ER K H0 W σ H env) (hi : i < env.length) (h : Ext W H W1 H1) (n : H a = none) (e : H1 a = some (.lst vs)) (nf : W1.F a = none) (ng : ¬ W1.isG a) (z : vs.length ≤ sizeLine) (q : DvAll K W1.F vs xs) :
    ER K H0 W1 (σ.set i (some (.ref a))) H1 (env.set i (.own xs)) := by
  have n0 : H0 a = none := by
    cases e0 : H0 a with
    | none => rfl
    | some o =>
      have := X0.same a o e0 (S.notG n)
      rw [n] at this
      cases this
  refine (r.ext h).put hi (.own e z q) (fun c hc => ?_) (by simp) (fun c hc j g hj hs hm => ?_)
  · have : c = a := by simpa using hc
    subst this
    exact ⟨nf, n0, ng⟩
  · have : c = a := by simpa using hc
    subst this
    intro hg
    obtain ⟨g', s', m'⟩ := r.slot j
    have s2 := s'.ext h fun d hd => (m' d hd).2.2
    have eg : g = g' := SlotR.fp_uniq hs s2
    rw [eg] at hg
    obtain ⟨o, e'⟩ := s'.alive c hg
    rw [n] at e'
    cases e'
end
end Mp
namespace Mp
open PySem PySem.Spec PyProof.Rows L2
open Mp.T (Wc)

/-- what is fixed while a def runs: the written part, its start, how exceptions lie, what is wished of them -/
structure Ga where
  K : PySem.W.Frag
  W0 : Wd
  H0 : Hp
  xr : Wd → Hp → Ex → Value → Option Addr → Prop
  wx : WX
abbrev Rel (α β : Type) := Wd → Hp → Wd → Hp → α → β → Prop
section
variable {α β γ δ : Type}
def postQ (Γ : Ga) (rel : Rel α β) (W : Wd) (H : Hp) (Q : β → Hp → Prop) : Nat → α → Prop := fun b' a => ∀ W' H' v, Ext W H W' H' → SR Γ.K W' b' H' → rel W H W' H' a v → Q v H'
def postE (Γ : Ga) (σ : L2.St) (W : Wd) (H : Hp) : Nat → Ex → Prop := fun b' e => ∀ W' H' cls d, Ext W H W' H' → SR Γ.K W' b' H' → Γ.xr W' H' e cls d → Γ.wx cls d σ H'
/-- the reading of a computation at a frame -/
def TD (Γ : Ga) (rel : Rel α β) (t : Ev → T α) (σ : L2.St) (H : Hp) (Q : β → Hp → Prop) : Prop :=
  ∃ W b env, SR Γ.K W b H ∧ Ext Γ.W0 Γ.H0 W H ∧ ER Γ.K Γ.H0 W σ H env ∧ Wc (postQ Γ rel W H Q) (postE Γ σ W H) b (t env)
/-- a later start serves, too -/
def Mono (rel : Rel α β) : Prop := ∀ W H W1 H1 W' H' a v, Ext W H W1 H1 → Ext W1 H1 W' H' → rel W1 H1 W' H' a v → rel W H W' H' a v
theorem postQ.later {Γ : Ga} {rel : Rel α β} {W W1 : Wd} {H H1 : Hp} {Q : β → Hp → Prop} (m : Mono rel) (e : Ext W H W1 H1) {b : Nat} {a : α} (h : postQ Γ rel W H Q b a) : postQ Γ rel W1 H1 Q b a :=
  fun W' H' v e' S' r => h W' H' v (e.trans e' S') S' (m _ _ _ _ _ _ _ _ e e' r)
theorem postE.later {Γ : Ga} {σ : L2.St} {W W1 : Wd} {H H1 : Hp} (e : Ext W H W1 H1) {b : Nat} {x : Ex} (h : postE Γ σ W H b x) : postE Γ σ W1 H1 b x :=
  fun W' H' c d e' S' r => h W' H' c d (e.trans e' S') S' r
theorem Wc.later {Γ : Ga} {rel : Rel α β} {σ : L2.St} {W W1 : Wd} {H H1 : Hp} {Q : β → Hp → Prop} (m : Mono rel) (e : Ext W H W1 H1) {b : Nat} {x : T α} (h : Wc (postQ Γ rel W H Q) (postE Γ σ W H) b x) : Wc (postQ Γ rel W1 H1 Q) (postE Γ σ W1 H1) b x :=
  T.Wc.mono (fun _ _ => postQ.later m e) (fun _ _ => postE.later e) x b h
/-- first t, then what follows of its value -/
theorem TD.bind {Γ : Ga} {rel : Rel α β} {rel' : Rel γ δ} {t : Ev → T α} {f : Ev → α → T γ} {σ : L2.St} {H : Hp} {Q : δ → Hp → Prop} {R : β → Hp → Prop} (m : Mono rel') (h : TD Γ rel' (fun env => t env >>= f env) σ H Q)
    (k : ∀ W b env W1 H1 a v, SR Γ.K W1 b H1 → Ext Γ.W0 Γ.H0 W1 H1 → ER Γ.K Γ.H0 W1 σ H1 env → Ext W H W1 H1 → rel W H W1 H1 a v → Wc (postQ Γ rel' W1 H1 Q) (postE Γ σ W1 H1) b (f env a) → R v H1) : TD Γ rel t σ H R := by
  obtain ⟨W, b, env, S, X0, r, h⟩ := h
  refine ⟨W, b, env, S, X0, r, T.Wc.mono (fun b1 a ha W1 H1 v e1 S1 q => ?_) (fun _ _ z => z) _ _ ((T.Wc_bind _ _).mp h)⟩
  exact k W b1 env W1 H1 a v S1 (X0.trans e1 S1) (r.ext e1) e1 q (Wc.later m e1 ha)
theorem TD.imp {Γ : Ga} {rel : Rel α β} {rel' : Rel α β} {t : Ev → T α} {σ : L2.St} {H : Hp} {Q Q' : β → Hp → Prop} (h : TD Γ rel t σ H Q)
    (k : ∀ W b W' H' a v, Ext W H W' H' → SR Γ.K W' b H' → postQ Γ rel W H Q b a → rel' W H W' H' a v → Q' v H') : TD Γ rel' t σ H Q' := by
  obtain ⟨W, b, env, S, X0, r, h⟩ := h
  exact ⟨W, b, env, S, X0, r, T.Wc.mono (fun b1 a ha W1 H1 v e1 S1 q => k W b1 W1 H1 a v e1 S1 ha q) (fun _ _ z => z) _ _ h⟩
theorem TD.congr {Γ : Ga} {rel : Rel α β} {t t' : Ev → T α} {σ : L2.St} {H : Hp} {Q : β → Hp → Prop} (h : TD Γ rel t σ H Q) (e : ∀ env, t env = t' env) : TD Γ rel t' σ H Q := by
  obtain ⟨W, b, env, S, X0, r, h⟩ := h
  exact ⟨W, b, env, S, X0, r, by rw [← e]; exact h⟩
end

/-- the three modes: known to stand still; a list is new; may be read -/
def mV (K : PySem.W.Frag) : Rel PV V := fun _ _ W' _ x v => RV K W' x v
def mN (K : PySem.W.Frag) : Rel PV V := fun _ H W' H' x v => match x with
  | .d (.list _) => New K H W' H' x v
  | _ => RV K W' x v
def mR (K : PySem.W.Frag) : Rel PV V := fun _ _ W' H' x v => RR K W' H' x v
theorem New.before {K : PySem.W.Frag} {W W1 W' : Wd} {H H1 H' : Hp} {x : PV} {v : V} (e : Ext W H W1 H1) (e' : Ext W1 H1 W' H') (r : New K H1 W' H' x v) : New K H W' H' x v := by
  obtain ⟨a, vs, xs, h1, h2, n, h3, h4, h5, h6⟩ := r
  refine ⟨a, vs, xs, h1, h2, ?_, h3, h4, h5, h6⟩
  cases q : H a with
  | none => rfl
  | some o =>
    have := e.same a o q fun z => h5 (e'.le.isG z)
    rw [n] at this
    cases this
theorem mono_mV {K : PySem.W.Frag} : Mono (mV K) := fun _ _ _ _ _ _ _ _ _ _ r => r
theorem mono_mR {K : PySem.W.Frag} : Mono (mR K) := fun _ _ _ _ _ _ _ _ _ _ r => r
theorem mono_mN {K : PySem.W.Frag} : Mono (mN K) := fun W H W1 H1 W' H' a v e e' r => by
  cases a with
  | d x =>
    cases x with
    | list xs => exact New.before e e' r
    | _ => exact r
  | _ => exact r
section
variable {Γ : Ga} {t : Ev → T PV} {σ : L2.St} {H : Hp} {Q : V → Hp → Prop}
theorem TD.nv (h : TD Γ (mV Γ.K) t σ H Q) : TD Γ (mN Γ.K) t σ H Q := h.imp fun W b W' H' a v e S k r => by
  cases a with
  | d x =>
    cases x with
    | list xs =>
      obtain ⟨W2, e2, S2, r2⟩ := New.rv e S r
      exact k W2 H' v e2 S2 r2
    | _ => exact k W' H' v e S r
  | _ => exact k W' H' v e S r
theorem TD.vr (h : TD Γ (mR Γ.K) t σ H Q) : TD Γ (mV Γ.K) t σ H Q := h.imp fun W b W' H' a v e S k r => k W' H' v e S (.v r)
theorem TD.nr (h : TD Γ (mR Γ.K) t σ H Q) : TD Γ (mN Γ.K) t σ H Q := h.vr.nv
end
theorem _root_.L2.PE.imp {X : Cx} {e : Expr} {t t' : TE} (h : PE X e t') (k : ∀ σ H Q, t σ H Q → t' σ H Q) : PE X e t := ⟨fun pins s σ H Q I q => h.run pins s σ H Q I (k σ H Q q)⟩
theorem _root_.L2.PT.imp {X : Cx} {e : Expr} {t t' : TT} (h : PT X e t') (k : ∀ σ H Q, t σ H Q → t' σ H Q) : PT X e t := ⟨fun pins s σ H Q I q => h.run pins s σ H Q I (k σ H Q q)⟩
theorem _root_.L2.PW.imp {X : Cx} {e : Expr} {t t' : TT} (h : PW X e t') (k : ∀ σ H Q, t σ H Q → t' σ H Q) : PW X e t := ⟨fun wh pins s σ H Q I q => h.run wh pins s σ H Q I (k σ H Q q)⟩
theorem _root_.L2.PA.imp {X : Cx} {e : List Expr} {t t' : TA} (h : PA X e t') (k : ∀ σ H Q, t σ H Q → t' σ H Q) : PA X e t := ⟨fun pos pins s σ H Q I q => h.run pos pins s σ H Q I (k σ H Q q)⟩
theorem _root_.L2.PS.imp {X : Cx} {e : Stmt} {t t' : TS} (h : PS X e t') (k : ∀ D σ H, t D σ H → t' D σ H) : PS X e t := ⟨fun pins s σ H D I q => h.run pins s σ H D I (k D σ H q)⟩
theorem _root_.L2.PSs.imp {X : Cx} {e : List Stmt} {t t' : TS} (h : PSs X e t') (k : ∀ D σ H, t D σ H → t' D σ H) : PSs X e t := ⟨fun pins s σ H D I q => h.run pins s σ H D I (k D σ H q)⟩

/-- neither raises nor draws -/
def Plain {α : Type} (x : T α) : Prop := (∃ a, x = T.ret a) ∨ x = T.stuck
theorem plain_ret {α : Type} (a : α) : Plain (T.ret a) := .inl ⟨a, rfl⟩
theorem plain_stuck {α : Type} : Plain (T.stuck : T α) := .inr rfl
theorem plain_bind {α β : Type} {x : T α} {f : α → T β} (h : Plain x) (k : ∀ a, Plain (f a)) : Plain (x >>= f) := by
  rcases h with ⟨a, rfl⟩ | rfl
  · exact k a
  · exact plain_stuck
theorem plain_need {p : Prop} [Decidable p] : Plain (need p) := by
  unfold need
  split
  · exact plain_ret _
  · exact plain_stuck
theorem plain_opt {α : Type} {x : Option α} : Plain (opt x) := by
  cases x with
  | none => exact plain_stuck
  | some a => exact plain_ret a
theorem Wc_plain {α β : Type} {Q : Nat → β → Prop} {E : Nat → Ex → Prop} {x : T α} {f : α → T β} {b : Nat} (p : Plain x) (h : Wc Q E b (x >>= f)) : ∃ a, x = T.ret a ∧ Wc Q E b (f a) := by
  rcases p with ⟨a, rfl⟩ | rfl
  · exact ⟨a, rfl, h⟩
  · exact h.elim
theorem plain_asD {x : PV} : Plain (asD x) := by cases x <;> first | exact plain_ret _ | exact plain_stuck
theorem asD_ret {x : PV} {y : PyData} (h : asD x = T.ret y) : x = .d y := by
  cases x with
  | d z => cases h; rfl
  | _ => cases h
theorem plain_asDs : ∀ {xs : List PV}, Plain (asDs xs)
  | [] => plain_ret _
  | _ :: _ => plain_bind plain_asD fun _ => plain_bind plain_asDs fun _ => plain_ret _
theorem asDs_ret : ∀ {xs : List PV} {ys : List PyData}, asDs xs = T.ret ys → xs = ys.map PV.d
  | [], ys, h => by cases h; rfl
  | x :: xs, ys, h => by
    rw [asDs] at h
    cases x with
    | d z =>
      have h : (asDs xs >>= fun ds => T.ret (z :: ds)) = T.ret ys := h
      rcases plain_asDs (xs := xs) with ⟨a, e⟩ | e
      · rw [e] at h
        cases h
        rw [asDs_ret e]
        rfl
      · rw [e] at h
        cases h
    | rng => cases h
    | scr => cases h
    | exc _ _ => cases h
theorem plain_argsF {fd : FD} {vs : List PV} : Plain (argsF fd vs) := by
  unfold argsF
  split
  · exact plain_bind plain_need fun _ => plain_bind plain_asDs fun _ => plain_bind plain_need fun _ => plain_ret _
  · exact plain_bind plain_need fun _ => plain_ret _
theorem plain_asInt {x : PyData} : Plain (asInt x) := by cases x <;> first | exact plain_ret _ | exact plain_stuck
theorem asInt_ret {x : PyData} {y : Int} (h : asInt x = T.ret y) : x = .int y := by
  cases x with
  | int z => cases h; rfl
  | _ => cases h
theorem plain_asBool {x : PyData} : Plain (asBool x) := by cases x <;> first | exact plain_ret _ | exact plain_stuck
theorem asBool_ret {x : PyData} {y : Bool} (h : asBool x = T.ret y) : x = .bool y := by
  cases x with
  | bool z => cases h; rfl
  | _ => cases h
theorem plain_asSeq {x : PyData} : Plain (asSeq x) := by cases x <;> first | exact plain_ret _ | exact plain_stuck
theorem plain_asList {x : PyData} : Plain (asList x) := by cases x <;> first | exact plain_ret _ | exact plain_stuck
theorem asList_ret {x : PyData} {y : List PyData} (h : asList x = T.ret y) : x = .list y := by
  cases x with
  | list z => cases h; rfl
  | _ => cases h
theorem plain_eqD {a b : PyData} : Plain (eqD a b) := by
  unfold eqD
  split
  · exact plain_ret _
  · exact plain_bind plain_need fun _ => plain_ret _
theorem plain_inD {a : PyData} {b : List PyData} : Plain (inD a b) := plain_bind plain_need fun _ => plain_ret _
theorem plain_indexD {a : PyData} {b : List PyData} : Plain (indexD a b) := plain_bind plain_need fun _ => plain_opt
theorem plain_countD {a : PyData} {b : List PyData} : Plain (countD a b) := plain_bind plain_need fun _ => plain_ret _
theorem plain_ltD {a b : PyData} : Plain (ltD a b) := by
  unfold ltD
  split <;> first | exact plain_ret _ | exact plain_bind plain_opt (fun _ => plain_bind plain_opt fun _ => plain_ret _) | exact plain_stuck
theorem plain_leD {a b : PyData} : Plain (leD a b) := by
  unfold leD
  split <;> first | exact plain_ret _ | exact plain_stuck
theorem plain_seqAt {a : List PyData} {i : Int} : Plain (seqAt a i) := by
  unfold seqAt
  split
  · split
    · exact plain_ret _
    · exact plain_stuck
  · exact plain_stuck
theorem plain_o2 {op : O2} {a b : PyData} : Plain (o2 op a b) := by
  unfold o2
  split <;> first
    | exact plain_ret _
    | exact plain_stuck
    | exact plain_seqAt
    | exact plain_bind plain_need fun _ => plain_ret _
    | exact plain_bind plain_eqD fun _ => plain_ret _
    | exact plain_bind plain_inD fun _ => plain_ret _
    | exact plain_bind plain_indexD fun _ => plain_ret _
    | exact plain_bind plain_countD fun _ => plain_ret _
    | exact plain_bind plain_ltD fun _ => plain_ret _
    | exact plain_bind plain_leD fun _ => plain_ret _
theorem plain_sortD {a : List PyData} : Plain (sortD a) := by
  unfold sortD
  split
  · exact plain_ret _
  · exact plain_stuck
theorem plain_o1 {op : O1} {a : PyData} : Plain (o1 op a) := by
  unfold o1
  split <;> first
    | exact plain_ret _
    | exact plain_stuck
    | exact plain_bind plain_sortD fun _ => plain_ret _
    | exact plain_bind plain_need fun _ => plain_ret _
    | exact plain_bind plain_opt fun _ => plain_ret _
    | exact plain_bind plain_opt fun _ => plain_bind plain_need fun _ => plain_ret _
theorem plain_sliceD {lo hi : Option Int} {a : PyData} : Plain (sliceD lo hi a) := by
  unfold sliceD
  split <;> first | exact plain_ret _ | exact plain_stuck

section
variable {Γ : Ga} {X : Cx} {σ : L2.St} {H : Hp} {Q : V → Hp → Prop}
/-- what an operator's end is in the mode of its out -/
def mO (K : PySem.W.Frag) (out : Out) : Rel PV V := fun _ H W' H' x v => match x with
  | .d r => out H W' H' r v
  | _ => False
theorem mO_V {K : PySem.W.Frag} {t : Ev → T PV} (hK : Γ.K = K) (h : TD Γ (mV Γ.K) t σ H Q) : TD Γ (mO K (outV K)) t σ H Q := by
  subst hK
  exact h.imp fun W b W' H' a v e S k r => by
    cases a with
    | d x => exact k W' H' v e S r
    | _ => exact r.elim
theorem mO_N {K : PySem.W.Frag} {t : Ev → T PV} (hK : Γ.K = K) (h : TD Γ (mN Γ.K) t σ H Q) : TD Γ (mO K (outN K)) t σ H Q := by
  subst hK
  exact h.imp fun W b W' H' a v e S k r => by
    cases a with
    | d x => exact k W' H' v e S (by cases x <;> exact r)
    | _ => exact r.elim
theorem mono_outV {K : PySem.W.Frag} : Mono (mO K (outV K)) := fun _ _ _ _ _ _ _ _ _ _ r => r
theorem mono_outN {K : PySem.W.Frag} : Mono (mO K (outN K)) := fun W H W1 H1 W' H' a v e e' r => by
  cases a with
  | d x =>
    cases x with
    | list xs => exact New.before e e' r
    | _ => exact r
  | _ => exact r
theorem td_u1 {out : Out} {f : PyData → T PyData} {ta : Ev → T PV} (pf : ∀ x, Plain (f x)) (m : Mono (mO Γ.K out)) (h : TD Γ (mO Γ.K out) (fun env => ta env >>= asD >>= fun x => f x >>= fun y => T.ret (.d y)) σ H Q) :
    TD Γ (mR Γ.K) ta σ H fun x H1 => rU1 Γ.K out f x H1 Q := by
  have h := h.congr (t' := fun env => ta env >>= fun p => asD p >>= fun x => f x >>= fun y => T.ret (.d y)) fun env => T.assoc _ _ _
  refine h.bind (rel := mR Γ.K) (f := fun env p => asD p >>= fun x => f x >>= fun y => T.ret (.d y)) m fun W b env W1 H1 p v S X0 r e q k => ?_
  obtain ⟨x, ex, k⟩ := Wc_plain plain_asD k
  obtain ⟨z, ez, k⟩ := Wc_plain (pf x) k
  rw [asD_ret ex] at q
  exact ⟨W1, b, x, z, S, q, ez, fun W' H' v' e' S' o => k W' H' v' e' S' o⟩
theorem td_o2 {out : Out} {f : PyData → PyData → T PyData} {ta tb : Ev → T PV} (pf : ∀ x y, Plain (f x y)) (m : Mono (mO Γ.K out))
    (h : TD Γ (mO Γ.K out) (fun env => ta env >>= asD >>= fun x => tb env >>= asD >>= fun y => f x y >>= fun z => T.ret (.d z)) σ H Q) :
    TD Γ (mR Γ.K) ta σ H fun x H1 => TD Γ (mR Γ.K) tb σ H1 fun y H2 => rO2 Γ.K out f x y H2 Q := by
  have h := h.congr (t' := fun env => ta env >>= fun p => asD p >>= fun x => tb env >>= fun q => asD q >>= fun y => f x y >>= fun z => T.ret (.d z)) fun env => by
    rw [T.assoc]
    congr
    funext p
    congr
    funext x
    rw [T.assoc]
  refine h.bind (rel := mR Γ.K) (f := fun env p => asD p >>= fun x => tb env >>= fun q => asD q >>= fun y => f x y >>= fun z => T.ret (.d z)) m fun W b env W1 H1 p v S X0 r e q k => ?_
  obtain ⟨x, ex, k⟩ := Wc_plain plain_asD k
  rw [asD_ret ex] at q
  have h2 : TD Γ (mO Γ.K out) (fun env => tb env >>= fun q => asD q >>= fun y => f x y >>= fun z => T.ret (.d z)) σ H1 Q := ⟨W1, b, env, S, X0, r, k⟩
  obtain ⟨W1', b', env', S', X0', r', k'⟩ := h2
  refine ⟨W1, b, env, S, X0, r, T.Wc.mono (fun b2 p2 h2 W2 H2 v2 e2 S2 q2 => ?_) (fun _ _ z => z) _ _ ((T.Wc_bind _ _).mp k)⟩
  have h2 := Wc.later m e2 h2
  obtain ⟨y, ey, k2⟩ := Wc_plain plain_asD h2
  obtain ⟨z, ez, k2⟩ := Wc_plain (pf x y) k2
  rw [asD_ret ey] at q2
  exact ⟨W2, b2, x, y, z, S2, q.ext e2, q2, ez, fun W' H' v' e' S' o => k2 W' H' v' e' S' o⟩
end
end Mp
namespace Mp
open PySem PySem.Spec PyProof.Rows L2
open Mp.T (Wc)

structure FnOkG (P : Program) (w : World) (K : PySem.W.Frag) (mg : Str → Option Value) (base : Heap) (k : Nat) (f : Addr) (fd : FuncData) (ps : List Str) (sp : Sp) : Prop where
  len : ∀ vs H Q E, sp vs H Q E → vs.length = ps.length
  run : ∀ (A : Around) (outer : List Env) (s : Shared) (H : Hp) (args : Args) (us : List Value) (vs : List V) (Q : VK) (E : XK), Room k A → A.guards = some [] → Env0 P w K mg base A outer s H → BindsTo s fd args (ps.zip us) → Vals vs us → sp vs H Q E →
    codeAny (model P w) A (.call (.ref f) args) (CR (L2.CX P w) outer P w H s Q E) s
theorem FnOkG.mono {P : Program} {w : World} {K : PySem.W.Frag} {mg : Str → Option Value} {base : Heap} {j k : Nat} {f : Addr} {fd : FuncData} {ps : List Str} {sp : Sp} (F : FnOkG P w K mg base j f fd ps sp) (h : j ≤ k) : FnOkG P w K mg base k f fd ps sp :=
  ⟨F.len, fun A outer s H args us vs Q E hr => F.run A outer s H args us vs Q E (hr.mono h)⟩
section
variable {X : Cx} {k : Nat} {f : Addr} {fd : FuncData} {ps : List Str} {sp : Sp} {Wx : WX} {x : Str} {p pos : Pos} {e : Expr} {es : List Expr} {t : TA}
theorem run_fnG {pins : List (Addr × Obj)} {σ : L2.St} {H : Hp} {s : Shared} {Q : VK} {us : List Value} {vs : List V} (F : FnOkG X.prog X.w X.K X.mg X.base k f fd ps sp) (hr : Room k X.A) (hgd : X.A.guards = some []) (hb : Binds X.K fd ps []) (tk : Takes X Wx)
    (I : Inv X pins σ H s) (r : Vals vs us) (h : sp vs H Q fun cls d H' => Wx cls d σ H') : wpAny (model X.prog X.w) X.A (call (.ref f) us) (EP X pins σ Q) X.xe s := by
  have hl : (us ++ []).length = ps.length := by rw [List.append_nil, ← r.length]; exact F.len _ _ _ _ h
  have hb2 := hb s us I.kIn hl
  rw [List.append_nil] at hb2
  refine wpAny_call (codeAny_mono (F.run X.A X.stack s H ⟨us, []⟩ us vs Q _ hr hgd I.env0 hb2 r h) fun r s' hq => ?_)
  cases r with
  | error e => exact tk e s' (XE.of_call I (fun cls d H' h => h) hq)
  | ok fl =>
    cases fl with
    | ret u => exact I.after hq
    | next => exact False.elim hq
    | brk => exact False.elim hq
    | cont => exact False.elim hq
/-- f(e, ..) -/
theorem pe_callG (F : FnOkG X.prog X.w X.K X.mg X.base k f fd ps sp) (hr : Room k X.A) (hgd : X.A.guards = some []) (hg : Gl X x) (hm : X.mg x = some (.ref f)) (hk : PySem.W.keepIn X.K (.ref f) = true) (hb : Binds X.K fd ps []) (tk : Takes X Wx)
    (ha : PA X (e :: es) t) (hdb : (x == ("__debug__" : Str)) = false) (he : starEach (e :: es) X.env = (false, eval e X.env) :: starEach es X.env) (hpl : (backTo pos (starEach es X.env)).any (·.1) = false) :
    PE X (.Call (.Name x p) (e :: es) [] pos) (fun σ H Q => t σ H fun vs H1 => sp vs H1 Q fun cls d H' => Wx cls d σ H') := by
  refine ⟨fun pins s σ H Q I h => ?_⟩
  refine wpAny_Call_Name_kw (ld_glob I hg hm ?_ hdb)
  refine PySem.W.callWith_K (h₀ := X.base) I.ok.mod.kin hk (thn (ha.run pos pins s σ H _ I h) fun us s1 ⟨vs, H1, I1, r, q⟩ => ⟨I1.kIn, ?_⟩) he hpl
  exact run_fnG F hr hgd hb tk I1 r q
end
/-- a def of the text, by its body -/
theorem fn_ofG {P : Program} {w : World} {K : PySem.W.Frag} {mg : Str → Option Value} {base : Heap} {k : Nat} {f : Addr} {name qual : Str} {params : Arguments} {body : List Stmt} {scope : Scope} {dV kV doc pm cdv ct oc : Value} {an od : Option Addr}
    {osl : Array (Option Value)} {N ps : List Str} {sp : Sp} (lk : K.lookup f = some ⟨oc, od, .func (PySem.W.fnOf name qual params body scope dV kV doc pm an cdv ct), osl⟩) (hcd : PySem.W.codeIn K cdv qual = true) (S : FnScope N ps scope)
    (len : ∀ vs H Q E, sp vs H Q E → vs.length = ps.length)
    (hbody : ∀ (A : Around) (outer : List Env) (s : Shared) (H : Hp) (vs : List V) (Q : VK) (E : XK), Room k (A.deeper (envOfC qual scope s.heap.objs.size f cdv)) → A.guards = some [] → sp vs H Q E →
      ∃ t, PSs (cxOf (L2.CX P w) P w K mg base N qual scope f cdv A outer s H E) body t ∧ t { nx := fun _ H' => Q .non H', rt := Q } (start N vs) H) :
    FnOkG P w K mg base (k + 1) f (PySem.W.fnOf name qual params body scope dV kV doc pm an cdv ct) ps sp := by
  refine ⟨len, fun A outer s H args us vs Q E hr hgd e0 hb r hsp => ?_⟩
  have hl := len _ _ _ _ hsp
  have KX : K.In s.heap := e0.mod.kin.keeps fun b o e => (e0.bs b o e).1
  have lim : s.heap.NoLimit := e0.mod.nolimit.keeps fun b o e => (e0.bs b o e).1
  have hkind : ∀ y ∈ ps.zip us, scope.names.lookup y.1 = some .local ∨ (scope.names.lookup y.1 = some .cell ∧ ((cellsFrom (s.heap.objs.size + 1) scope.names []).lookup y.1).isSome = true) := fun ⟨n, v⟩ hy => by
    rcases S.par n (List.of_mem_zip hy).1 with q | q
    · exact .inl q
    · exact .inr ⟨q, PySem.W.cellsFrom_some _ _ _ (.inl q)⟩
  refine codeAny_call_function hr.depth (KX _ _ lk) rfl S.co S.gen rfl (PySem.W.codeRec_of KX hcd) (hb _ _ _ _ ?_)
  refine wpAny_newFunctionEnv_cells S.kind hkind fun env he s1 x => ?_
  subst he
  refine ⟨lim.keeps x.toInCall.keep, codeAny_func ?_⟩
  obtain ⟨t, ht, hq⟩ := hbody A outer s H vs Q E (hr.deeper _) hgd hsp
  have I : Inv (cxOf (L2.CX P w) P w K mg base N qual scope f cdv A outer s H E) [] (start N vs) H s1 := inv_start S hr.hd e0 hl r x
  refine wpAny_mono (ht.run [] s1 (start N vs) H _ I hq) (fun fl s' hs => ?_) fun e s' hs => hs
  have fin : ∀ {σ' : L2.St} {H' : Hp} {v : V} {u : Value}, Inv (cxOf (L2.CX P w) P w K mg base N qual scope f cdv A outer s H E) [] σ' H' s' → RelV v u → Q v H' → CE outer P w H s Q u s' :=
    fun {σ' H' v u} J rv q => ⟨v, H', J.os, J.bare, J.base, J.hok, rv, q⟩
  cases fl with
  | ret u =>
    obtain ⟨v, σ', H', J, rv, q⟩ := hs
    exact fin J rv q
  | next =>
    obtain ⟨σ', H', J, q⟩ := hs
    exact fin (v := V.non) (u := Value.none) J rfl q
  | brk =>
    obtain ⟨_, _, _, q⟩ := hs
    exact False.elim q
  | cont =>
    obtain ⟨_, _, _, q⟩ := hs
    exact False.elim q

/-- a promise by positional values -/
def FnRG (P : Program) (w : World) (K : PySem.W.Frag) (mg : Str → Option Value) (base : Heap) (k : Nat) (f : Addr) (sp : Sp) : Prop :=
  ∀ (A : Around) (outer : List Env) (s : Shared) (H : Hp) (us : List Value) (vs : List V) (Q : VK) (E : XK), Room k A → A.guards = some [] → Env0 P w K mg base A outer s H → Vals vs us → sp vs H Q E →
    codeAny (model P w) A (.call (.ref f) ⟨us, []⟩) (CR (L2.CX P w) outer P w H s Q E) s
theorem FnRG.mono {P : Program} {w : World} {K : PySem.W.Frag} {mg : Str → Option Value} {base : Heap} {j k : Nat} {f : Addr} {sp : Sp} (F : FnRG P w K mg base j f sp) (h : j ≤ k) : FnRG P w K mg base k f sp :=
  fun A outer s H us vs Q E hr => F A outer s H us vs Q E (hr.mono h)
theorem FnOkG.raw {P : Program} {w : World} {K : PySem.W.Frag} {mg : Str → Option Value} {base : Heap} {k : Nat} {f : Addr} {fd : FuncData} {ps : List Str} {sp : Sp} (F : FnOkG P w K mg base k f fd ps sp) (hb : L2.Binds K fd ps []) : FnRG P w K mg base k f sp := by
  intro A outer s H us vs Q E hr hg e0 r h
  have hl : (us ++ []).length = ps.length := by rw [List.append_nil, ← r.length]; exact F.len _ _ _ _ h
  have KX : K.In s.heap := e0.mod.kin.keeps fun b o e => (e0.bs b o e).1
  have hb2 := hb s us KX hl
  rw [List.append_nil] at hb2
  exact F.run A outer s H ⟨us, []⟩ us vs Q E hr hg e0 hb2 r h
section
variable {X : Cx} {k : Nat} {f : Addr} {sp : Sp} {Wx : WX} {x : Str} {p pos : Pos} {e : Expr} {es : List Expr} {t : TA}
theorem run_fnRG {pins : List (Addr × Obj)} {σ : L2.St} {H : Hp} {s : Shared} {Q : VK} {us : List Value} {vs : List V} (F : FnRG X.prog X.w X.K X.mg X.base k f sp) (hr : Room k X.A) (hgd : X.A.guards = some []) (tk : Takes X Wx)
    (I : Inv X pins σ H s) (r : Vals vs us) (h : sp vs H Q fun cls d H' => Wx cls d σ H') : wpAny (model X.prog X.w) X.A (call (.ref f) us) (EP X pins σ Q) X.xe s := by
  refine wpAny_call (codeAny_mono (F X.A X.stack s H us vs Q _ hr hgd I.env0 r h) fun r s' hq => ?_)
  cases r with
  | error e => exact tk e s' (XE.of_call I (fun cls d H' h => h) hq)
  | ok fl =>
    cases fl with
    | ret u => exact I.after hq
    | next => exact False.elim hq
    | brk => exact False.elim hq
    | cont => exact False.elim hq
/-- f(e, ..), starred or not behind the first -/
theorem pe_callRG (F : FnRG X.prog X.w X.K X.mg X.base k f sp) (hr : Room k X.A) (hgd : X.A.guards = some []) (hg : Gl X x) (hm : X.mg x = some (.ref f)) (hk : PySem.W.keepIn X.K (.ref f) = true) (tk : Takes X Wx)
    (ha : PA X (e :: es) t) (hdb : (x == ("__debug__" : Str)) = false) (he : starEach (e :: es) X.env = (false, eval e X.env) :: starEach es X.env) :
    PE X (.Call (.Name x p) (e :: es) [] pos) (fun σ H Q => t σ H fun vs H1 => sp vs H1 Q fun cls d H' => Wx cls d σ H') := by
  refine ⟨fun pins s σ H Q I h => ?_⟩
  refine wpAny_Call_Name_kw (ld_glob I hg hm ?_ hdb)
  cases hpl : (backTo pos (starEach es X.env)).any (·.1) with
  | false =>
    refine PySem.W.callWith_K (h₀ := X.base) I.ok.mod.kin hk (thn (ha.run pos pins s σ H _ I h) fun us s1 ⟨vs, H1, I1, r, q⟩ => ⟨I1.kIn, ?_⟩) he hpl
    exact run_fnRG F hr hgd tk I1 r q
  | true =>
    refine PySem.W.callWith_S2 (h₀ := X.base) I.ok.mod.kin hk (thn (ha.run pos pins s σ H _ I h) fun us s1 ⟨vs, H1, I1, r, q⟩ => ⟨I1.kIn, ?_⟩) he hpl
    exact run_fnRG F hr hgd tk I1 r q
end
/-- def f(a, .., *v): what is left over is a new tuple -/
theorem fn_starG {P : Program} {w : World} {K : PySem.W.Frag} {mg : Str → Option Value} {base : Heap} {k : Nat} {f : Addr} {name qual : Str} {params : Arguments} {body : List Stmt} {scope : Scope} {dV kV doc pm cdv ct oc : Value} {an od : Option Addr}
    {osl : Array (Option Value)} {N ps : List Str} {pv : Str} {sp : Sp} (lk : K.lookup f = some ⟨oc, od, .func (PySem.W.fnOf name qual params body scope dV kV doc pm an cdv ct), osl⟩) (hcd : PySem.W.codeIn K cdv qual = true) (S : FnScope N (ps ++ [pv]) scope)
    (hb : ∀ us rest : List Value, us.length = ps.length → bindArgs (PySem.W.fnOf name qual params body scope dV kV doc pm an cdv ct) ⟨us ++ rest, []⟩ = (newTuple rest >>= fun t => pure (ps.zip us ++ [(pv, t)])))
    (hbody : ∀ (A : Around) (outer : List Env) (s : Shared) (H : Hp) (vs : List V) (Q : VK) (E : XK), Room k (A.deeper (envOfC qual scope s.heap.objs.size f cdv)) → A.guards = some [] → sp vs H Q E →
      ∃ t, PSs (cxOf (L2.CX P w) P w K mg base N qual scope f cdv A outer s H E) body t ∧ t { nx := fun _ H' => Q .non H', rt := Q } (start N vs) H) :
    FnRG P w K mg base (k + 1) f (fun vs H Q E => ∃ ws rest, vs = ws ++ rest ∧ ws.length = ps.length ∧ rest.length ≤ sizeLine ∧ ∀ p o, H p = Option.none → o.dict = Option.none → sp (ws ++ [V.ref p]) (upd H p (.frz o (.tup rest))) Q E) := by
  intro A outer s H us vs Q E hr hg e0 r ⟨ws, rest, ev, hl, hz, hq⟩
  subst ev
  obtain ⟨u1, u2, eu, r1, r2⟩ := StX.vals_split r
  subst eu
  have fresh : H s.heap.objs.size = Option.none := e0.hok.fresh (Nat.le_refl _)
  have l1 : u1.length = ps.length := r1.length ▸ hl
  have l2 : u2.length ≤ sizeLine := r2.length ▸ hz
  refine StX.run_bnd lk hcd S hr e0 (G := fun xs H2 => ∃ p o, H p = Option.none ∧ o.dict = Option.none ∧ xs = ws ++ [V.ref p] ∧ H2 = upd H p (.frz o (.tup rest))) (fun A' Ex Q' h => ?_) fun s2 H2 xs ⟨p, o, hp, ho, ex, eH⟩ hr' => ?_
  · rw [hb u1 u2 l1]
    refine wpAny_bind (wpAny_newTuple (wpAny_pure ?_) l2)
    let ob : Obj := { cls := .type "tuple", data := .seq u2.toArray }
    have ok : ObjOk P w (upd H s.heap.objs.size (.frz ob (.tup rest))) (s.heap.push ob) s.heap.objs.size (.frz ob (.tup rest)) := ⟨Heap.get?_push_size _ rfl, hz, u2, r2, ⟨_, Heap.get?_push_size _ rfl, rfl, _, rfl⟩⟩
    have un := StX.un_laid (fs := frs outer) (s := s) (o := ob) (u := .frz ob (.tup rest)) fresh
    have z := h _ _ (ws ++ [V.ref s.heap.objs.size]) (u1 ++ [Value.ref s.heap.objs.size]) (StX.env0_laid e0 ok) un rfl (fun e s' => StX.cxUp outer s H _ _ E e s' un (fun b o q => Heap.get?_push_of_some _ q) rfl) (r1.append (.cons rfl .nil))
      (by rw [List.length_append, List.length_append, hl]; rfl) ⟨_, ob, fresh, rfl, rfl, rfl⟩
    rw [List.zip_append l1.symm] at z
    exact z
  · subst ex eH
    exact hbody A outer s2 _ _ Q E hr' hg (hq p o hp ho)

def FnHG (P : Program) (w : World) (K : PySem.W.Frag) (mg : Str → Option Value) (base : Heap) (cs : List Nat) (k : Nat) (f : Addr) (sp : Addr → Option Addr → Nat → Sp) : Prop :=
  ∀ (A : Around) (outer : List Env) (s : Shared) (H : Hp) (us : List Value) (vs : List V) (Q : VK) (E : XK) (a C : Addr) (oe : Obj) (d : Option Addr) (kx : Nat), L2H.RoomH k A → A.guards = some [] → L2H.PinOk outer H s (a, oe) → Zc (.ref C) d oe → (∃ vs, oe.data = .fields vs) →
    kx ∈ cs → mg (Str.ofString (nmX kx)) = some (.ref C) → Env0 P w K mg base A outer s H → Vals vs us → sp a d kx vs H Q E → codeAny (model P w) A (.call (.ref f) ⟨us, []⟩) (CR (L2.CX P w) outer P w H s Q E) s
section
variable {X : Cx} {k : Nat} {f : Addr} {cs : List Nat} {sp : Addr → Option Addr → Nat → Sp} {Wx : WX} {x : Str} {p pos : Pos} {e : Expr} {es : List Expr} {t : TA} {a C : Addr} {oe : Obj} {d : Option Addr} {kx : Nat}
theorem run_fnHG {pins : List (Addr × Obj)} {σ : L2.St} {H : Hp} {s : Shared} {Q : VK} {us : List Value} {vs : List V} (F : FnHG X.prog X.w X.K X.mg X.base cs k f sp) (hr : L2H.RoomH k X.A) (hgd : X.A.guards = some []) (tk : Takes X Wx) (hp : (a, oe) ∈ X.pn)
    (hz : Zc (.ref C) d oe) (hf : ∃ vs, oe.data = .fields vs) (hk : kx ∈ cs) (hm : X.mg (Str.ofString (nmX kx)) = some (.ref C)) (I : Inv X pins σ H s) (r : Vals vs us) (h : sp a d kx vs H Q fun cls d H' => Wx cls d σ H') : wpAny (model X.prog X.w) X.A (call (.ref f) us) (EP X pins σ Q) X.xe s := by
  have P1 := I.pin (a, oe) (List.mem_append_left _ hp)
  have hpin : L2H.PinOk X.stack H s (a, oe) := ⟨P1.1, P1.2.1, fun hm => (List.mem_cons.mp (I.stkSub a hm)).elim P1.2.2.1 P1.2.2.2.1, P1.2.2.2.2⟩
  refine wpAny_call (codeAny_mono (F X.A X.stack s H us vs Q _ a C oe d kx hr hgd hpin hz hf hk hm I.env0 r h) fun r s' hq => ?_)
  cases r with
  | error e => exact tk e s' (XE.of_call I (fun cls d H' h => h) hq)
  | ok fl =>
    cases fl with
    | ret u => exact I.after hq
    | next => exact False.elim hq
    | brk => exact False.elim hq
    | cont => exact False.elim hq
theorem pe_callHG (F : FnHG X.prog X.w X.K X.mg X.base cs k f sp) (hr : L2H.RoomH k X.A) (hgd : X.A.guards = some []) (hp : (a, oe) ∈ X.pn) (hz : Zc (.ref C) d oe) (hf : ∃ vs, oe.data = .fields vs) (hkx : kx ∈ cs) (hmx : X.mg (Str.ofString (nmX kx)) = some (.ref C))
    (hg : Gl X x) (hm : X.mg x = some (.ref f)) (hk : PySem.W.keepIn X.K (.ref f) = true) (tk : Takes X Wx) (ha : PA X (e :: es) t) (hdb : (x == ("__debug__" : Str)) = false) (he : starEach (e :: es) X.env = (false, eval e X.env) :: starEach es X.env) :
    PE X (.Call (.Name x p) (e :: es) [] pos) (fun σ H Q => t σ H fun vs H1 => sp a d kx vs H1 Q fun cls d H' => Wx cls d σ H') := by
  refine ⟨fun pins s σ H Q I h => ?_⟩
  refine wpAny_Call_Name_kw (ld_glob I hg hm ?_ hdb)
  cases hpl : (backTo pos (starEach es X.env)).any (·.1) with
  | false =>
    refine PySem.W.callWith_K (h₀ := X.base) I.ok.mod.kin hk (thn (ha.run pos pins s σ H _ I h) fun us s1 ⟨vs, H1, I1, r, q⟩ => ⟨I1.kIn, ?_⟩) he hpl
    exact run_fnHG F hr hgd tk hp hz hf hkx hmx I1 r q
  | true =>
    refine PySem.W.callWith_S2 (h₀ := X.base) I.ok.mod.kin hk (thn (ha.run pos pins s σ H _ I h) fun us s1 ⟨vs, H1, I1, r, q⟩ => ⟨I1.kIn, ?_⟩) he hpl
    exact run_fnHG F hr hgd tk hp hz hf hkx hmx I1 r q
end
/-- such a def of the text, by its body -/
theorem fn_ofHG {P : Program} {w : World} {K : PySem.W.Frag} {mg : Str → Option Value} {base : Heap} {cs : List Nat} {k : Nat} {f : Addr} {name qual : Str} {params : Arguments} {body : List Stmt} {scope : Scope} {dV kV doc pm cdv ct oc : Value} {an od : Option Addr}
    {osl : Array (Option Value)} {N ps : List Str} {sp : Addr → Option Addr → Nat → Sp} (lk : K.lookup f = some ⟨oc, od, .func (PySem.W.fnOf name qual params body scope dV kV doc pm an cdv ct), osl⟩) (hcd : PySem.W.codeIn K cdv qual = true) (S : FnScope N ps scope)
    (len : ∀ a d kx vs H Q E, sp a d kx vs H Q E → vs.length = ps.length) (hbd : L2.Binds K (PySem.W.fnOf name qual params body scope dV kV doc pm an cdv ct) ps [])
    (hbody : ∀ (A : Around) (outer : List Env) (s : Shared) (H : Hp) (vs : List V) (Q : VK) (E : XK) (a C : Addr) (oe : Obj) (d : Option Addr) (kx : Nat), L2H.RoomH k (A.deeper (envOfC qual scope s.heap.objs.size f cdv)) → A.guards = some [] → Zc (.ref C) d oe → (∃ vs, oe.data = .fields vs) →
      kx ∈ cs → mg (Str.ofString (nmX kx)) = some (.ref C) → sp a d kx vs H Q E → ∃ t, PSs (L2H.cxH (L2.CX P w) P w K mg base N qual scope f cdv A outer s H E (a, oe)) body t ∧ t { nx := fun _ H' => Q .non H', rt := Q } (start N vs) H) :
    FnHG P w K mg base cs (k + 1) f sp := by
  intro A outer s H us vs Q E a C oe d kx hr hgd hpin hz hf hkx hmx e0 r hsp
  have hl := len _ _ _ _ _ _ _ hsp
  have KX : K.In s.heap := e0.mod.kin.keeps fun b o e => (e0.bs b o e).1
  have hb := hbd s us KX (by rw [List.append_nil, ← r.length]; exact hl)
  rw [List.append_nil] at hb
  have lim : s.heap.NoLimit := e0.mod.nolimit.keeps fun b o e => (e0.bs b o e).1
  have hkind : ∀ y ∈ ps.zip us, scope.names.lookup y.1 = some .local ∨ (scope.names.lookup y.1 = some .cell ∧ ((cellsFrom (s.heap.objs.size + 1) scope.names []).lookup y.1).isSome = true) := fun ⟨n, v⟩ hy => by
    rcases S.par n (List.of_mem_zip hy).1 with q | q
    · exact .inl q
    · exact .inr ⟨q, PySem.W.cellsFrom_some _ _ _ (.inl q)⟩
  refine codeAny_call_function hr.depth (KX _ _ lk) rfl S.co S.gen rfl (PySem.W.codeRec_of KX hcd) (hb _ _ _ _ ?_)
  refine wpAny_newFunctionEnv_cells S.kind hkind fun env he s1 x => ?_
  subst he
  refine ⟨lim.keeps x.toInCall.keep, codeAny_func ?_⟩
  obtain ⟨t, ht, hq⟩ := hbody A outer s H vs Q E a C oe d kx (hr.deeper _) hgd hz hf hkx hmx hsp
  have I : Inv (L2H.cxH (L2.CX P w) P w K mg base N qual scope f cdv A outer s H E (a, oe)) [] (start N vs) H s1 := L2H.inv_startH S hpin e0 hl r x
  refine wpAny_mono (ht.run [] s1 (start N vs) H _ I hq) (fun fl s' hs => ?_) fun e s' hs => hs
  have fin : ∀ {σ' : L2.St} {H' : Hp} {v : V} {u : Value}, Inv (L2H.cxH (L2.CX P w) P w K mg base N qual scope f cdv A outer s H E (a, oe)) [] σ' H' s' → RelV v u → Q v H' → CE outer P w H s Q u s' :=
    fun {σ' H' v u} J rv q => ⟨v, H', J.os, J.bare, J.base, J.hok, rv, q⟩
  cases fl with
  | ret u =>
    obtain ⟨v, σ', H', J, rv, q⟩ := hs
    exact fin J rv q
  | next =>
    obtain ⟨σ', H', J, q⟩ := hs
    exact fin (v := V.non) (u := Value.none) J rfl q
  | brk =>
    obtain ⟨_, _, _, q⟩ := hs
    exact False.elim q
  | cont =>
    obtain ⟨_, _, _, q⟩ := hs
    exact False.elim q

theorem law_callG {P : Program} {w : World} {K : PySem.W.Frag} {mg mb : Str → Option Value} {k : Nat} {fa a : Addr} {fd : FuncData} {x : Str} {sp : Sp} {s₁ : Shared} {vs : List Value} {ns : List Int}
    (KX : K.In s₁.heap) (hns : s₁.heap.Ns mainGlobals mg) (hb : s₁.heap.Ns builtinsNs mb) (hbb : ∀ x : Str, x ≠ "__name__" → mb x = bootBuiltins x) (hlim : s₁.heap.NoLimit) (hg : s₁.gens = #[])
    (ha : s₁.heap.get? a = some { cls := .type "list", data := .seq vs.toArray }) (hi : IntsAre vs ns) (hl : ns.length ≤ sizeLine) (hr : Room k callerA)
    (F : ∀ base : Heap, K.In base → base.Ns mainGlobals mg → FnOkG P w K mg base k fa fd [x] sp) (hbind : ∀ (s : Shared) (u : Value), BindsTo s fd ⟨[u], []⟩ [(x, u)])
    (hsp : ∀ H : Hp, Only H → SqL K H a (ns.map V.int) → sp [.ref a] H (fun v _ => v = .bl true) fun _ _ _ => False) :
    codeAny (model P w) callerA (.call (.ref fa) ⟨[.ref a], []⟩) (fun r s' => r = .ok (.ret (.bool true)) ∧ OldK s₁.heap s'.heap ∧ s'.os = s₁.os ∧ AllBare s'.gens) s₁ := by
  have rv := vals_ints hi
  have lenV := hi.length
  have core : ∀ H : Hp, Only H → SqL K H a (ns.map V.int) → HOk P w H s₁.heap → (∀ b, H b ≠ none → b = a) → (H a ≠ none → K.lookup a = none) →
      codeAny (model P w) callerA (.call (.ref fa) ⟨[.ref a], []⟩) (fun r s' => r = .ok (.ret (.bool true)) ∧ OldK s₁.heap s'.heap ∧ s'.os = s₁.os ∧ AllBare s'.gens) s₁ := by
    intro H hO hS hok hA hK
    have base_of : ∀ {b : Addr} {o : Obj}, s₁.heap.get? b = some o → H b = none → (hidT s₁.heap H).get? b = some o := fun e n => hidT_get e n
    have noA : ∀ {b : Addr} {o : Obj} {es : Array DictEntry} {ep : Nat}, s₁.heap.get? b = some o → o.data = .dict es ep → H b = none := fun {b o es ep} e d => by
      cases q : H b with
      | none => rfl
      | some u =>
        have e' : b = a := hA b (by rw [q]; simp)
        subst e'
        rw [ha] at e; cases e
        have d' : Data.seq vs.toArray _ = Data.dict es ep := d
        cases d'
    have nsK : ∀ {b : Addr} {m : Str → Option Value}, s₁.heap.Ns b m → (hidT s₁.heap H).Ns b m := fun {b m} ⟨o, es, ep, e, d, r⟩ => ⟨o, es, ep, base_of e (noA e d), d, r⟩
    have hKb : K.In (hidT s₁.heap H) := fun b o e => base_of (KX b o e) (by
      cases q : H b with
      | none => rfl
      | some u =>
        have e' : b = a := hA b (by rw [q]; simp)
        subst e'
        rw [hK (by rw [q]; simp)] at e; cases e)
    have hM : Mod K mg (hidT s₁.heap H) := ⟨hKb, nsK hns, ⟨mb, nsK hb, hbb⟩, let ⟨mc, h1, h2⟩ := hlim; ⟨mc, nsK h1, h2⟩⟩
    have e0 : Env0 P w K mg (hidT s₁.heap H) callerA [] s₁ H := ⟨rfl, hM, fun b o e => of_hidT e, Nat.le_of_eq (hidT_size _ _), trivial, fun b hb => absurd (show b ∈ ([] : List Addr) from hb) (by simp), hok, .of_eq hg⟩
    refine codeAny_mono ((F _ hKb (nsK hns)).run callerA [] s₁ H ⟨[.ref a], []⟩ [.ref a] [.ref a] _ _ hr rfl e0 (hbind s₁ (.ref a)) (.cons rfl .nil) (hsp H hO hS)) fun r s' h => ?_
    cases r with
    | error e =>
      obtain ⟨_, _, _, _, _, _, _, _, _, _, _, _, z⟩ := h
      exact z.elim
    | ok fl =>
      cases fl with
      | next => exact False.elim h
      | brk => exact False.elim h
      | cont => exact False.elim h
      | ret u =>
        obtain ⟨v, H', os, bare, un, hok', r', q⟩ := h
        have q' : v = .bl true := q
        subst q'
        obtain rfl : u = Value.bool true := r'
        refine ⟨rfl, OldK.of_keep fun b o e => ?_, os, bare⟩
        cases q : H b with
        | none => exact un.keep b o e q (by intro z; exact absurd (show b ∈ ([] : List Addr) from z) (by simp)) (by simp)
        | some u =>
          rcases hO b with z | ⟨ob, xs, z⟩
          · rw [q] at z; cases z
          · have z2 := un.frzs b ob _ z
            obtain ⟨e1, _⟩ := hok b _ z
            obtain ⟨e2, _⟩ := hok' b _ z2
            rw [e] at e1; cases e1
            exact e2
  cases hk : K.lookup a with
  | some o =>
    have e := KX a o hk
    rw [ha] at e
    cases e
    refine core (fun _ => none) (fun _ => .inl rfl) (.inr ⟨_, vs.toArray, _, hk, rfl, rfl, rfl, by rw [List.size_toArray, lenV]; exact hl, by simpa using rv⟩) (fun b u z => by have z' : (none : Option HO) = some u := z; cases z') (fun b z => absurd rfl z) fun z => absurd rfl z
  | none =>
    refine core (fun b => if b = a then some (.frz { cls := .type "list", data := .seq vs.toArray } (.lst (ns.map V.int))) else none) (fun b => ?_) (.inl (.inr ⟨{ cls := .type "list", data := .seq vs.toArray }, if_pos rfl⟩)) (fun b u z => ?_) (fun b z => ?_) fun _ => hk
    · by_cases hb : b = a
      · exact .inr ⟨_, _, if_pos hb⟩
      · exact .inl (if_neg hb)
    · by_cases hb : b = a
      · have z' := (if_pos hb).symm.trans z
        cases z'
        subst hb
        exact ⟨ha, by rw [List.length_map]; exact hl, vs, _, rv, ha⟩
      · have z' := (if_neg hb).symm.trans z
        cases z'
    · by_cases hb : b = a
      · exact hb
      · exact absurd (if_neg hb) z
end Mp
namespace Mp
open PySem PySem.Spec PyProof.Rows L2
open Mp.T (Wc)

/-- the def's names by slot; the python names of the defs by number; which constants of the module are known -/
structure Ck where
  N : List Str
  nm : Nat → Option Str
  gs : List Nat
  cs : List Nat := []
  al : Bool := false
  hot : Bool := false
  hm : Nat → Option Str := fun _ => none
/-- the same within an except suite -/
def Ck.ht (c : Ck) : Ck := { c with hot := true }
/-- a built-in that may be called there -/
def cool1 : O1 → Bool
  | .minL => false | .maxL => false | .sumL => false | .allL => false | .anyL => false | _ => true
def notStar : Expr → Bool
  | .Starred _ _ => false
  | _ => true
def xStar : Expr → Option Expr
  | .Starred e _ => some e
  | _ => none
def notSlice : Expr → Bool
  | .Slice _ _ _ _ => false
  | _ => true
def notSet : Expr → Bool
  | .Set _ _ _ => false
  | _ => true
/-- an expression whose attribute is looked up plainly -/
def plainBase : Expr → Bool
  | .Call _ _ _ _ => false
  | _ => true
def kd (sc : Scope) (x : Str) (k : NameKind) : Bool := decide (sc.names.lookup x = some k)
def glb (sc : Scope) (x : Str) : Bool := kd sc x .globalImplicit && !(x == ("__debug__" : Str))
def vis (sc : Scope) (x : Str) : Bool := (kd sc x .local || kd sc x .cell || kd sc x .free) && !(x == ("__debug__" : Str)) && !(x == ("__classdict__" : Str))
def isB (sc : Scope) (x : Str) (n : String) : Bool := decide (x = Str.ofString n) && glb sc x
def loc (sc : Scope) (x : Str) : Bool := kd sc x .local || kd sc x .cell
def xName : Expr → Option Str
  | .Name x _ => some x
  | _ => none
def xConst : Expr → Option Const
  | .Constant c _ _ => some c
  | _ => none
def xTup : Expr → Option (List Expr)
  | .Tuple es _ _ => some es
  | _ => none
def xLst : Expr → Option (List Expr)
  | .List es _ => some es
  | _ => none
def xDict0 : Expr → Bool
  | .Dict [] [] _ => true
  | _ => false
def xBin : Expr → Option (Expr × Operator × Expr)
  | .BinOp a o b _ => some (a, o, b)
  | _ => none
def xUn : Expr → Option (UnaryOp × Expr)
  | .UnaryOp o a _ => some (o, a)
  | _ => none
def xCmp : Expr → Option (Expr × CmpOp × Expr)
  | .Compare a [o] [b] _ => some (a, o, b)
  | _ => none
def xCmp2 : Expr → Option (Expr × CmpOp × Expr × CmpOp × Expr)
  | .Compare a [o, p] [b, c] _ => some (a, o, b, p, c)
  | _ => none
def xBool : Expr → Option (BoolOp × List Expr × Pos)
  | .BoolOp o vs p => some (o, vs, p)
  | _ => none
/-- the rest of an and, an or -/
def restB (o : BoolOp) : List Expr → Pos → Expr
  | [x], _ => x
  | xs, p => .BoolOp o xs p
def xIf : Expr → Option (Expr × Expr × Expr)
  | .IfExp c a b _ => some (c, a, b)
  | _ => none
/-- f(a, ..) -/
def xCall : Expr → Option (Str × List Expr)
  | .Call (.Name f _) as [] _ => some (f, as)
  | _ => none
/-- o.m(a): on one line -/
def xMeth : Expr → Option (Expr × Str × Expr)
  | .Call (.Attribute o m ap) [a] [] cp => if ap.endLine == cp.line then some (o, m, a) else none
  | _ => none
def xSub : Expr → Option (Expr × Expr)
  | .Subscript a b _ => some (a, b)
  | _ => none
def xSlice : Expr → Option (Option Expr × Option Expr)
  | .Slice lo hi none _ => some (lo, hi)
  | _ => none
/-- a[::-1] -/
def xRev : Expr → Option Expr
  | .Subscript a (.Slice none none (some (.UnaryOp .USub (.Constant (.int 1) _ _) _)) _) _ => some a
  | _ => none
def xLc : Expr → Option (Expr × List Comprehension × Scope)
  | .ListComp e gs s _ => some (e, gs, s)
  | _ => none
def xAttr : Expr → Option (Expr × Str)
  | .Attribute a f _ => some (a, f)
  | _ => none
def binOf : O2 → Option Operator
  | .add => some .Add | .sub => some .Sub | .mul => some .Mult | .mod => some .Mod | .fdiv => some .FloorDiv | .pow => some .Pow | _ => none
def cmpOf : O2 → Option CmpOp
  | .eq => some .Eq | .ne => some .NotEq | .lt => some .Lt | .le => some .LtE | .gt => some .Gt | .ge => some .GtE | .inn => some .In | .notIn => some .NotIn | _ => none
/-- a built-in of one argument: its name, whether it is a type -/
def b1 : O1 → Option (String × Bool)
  | .len => some ("len", false) | .tuple => some ("tuple", true) | .list => some ("list", true) | .sorted => some ("sorted", false) | .minL => some ("min", false) | .maxL => some ("max", false)
  | .sumL => some ("sum", false) | .allL => some ("all", false) | .anyL => some ("any", false) | .abs => some ("abs", false) | .int => some ("int", true) | .repr => some ("repr", false) | _ => none
def b2 : O2 → Option String
  | .max2 => some "max" | .min2 => some "min" | _ => none
def m1 : O2 → Option String
  | .index => some "index" | .count => some "count" | _ => none
def tyName : Ty → String
  | .int => "int" | .bool => "bool" | .str => "str" | .tuple => "tuple" | .list => "list" | .dict => "dict"
/-- list-making terms -/
def mk : ME → Bool
  | .lst _ => true | .lc _ _ _ _ => true | .lcIf _ _ _ _ _ => true | .lc2 _ _ _ _ _ _ => true | .slL _ _ => true | .slU _ _ => true | .slLU _ _ _ => true
  | .o1 op _ => match op with | .list => true | .sorted => true | .sortedSet => true | .rev => true | _ => false
  | .o2 op _ _ => (binOf op).isSome
  | .ofI l _ => l
  | _ => false
def isAO : ME → Bool
  | .and _ _ => true
  | .or _ _ => true
  | _ => false
def rdO : ME → Bool
  | .rd _ => true
  | _ => false
/-- the names of a comprehension's own, with their slots -/
def ownOf (N : List Str) (sc : Scope) : List (Str × Nat) := sc.names.filterMap fun p => match p.2 with
  | .local => (N.findIdx? fun y => decide (y = p.1)).map fun i => (p.1, i)
  | .cell => (N.findIdx? fun y => decide (y = p.1)).map fun i => (p.1, i)
  | _ => none
def slotsT : MT → List Nat
  | .nm i => [i]
  | .tp is => is
/-- may be stored to -/
def locF (sc : Scope) (fb : Str → Bool) (x : Str) : Bool := kd sc x .local || (kd sc x .cell && fb x)
def chkNames (N : List Str) (sc : Scope) (fb : Str → Bool) : List Nat → List Expr → Bool
  | [], [] => true
  | i :: is, e :: es => (match xName e with
    | some x => decide (N[i]? = some x) && locF sc fb x
    | none => false) && chkNames N sc fb is es
  | _, _ => false
def chkT (N : List Str) (sc : Scope) (fb : Str → Bool) : MT → Expr → Bool
  | .nm i, e => match xName e with
    | some x => decide (N[i]? = some x) && locF sc fb x
    | none => false
  | .tp is, e => match xTup e with
    | some es => chkNames N sc fb is es
    | none => false
def allF : Str → Bool := fun _ => true
def fnB (s : Scope) : Str → Bool := fun x => s.names.lookup x == some .cell
def chkC (v : PyData) (c : Const) : Bool := match v, c with
  | .none, .none => true
  | .bool a, .bool b => decide (a = b)
  | .int i, .int j => decide (i = j)
  | .str x, .str y => decide (x = y)
  | _, _ => false
/-- a class by its name -/
def chkC1 (c : Ck) (sc : Scope) (k : Nat) (e : Expr) : Bool := match xName e with
  | some z => isB sc z (nmX k) && (decide (k = 0) || decide (k = 1) || decide (k ∈ c.cs))
  | none => false
def chkCs (c : Ck) (sc : Scope) : List Nat → List Expr → Bool
  | [], [] => true
  | k :: ks, e :: es => chkC1 c sc k e && chkCs c sc ks es
  | _, _ => false
/-- a class, a tuple of classes -/
def chkCl (c : Ck) (sc : Scope) (ks : List Nat) (e : Expr) : Bool := match xTup e with
  | some es => chkCs c sc ks es
  | none => (match ks with
    | [k] => chkC1 c sc k e
    | _ => false)
mutual
def chkE (c : Ck) (sc : Scope) : ME → Expr → Bool
  | .var i, e => match xName e with
    | some x => decide (c.N[i]? = some x) && vis sc x
    | none => false
  | .rd i, e => match xName e with
    | some x => decide (c.N[i]? = some x) && vis sc x
    | none => false
  | .brw m, e => chkE c sc m e
  | .gl k, e => match xName e with
    | some x => decide (x = Str.ofString (gnm k)) && glb sc x && decide (k ∈ c.gs)
    | none => false
  | .k v, e => match xConst e with
    | some k => chkC v k
    | none => false
  | .tup es, e => match xTup e with
    | some xs => chkEs c sc es xs
    | none => false
  | .lst es, e => match xLst e with
    | some xs => chkEs c sc es xs
    | none => false
  | .dict0, e => xDict0 e
  | .o1 op a, e => match b1 op with
    | some (n, _) => (match xCall e with
      | some (f, [x]) => (!c.hot || cool1 op) && isB sc f n && notStar x && chkE c sc a x
      | _ => false)
    | none => match op with
      | .not => (match xUn e with
        | some (.Not, x) => chkE c sc a x && !rdO a
        | _ => false)
      | .neg => (match xUn e with
        | some (.USub, x) => chkE c sc a x
        | _ => false)
      | .isNone => (match xCmp e with
        | some (x, .Is, .Constant .none _ _) => chkE c sc a x
        | _ => false)
      | .notNone => (match xCmp e with
        | some (x, .IsNot, .Constant .none _ _) => chkE c sc a x
        | _ => false)
      | .rev => (match xRev e with
        | some x => chkE c sc a x
        | none => false)
      | .sortedSet => (match xCall e with
        | some (f, [y]) => !c.hot && isB sc f "sorted" && (match xCall y with
          | some (g, [x]) => isB sc g "set" && notStar x && chkE c sc a x
          | _ => false)
        | _ => false)
      | .lenSet => (match xCall e with
        | some (f, [y]) => !c.hot && isB sc f "len" && (match xCall y with
          | some (g, [x]) => isB sc g "set" && notStar x && chkE c sc a x
          | _ => false)
        | _ => false)
      | _ => false
  | .o2 op a b, e => match binOf op with
    | some o => (match xBin e with
      | some (x, o', y) => decide (o = o') && chkE c sc a x && chkE c sc b y
      | none => false)
    | none => match cmpOf op with
      | some o => (match xCmp e with
        | some (x, o', y) => decide (o = o') && chkE c sc a x && chkE c sc b y && notSet y
        | none => false)
      | none => match b2 op with
        | some n => (match xCall e with
          | some (f, [x, y]) => !c.hot && isB sc f n && notStar x && notStar y && chkE c sc a x && chkE c sc b y
          | _ => false)
        | none => match op with
          | .ix => (match xSub e with
            | some (x, y) => chkE c sc a x && chkE c sc b y && notSlice y
            | none => false)
          | _ => false
  | .mth op a b, e => match m1 op with
    | some n => (match xMeth e with
      | some (x, m, y) => decide (m = Str.ofString n) && notStar y && chkE c sc a x && chkE c sc b y && plainBase x
      | none => false)
    | none => false
  | .slL a lo, e => match xSub e with
    | some (x, s) => (match xSlice s with
      | some (some l, none) => chkE c sc a x && chkE c sc lo l
      | _ => false)
    | none => false
  | .slU a hi, e => match xSub e with
    | some (x, s) => (match xSlice s with
      | some (none, some h) => chkE c sc a x && chkE c sc hi h
      | _ => false)
    | none => false
  | .slLU a lo hi, e => match xSub e with
    | some (x, s) => (match xSlice s with
      | some (some l, some h) => chkE c sc a x && chkE c sc lo l && chkE c sc hi h
      | _ => false)
    | none => false
  | .and a b, e => match xBool e with
    | some (.And, x :: y :: xs, p) => chkE c sc a x && !rdO a && chkE c sc b (restB .And (y :: xs) p) && !rdO b && (xs.isEmpty || isAO b)
    | _ => false
  | .or a b, e => match xBool e with
    | some (.Or, x :: y :: xs, p) => chkE c sc a x && !rdO a && chkE c sc b (restB .Or (y :: xs) p) && !rdO b && (xs.isEmpty || isAO b)
    | _ => false
  | .ife p a b, e => match xIf e with
    | some (y, x, z) => chkE c sc p y && !rdO p && chkE c sc a x && !rdO a && chkE c sc b z && !rdO b
    | none => false
  | .chain p q a b d, e => match xCmp2 e with
    | some (x, o1, y, o2, z) => decide (cmpOf p = some o1) && decide (cmpOf q = some o2) && chkE c sc a x && chkE c sc b y && chkE c sc d z && notSet y && notSet z
    | none => false
  | .call f as, e => match xCall e with
    | some (x, y :: ys) => (if c.hot then decide (c.hm f = some x) else decide (c.nm f = some x)) && glb sc x && chkA c sc as (y :: ys) && notStar y
    | _ => false
  | .draw i m, e => match xCall e with
    | some (x, [g, y]) => !c.hot && isB sc x "_law_next" && (match xName g with
      | some z => decide (c.N[i]? = some z) && vis sc z
      | none => false) && notStar y && chkE c sc m y && !rdO m
    | _ => false
  | .isi ts a, e => match xCall e with
    | some (f, [x, t]) => isB sc f "isinstance" && notStar x && chkE c sc a x && !rdO a && (match ts with
      | [u] => (match xName t with
        | some z => isB sc z (tyName u)
        | none => false)
      | _ => false)
    | _ => false
  | .lc _ tg it m, e => match xLc e with
    | some (elt, [⟨t, i, [], 0⟩], s) => !c.hot && notSet i && chkI c sc it t i true && chkT c.N (relS s sc) (fnB s) tg t && chkE c (relS s sc) m elt && !rdO m && blkC c.N sc s (ownOf c.N s) && decide ((ownOf c.N s).map (·.2) = slotsT tg)
    | _ => false
  | .lcIf _ tg it p m, e => match xLc e with
    | some (elt, [⟨t, i, [q], 0⟩], s) => !c.hot && notSet i && chkI c sc it t i true && chkT c.N (relS s sc) (fnB s) tg t && chkE c (relS s sc) p q && !rdO p && chkE c (relS s sc) m elt && !rdO m && blkC c.N sc s (ownOf c.N s) && decide ((ownOf c.N s).map (·.2) = slotsT tg)
    | _ => false
  | .lc2 _ t1 i1 t2 i2 m, e => match xLc e with
    | some (elt, [⟨u1, j1, [], 0⟩, ⟨u2, j2, [], 0⟩], s) => !c.hot && notSet j1 && notSet j2 && chkI c sc i1 u1 j1 true && chkT c.N (relS s sc) (fnB s) t1 u1 && chkI c (relS s sc) i2 u2 j2 false && chkT c.N (relS s sc) (fnB s) t2 u2 && chkE c (relS s sc) m elt && !rdO m &&
        blkC c.N sc s (ownOf c.N s) && decide ((ownOf c.N s).map (·.2) = slotsT t1 ++ slotsT t2)
    | _ => false
  | .fld a f, e => match xAttr e with
    | some (x, g) => c.hot && decide (g = Str.ofString f) && chkE c sc a x && !rdO a && (xName x).isSome
    | none => false
  | .isx ks a, e => match xCall e with
    | some (f, [x, t]) => c.hot && isB sc f "isinstance" && notStar x && chkE c sc a x && !rdO a && chkCl c sc ks t && decide (ks.length ≤ 1000)
    | _ => false
  | .alone _, _ => false
  | .ofI l it, e => match xCall e with
    | some (f, [x]) => !c.hot && isB sc f (if l then "list" else "tuple") && (match it with
      | .range1 _ => chkI c sc it (.Name f ⟨0, 0, 0, 0⟩) x true
      | .range _ _ => chkI c sc it (.Name f ⟨0, 0, 0, 0⟩) x true
      | _ => false)
    | _ => false
def chkEs (c : Ck) (sc : Scope) : MEs → List Expr → Bool
  | .nil, [] => true
  | .cons m r, x :: xs => notStar x && chkE c sc m x && !rdO m && chkEs c sc r xs
  | .star m r, x :: xs => (match xStar x with
    | some y => chkE c sc m y && chkEs c sc r xs
    | none => false)
  | _, _ => false
def chkA (c : Ck) (sc : Scope) : MEs → List Expr → Bool
  | .nil, [] => true
  | .cons m r, x :: xs => notStar x && chkE c sc m x && !rdO m && chkA c sc r xs
  | .star m r, x :: xs => (match xStar x with
    | some y => chkE c sc m y && chkA c sc r xs
    | none => false)
  | _, _ => false
/-- what is walked: with the target (enumerate, zip want a tuple), and whether a list of the frame's own may be walked -/
def chkI (c : Ck) (sc : Scope) : MI → Expr → Expr → Bool → Bool
  | .seq m, _, e, r => chkE c sc m e && (r || !rdO m)
  | .range a b, _, e, _ => match xCall e with
    | some (f, [x, y]) => isB sc f "range" && notStar x && notStar y && chkE c sc a x && chkE c sc b y
    | _ => false
  | .range1 b, _, e, _ => match xCall e with
    | some (f, [y]) => isB sc f "range" && notStar y && chkE c sc b y
    | _ => false
  | .range3 _ _ _, _, _, _ => false
  | .enum m, t, e, r => match xCall e with
    | some (f, [x]) => isB sc f "enumerate" && notStar x && chkE c sc m x && (r || !rdO m) && (xTup t).isSome
    | _ => false
  | .zip a b, t, e, r => match xCall e with
    | some (f, [x, y]) => isB sc f "zip" && notStar x && notStar y && chkE c sc a x && chkE c sc b y && (r || (!rdO a && !rdO b))
    | _ => false
end

def xAsg : Stmt → Option (Expr × Expr × Pos)
  | .Assign [t] v p => some (t, v, p)
  | _ => none
def xExpr : Stmt → Option (Expr × Pos)
  | .Expr e p => some (e, p)
  | _ => none
def isDoc : Stmt → Bool
  | .Expr (.Constant (.str _) _ _) _ => true
  | _ => false
def isLcX : Expr → Bool
  | .ListComp _ _ _ _ => true
  | .SetComp _ _ _ _ => true
  | .DictComp _ _ _ _ _ => true
  | _ => false
def isTupX : Expr → Bool
  | .Tuple _ _ _ => true
  | _ => false
/-- name = [..] on one line: the swapped form -/
def swC (sc : Scope) (y : Str) (py : Pos) : Expr → Bool
  | .ListComp _ _ s p => decide (sc.names.lookup y = some .local) && py.line == p.line && !(s.names.any fun (n, k) => n == y && (k == .local || k == .cell))
  | .SetComp _ _ _ _ => true
  | .DictComp _ _ _ _ _ => true
  | _ => false
def isLcM : ME → Bool
  | .lc _ _ _ _ => true
  | .lcIf _ _ _ _ _ => true
  | .lc2 _ _ _ _ _ _ => true
  | _ => false
def xRet : Stmt → Option (Option Expr)
  | .Return e _ => some e
  | _ => none
def xIfS : Stmt → Option (Expr × List Stmt × List Stmt)
  | .If c a b _ => some (c, a, b)
  | _ => none
def xFor : Stmt → Option (Expr × Expr × List Stmt)
  | .For t i b [] _ => some (t, i, b)
  | _ => none
def xWhl : Stmt → Option (Expr × List Stmt)
  | .While c b [] _ => some (c, b)
  | _ => none
def xAug : Stmt → Option (Str × Operator × Expr)
  | .AugAssign (.Name x _) o e _ => some (x, o, e)
  | _ => none
def isBrk : Stmt → Bool
  | .Break _ => true
  | _ => false
def isCont : Stmt → Bool
  | .Continue _ => true
  | _ => false
def isPass : Stmt → Bool
  | .Pass _ => true
  | _ => false
/-- o.m(..) of a name -/
def xNMeth : Expr → Option (Str × Str × List Expr)
  | .Call (.Attribute (.Name o _) m ap) as [] cp => if ap.endLine == cp.line then some (o, m, as) else none
  | _ => none
/-- a name of the frame, as the statement's own -/
def nmOk (c : Ck) (sc : Scope) (i : Nat) (x : Str) : Bool := decide (c.N[i]? = some x) && vis sc x
def isIntOp : O2 → Bool
  | .add => true | .sub => true | _ => false
def isStarX : Expr → Bool
  | .Starred _ _ => true
  | _ => false
def lineOf (ts : List Expr) : Nat := (ts.head?.map (·.pos.line)).getD 0
def nameOf (sc : Scope) (line : Nat) : Expr → Option Str
  | .Name id pos => if sc.names.lookup id == some .local && pos.line == line then some id else none
  | _ => none
def namesOf (sc : Scope) (line : Nat) (ts : List Expr) : List Str := ts.filterMap (nameOf sc line)
/-- which names are stored in the swapped way -/
def swapD (sc : Scope) (ts vs : List Expr) : Option (Option (List Str)) :=
  if !(ts.length == 2 || ts.length == 3) || vs.length != ts.length then some none
  else if vs.any isStarX then some none
  else if (namesOf sc (lineOf ts) ts).length != ts.length || (namesOf sc (lineOf ts) ts).eraseDups.length != (namesOf sc (lineOf ts) ts).length then some none
  else if vs.all (foldedForSure 8) then some none
  else if vs.all (constantsAlone 8) then none
  else some (some (namesOf sc (lineOf ts) ts))
def swNames (sc : Scope) (is : List Nat) (ts vs : List Expr) (ns : List Str) : Bool := match is, ts, vs, ns with
  | [i, j], [.Name x _, .Name y _], [_, _], [x', y'] => !(decide (i = j)) && kd sc x .local && kd sc y .local && decide (x' = x) && decide (y' = y)
  | [i, j, l], [.Name x _, .Name y _, .Name z _], [_, _, _], [x', y', z'] => !(decide (i = j)) && !(decide (i = l)) && !(decide (j = l)) && kd sc x .local && kd sc y .local && kd sc z .local && decide (x' = x) && decide (y' = y) && decide (z' = z)
  | _, _, _, _ => false
def chkPs (c : Ck) (sc : Scope) : List Bool → MEs → List Expr → Bool
  | [], .nil, [] => true
  | f :: fl, .cons m r, x :: xs => notStar x && chkE c sc m x && !rdO m && (!f || mk m) && chkPs c sc fl r xs
  | _, _, _ => false
def xRaise : Stmt → Option (Str × List Expr)
  | .Raise (some (.Call (.Name x _) as [] _)) none _ => some (x, as)
  | _ => none
def xTry : Stmt → Option (Stmt × List ExceptHandler)
  | .Try [s] hs [] [] _ => some (s, hs)
  | _ => none
def xHnd : ExceptHandler → Option (Str × Str × List Stmt)
  | .ExceptHandler (some (.Name x _)) (some n) b _ => some (x, n, b)
  | _ => none
/-- what is tried: one statement that leaves the frame as it is when it raises -/
def chkT1 (c : Ck) (sc : Scope) : MS → Stmt → Bool
  | .ret m, s => match xRet s with
    | some (some e) => chkE c sc m e && !rdO m
    | _ => false
  | .asg i m, s => match xAsg s with
    | some (t, v, _) => chkE c sc m v && !rdO m && (match t with
      | .Name y py => decide (c.N[i]? = some y) && locF sc allF y && !(swC sc y py v)
      | _ => false)
    | none => false
  | .ex m, s => match xExpr s with
    | some (e, _) => chkE c sc m e && !isLcX e
    | none => false
  | _, _ => false
mutual
def chkS (c : Ck) (sc : Scope) : MS → Stmt → Bool
  | .asg i m, s => match xAsg s with
    | some (t, v, _) => chkE c sc m v && !rdO m && (match t with
      | .Name y py => decide (c.N[i]? = some y) && locF sc allF y && (!(swC sc y py v) || isLcM m)
      | _ => false)
    | none => false
  | .asgO i m, s => match xAsg s with
    | some (t, v, _) => chkE c sc m v && mk m && !rdO m && (match t with
      | .Name y py => decide (c.N[i]? = some y) && locF sc allF y && (!(swC sc y py v) || isLcM m)
      | _ => false)
    | none => false
  | .asgO2 i g tg it m, s => match xAsg s with
    | some (t, v, _) => chkE c sc (.lc g tg it m) v && mk m && (match t with
      | .Name y _ => decide (c.N[i]? = some y) && locF sc allF y
      | _ => false)
    | none => false
  | .mov i j, s => match xAsg s with
    | some (t, v, _) => (match xName t, xName v with
      | some y, some x => decide (c.N[i]? = some y) && locF sc allF y && nmOk c sc j x && !(decide (i = j))
      | _, _ => false)
    | none => false
  | .unpk tg m, s => match xAsg s with
    | some (t, v, _) => !c.hot && chkE c sc m v && !rdO m && !isTupX v && isTupX t && chkT c.N sc allF tg t
    | none => false
  | .par is es, s => match xAsg s with
    | some (.Tuple ts _ _, .Tuple vs _ _, _) => !c.hot && chkPs c sc (is.map (·.1)) es vs && chkNames c.N sc allF (is.map (·.2)) ts && (match swapD sc ts vs with
      | some none => decide (is.length ≤ 30)
      | some (some ns) => swNames sc (is.map (·.2)) ts vs ns
      | none => false)
    | _ => false
  | .app i m, s => match xExpr s with
    | some (e, _) => (match xNMeth e with
      | some (x, f, [a]) => nmOk c sc i x && decide (f = Str.ofString "append") && notStar a && chkE c sc m a && !rdO m
      | _ => false)
    | none => false
  | .ext i m, s => match xExpr s with
    | some (e, _) => (match xNMeth e with
      | some (x, f, [a]) => nmOk c sc i x && decide (f = Str.ofString "extend") && notStar a && chkE c sc m a
      | _ => false)
    | none => false
  | .popTo i l m, s => match xAsg s with
    | some (t, v, _) => (match xName t, xNMeth v with
      | some y, some (x, f, [a]) => decide (c.N[i]? = some y) && locF sc allF y && nmOk c sc l x && decide (f = Str.ofString "pop") && notStar a && chkE c sc m a
      | _, _ => false)
    | none => false
  | .popLast i l, s => match xAsg s with
    | some (t, v, _) => (match xName t, xNMeth v with
      | some y, some (x, f, []) => decide (c.N[i]? = some y) && locF sc allF y && nmOk c sc l x && decide (f = Str.ofString "pop")
      | _, _ => false)
    | none => false
  | .appPop i l m, s => match xExpr s with
    | some (e, _) => (match xNMeth e with
      | some (x, f, [a]) => (match xNMeth a with
        | some (y, g, [k]) => nmOk c sc i x && nmOk c sc l y && !(decide (i = l)) && decide (f = Str.ofString "append") && decide (g = Str.ofString "pop") && notStar k && chkE c sc m k
        | _ => false)
      | _ => false)
    | none => false
  | .setII l i j m, s => match xAsg s with
    | some (t, v, _) => chkE c sc m v && !rdO m && !isLcX v && (match xSub t with
      | some (o, kj) => (match xSub o with
        | some (o2, ki) => (match xName o2 with
          | some x => nmOk c sc l x && chkE c sc i ki && notSlice ki && chkE c sc j kj && notSlice kj
          | none => false)
        | none => false)
      | none => false)
    | none => false
  | .setI l i m, s => match xAsg s with
    | some (t, v, _) => chkE c sc m v && !rdO m && !isLcX v && (match xSub t with
      | some (o, k) => (match xName o with
        | some x => nmOk c sc l x && chkE c sc i k && notSlice k
        | none => false)
      | none => false)
    | none => false
  | .aug i op m, s => match xAug s with
    | some (x, o, e) => decide (c.N[i]? = some x) && locF sc allF x && vis sc x && decide (binOf op = some o) && isIntOp op && chkE c sc m e
    | none => false
  | .ex m, s => match xExpr s with
    | some (e, _) => chkE c sc m e && !isLcX e
    | none => false
  | .ret m, s => match xRet s with
    | some (some e) => chkE c sc m e && !rdO m
    | _ => false
  | .retN, s => match xRet s with
    | some none => true
    | _ => false
  | .ite p a b, s => match xIfS s with
    | some (e, x, y) => chkE c sc p e && !rdO p && chkSs c sc a x && chkSs c sc b y
    | none => false
  | .for _ tg it b, s => match xFor s with
    | some (t, i, x) => !c.hot && notSet i && chkI c sc it t i false && chkT c.N sc allF tg t && chkSs c sc b x
    | none => false
  | .whl p b, s => match xWhl s with
    | some (e, x) => !c.hot && chkE c sc p e && !rdO p && chkSs c sc b x
    | none => false
  | .rais k es, s => match xRaise s with
    | some (x, as) => !c.hot && isB sc x (nmX k) && decide (k ∈ c.cs) && chkEs c sc es as && decide (as.length = (fsX k).length) && as.all notStar
    | none => false
  | .tryx b hs, s => match xTry s with
    | some (t, hds) => !c.hot && chkT1 c sc b t && chkH c sc hs hds && !hds.isEmpty
    | none => false
  | .brk, s => isBrk s
  | .cont, s => isCont s
  | .pass, s => isPass s
  | .never, _ => true
  | _, _ => false
def chkSs (c : Ck) (sc : Scope) : MSs → List Stmt → Bool
  | .nil, [] => true
  | .nil, _ :: _ => false
  | .cons (.frz _) r, ss => chkSs c sc r ss
  | .cons s r, t :: ts => chkS c sc s t && chkSs c sc r ts
  | .cons _ _, [] => false
/-- the except clauses -/
def chkH (c : Ck) (sc : Scope) : MHs → List ExceptHandler → Bool
  | .nil, [] => true
  | .cons k i s r, h :: hds => (match xHnd h with
    | some (x, n, b) => isB sc x (nmX k) && decide (k ∈ c.cs) && decide (c.N[i]? = some n) && kd sc n .local && !b.isEmpty && chkSs c.ht sc s b
    | none => false) && chkH c sc r hds
  | _, _ => false
end
end Mp
namespace PySem
namespace XM
open PySem.W PySem.Calls PyProof.Rows PySem.HandSPX
def iA1 (f : Str) (p1 p2 : Pos) : Arguments := { posonlyargs := [], args := [{ arg := PySem.Str.ofString "self", annotation := none, pos := p1 }, { arg := f, annotation := none, pos := p2 }], vararg := none, kwonlyargs := [], kw_defaults := [], kwarg := none, defaults := [] }
def iB1 (f : Str) (q1 q2 q3 q4 : Pos) : List Stmt := [.Assign [.Attribute (.Name (PySem.Str.ofString "self") q1) f q2] (.Name f q3) q4]
def iS1 (f : Str) : Scope := { kind := .function, names := [(PySem.Str.ofString "self", .local), (f, .local)], isGenerator := false, isCoroutine := false, more := [] }
def iA2 (f g : Str) (p1 p2 p3 : Pos) : Arguments := { posonlyargs := [], args := [{ arg := PySem.Str.ofString "self", annotation := none, pos := p1 }, { arg := f, annotation := none, pos := p2 }, { arg := g, annotation := none, pos := p3 }], vararg := none, kwonlyargs := [], kw_defaults := [], kwarg := none, defaults := [] }
def iB2 (f g : Str) (q1 q2 q3 q4 r1 r2 r3 r4 : Pos) : List Stmt := [.Assign [.Attribute (.Name (PySem.Str.ofString "self") q1) f q2] (.Name f q3) q4, .Assign [.Attribute (.Name (PySem.Str.ofString "self") r1) g r2] (.Name g r3) r4]
def iS2 (f g : Str) : Scope := { kind := .function, names := [(PySem.Str.ofString "self", .local), (f, .local), (g, .local)], isGenerator := false, isCoroutine := false, more := [] }
/-- a name of a field -/
def fldOk (f : Str) : Bool := !(f == PySem.Str.ofString "self") && !(f == ("__debug__" : Str))
/-- a built-in class that own exceptions stand on -/
inductive Bs : List Value → String → Prop
  | ve : Bs [.type "ValueError", .type "Exception", .type "BaseException", .type "object"] "ValueError.__new__"
  | le : Bs [.type "LookupError", .type "Exception", .type "BaseException", .type "object"] "LookupError.__new__"
theorem Bs.base {bmB : List Value} {n : String} (h : Bs bmB n) : ∃ B i, ExcBaseFacts B n i bmB := by
  cases h with
  | ve => exact ⟨_, _, F.excBase_ValueError⟩
  | le => exact ⟨_, _, F.excBase_LookupError⟩
theorem Bs.store {bmB : List Value} {n : String} (h : Bs bmB n) : ∃ B, StoreFacts B bmB "object.__setattr__" "object" := by
  cases h with
  | ve => exact ⟨_, F.store_ValueError⟩
  | le => exact ⟨_, F.store_LookupError⟩
/-- what the written part says of an own exception class, at C -/
structure XTxt (K : Frag) (mg : Str → Option Value) (x : Str) (C : Addr) (bm bmB : List Value) (nw : String) : Prop where
  bs : Bs bmB nw
  tl : excTail bmB bm = true
  gC : mg x = some (.ref C)
  cls : ∃ q N bs sn sub ab col dd k0 k1 k2 k3 k5, K.lookup C = some (excClassObj x q C N bs bm true sn sub ab col dd k0 k1 k2 k3 k5 nw)
  sa : findIn K (.ref C) "__setattr__" = some (some (.builtin "object.__setattr__"))
  ga : findIn K (.ref C) "__getattribute__" = some (some (.builtin "BaseException.__getattribute__"))
  gg : findIn K (.ref C) "__getattr__" = some none
  kC : keepIn K (.ref C) = true
  exC : subIn K (.ref C) (.type "BaseException") = some true
  tyC : typeIn K (.ref C) = some (.type "type")
  ca : findIn K (.ref C) "__class__" = some (some (.builtin "object.__class__"))
  cn : specialIn K (.builtin "object.__class__") "__get__" = some (some (.builtin "getset_descriptor.__get__"))
  ct : takesIn K (.builtin "object.__class__") = some true
  cm : mroIn K C (.type "object") = some true
section
variable {K : Frag} {mg : Str → Option Value} {x : Str} {C : Addr} {bm bmB : List Value} {nw : String}
theorem XTxt.cl (T : XTxt K mg x C bm bmB nw) : ∃ cd, clsIn K C = some cd ∧ cd.hasDict = true ∧ cd.mro = .ref C :: bm := by
  obtain ⟨q, N, bs, sn, sub, ab, col, dd, k0, k1, k2, k3, k5, hC⟩ := T.cls
  have hbm := T.tl
  exact ⟨_, by unfold clsIn; rw [hC] <;> rfl, rfl, rfl⟩
theorem XTxt.over (T : XTxt K mg x C bm bmB nw) : excOver K C bmB = true := by
  obtain ⟨q, N, bs, sn, sub, ab, col, dd, k0, k1, k2, k3, k5, hC⟩ := T.cls
  have hbm := T.tl
  unfold excOver clsIn
  rw [hC]
  show (C == C && excTail bmB bm) = true
  rw [hbm]
  simp
theorem XTxt.hd (T : XTxt K mg x C bm bmB nw) : hasDictIn K C = true := by
  obtain ⟨cd, h1, h2, _⟩ := T.cl
  unfold hasDictIn
  rw [h1]
  exact h2
end
section
variable {K : Frag} {mg : Str → Option Value} {x : Str} {C : Addr} {bm bmB : List Value} {nw : String}
theorem XTxt.sub (T : XTxt K mg x C bm bmB nw) (b : Value) : subIn K (.ref C) b = some ((Value.ref C :: bm).contains b) := by
  obtain ⟨cd, h1, _, h3⟩ := T.cl
  show (clsIn K C).bind _ = _
  rw [h1, Option.bind_some, h3]
  rfl
theorem XTxt.kit (T : XTxt K mg x C bm bmB nw) (t : Value) : kitCls K t (.ref C) = subIn K t (.ref C) := by
  obtain ⟨cd, h1, _⟩ := T.cl
  show (if ((clsIn K C).isSome && typeIn K (.ref C) == some (.type "type")) = true then subIn K t (.ref C) else none) = _
  rw [h1, T.tyC]
  rfl
theorem XTxt.ne (T : XTxt K mg x C bm bmB nw) {x' : Str} {C' : Addr} {bm' bmB' : List Value} {nw' : String} (T' : XTxt K mg x' C' bm' bmB' nw') (h : x ≠ x') : C ≠ C' := fun e => by
  subst e
  obtain ⟨q, N, bs, sn, sub, ab, col, dd, k0, k1, k2, k3, k5, hC⟩ := T.cls
  obtain ⟨q', N', bs', sn', sub', ab', col', dd', k0', k1', k2', k3', k5', hC'⟩ := T'.cls
  rw [hC] at hC'
  have e := Option.some.inj hC'
  unfold excClassObj at e
  injection e with _ _ e _
  injection e with e
  injection e with e
  exact h e
end
theorem kept_but {K : Frag} {h h' : Heap} {x : Addr} (X : K.In h) (hx : K.lookup x = none) (k : ∀ b o, b ≠ x → h.get? b = some o → h'.get? b = some o) : K.In h' := fun a o e =>
  k a o (fun z => by rw [z, hx] at e; cases e) (X a o e)
theorem ldC {M : Model} {s : Shared} {name : Str} {scope : Scope} {L a : Addr} {cd : Value} {m : Str → Option Value} {x : Str} {pos : Pos} {v : Value} {Q : Value → Shared → Prop} {A : Around} {E : Value → Shared → Prop} (hn : s.heap.Ns L m) (hv : m x = some v) (h : Q v s)
    (hk : scope.kind = .function) (hl : (envOfC name scope L a cd).kindOf x = some .local) (hd : (x == ("__debug__" : Str)) = false) :
    wpAny M A (eval (.Name x pos) (envOfC name scope L a cd)) Q E s := wpAny_Name (wpAny_loadName_local hk hl hn hv h) hd
theorem taker_none {K : Frag} {C : Addr} {f : Str} (h : findIn K (.ref C) f = some none) : takerIn K C f = some none := by
  unfold takerIn
  rw [h]
  rfl
/-- what __init__ leaves of a fresh exception at x -/
structure InitEnd (h h' : Heap) (x C dx t1 : Addr) (fs : List (Str × Value)) : Prop where
  keep : ∀ b o, b ≠ x → h.get? b = some o → h'.get? b = some o
  obj : h'.get? x = some { cls := .ref C, dict := some dx, data := .fields #[.ref t1, .none, .none, .none, .bool false, .none] }
  dbig : h.objs.size ≤ dx
  dne : dx ≠ x
  ns : h'.Ns1 dx (fun y => fs.lookup y)
section
variable {prog : Program} {w : World} {A : Around} {E : Value → Shared → Prop} {R : Result → Shared → Prop} {hp : Heap} {g : Array GenState} {d : Drawn} {t : Nat} {os : OsState} {K : Frag} {mg : Str → Option Value} {xn : Str} {C : Addr} {bm bmB : List Value} {nw : String}
/-- x.name = v on an exception that has no dict yet -/
theorem osa_new (T : XTxt K mg xn C bm bmB nw) {name : Str} {tk : Tok} {v : Value} {x t0 : Addr} (X : K.In hp) (hx : hp.get? x = some (excO C t0)) (nf : findIn K (.ref C) name = some none)
    (hq : ∀ h' tk' dx, (∀ b o, b ≠ x → hp.get? b = some o → h'.get? b = some o) → hp.objs.size ≤ dx → dx ≠ x → h'.get? x = some { cls := .ref C, dict := some dx, data := .fields #[.ref t0, .none, .none, .none, .bool false, .none] } →
      h'.Ns1 dx (fun y => if y = name then some v else none) → R (.ok (.ret .none)) ⟨h', g, d, tk', os⟩) :
    codeAny (model prog w) A (.call (.builtin "object.__setattr__") ⟨[.ref x, .str name tk, v], []⟩) R ⟨hp, g, d, t, os⟩ := by
  obtain ⟨B, SF⟩ := T.bs.store
  obtain ⟨cd, hc, hd', _⟩ := T.cl
  have hxs : x ≠ hp.objs.size := Nat.ne_of_lt (Heap.lt_size hx)
  refine osa_openX (od := none) SF X ⟨hx, rfl, rfl, trivial⟩ T.over (taker_none nf) fun b => ?_
  refine wpAny_bind (wpAny_pure (wpAny_bind (instanceDict_exc (c2 := .none) hx (looks_clsIn X hc) hd' ?_)))
  show wpAny _ _ (Builtin.ObjectAttr.storeInDict hp.objs.size (.str name tk) name v) _ _ _
  refine store_in_new ?_ fun h' tk' hn' hs => ?_
  · exact ⟨_, #[], _, (Heap.get?_update_ne _ _ _ _ hxs.symm).trans (Heap.get?_push_at rfl rfl), rfl, fun e he => absurd he (by simp), fun _ => rfl⟩
  · have hx₁ : (hp.push (dictOf [] 0)).get? x = some (excO C t0) := Heap.get?_push_of_some _ hx
    refine hq h' tk' hp.objs.size (fun b o hb ho => ?_) (Nat.le_refl _) hxs.symm ?_ hn'
    · exact (hs.2 b (Nat.ne_of_lt (Heap.lt_size ho))).trans ((Heap.get?_update_ne _ _ _ _ hb).trans (Heap.get?_push_of_some _ ho))
    · exact (hs.2 x hxs).trans (Heap.get?_update_self _ hx₁ rfl)
/-- a further one -/
theorem osa_old (T : XTxt K mg xn C bm bmB nw) {name : Str} {tk : Tok} {v : Value} {x dx : Addr} {fv : Array Value} {m0 : Str → Option Value} {nl : List Str} (X : K.In hp) (hx : hp.get? x = some { cls := .ref C, dict := some dx, data := .fields fv })
    (hns : hp.Ns1 dx m0) (hw : Within m0 nl) (hz : nl.length ≤ 1000) (nf : findIn K (.ref C) name = some none)
    (hq : ∀ h' tk', (∀ b o, b ≠ dx → hp.get? b = some o → h'.get? b = some o) → h'.Ns1 dx (fun y => if y = name then some v else m0 y) → R (.ok (.ret .none)) ⟨h', g, d, tk', os⟩) :
    codeAny (model prog w) A (.call (.builtin "object.__setattr__") ⟨[.ref x, .str name tk, v], []⟩) R ⟨hp, g, d, t, os⟩ := by
  obtain ⟨B, SF⟩ := T.bs.store
  obtain ⟨cd, hc, hd', _⟩ := T.cl
  obtain ⟨oD, esD, epD, hoD, hdD, _⟩ := hns.count hw
  refine osa_openX (od := some oD) SF X ⟨hx, rfl, rfl, hoD⟩ T.over (taker_none nf) fun b => ?_
  refine wpAny_bind (wpAny_pure (wpAny_bind (wpAny_bind (wpAny_loadPart hx (wpAny_bind ((looks_clsIn X hc).here ?_))))))
  rw [hd']
  refine wpAny_pure (a := some dx) ?_
  exact OEX.store_in_old hns hw hz fun h' tk' hn' hs => hq h' tk' (fun b o hb ho => (hs.2 b hb).trans ho) hn'
/-- def __init__(self, f): self.f = f -/
theorem init1 (T : XTxt K mg xn C bm bmB nw) {fI : Addr} {f qual : Str} {p1 p2 q1 q2 q3 q4 : Pos} {doc pm cdv ct oc : Value} {an od : Option Addr} {osl : Array (Option Value)} (hf : fldOk f = true) (nf : findIn K (.ref C) f = some none)
    (lk : K.lookup fI = some ⟨oc, od, .func (fnOf (PySem.Str.ofString "__init__") qual (iA1 f p1 p2) (iB1 f q1 q2 q3 q4) (iS1 f) .none .none doc pm an cdv ct), osl⟩) (hcd : codeIn K cdv qual = true)
    (hbd : ∀ a b : Value, bindArgs (fnOf (PySem.Str.ofString "__init__") qual (iA1 f p1 p2) (iB1 f q1 q2 q3 q4) (iS1 f) .none .none doc pm an cdv ct) ⟨[a, b], []⟩ = pure [(PySem.Str.ofString "self", a), (f, b)])
    {s : Shared} {x t0 : Addr} {v : Value} (X : K.In s.heap) (hlim : s.heap.NoLimit) (hx : s.heap.get? x = some (excO C t0)) (hroom : A.depth < recursionLimit)
    (hq : ∀ h' tk dx, InitEnd s.heap h' x C dx t0 [(f, v)] → R (.ok (.ret .none)) { s with heap := h', toks := tk }) :
    codeAny (model prog w) A (.call (.ref fI) ⟨[.ref x, v], []⟩) R s := by
  unfold fldOk at hf
  simp only [Bool.and_eq_true, Bool.not_eq_true'] at hf
  obtain ⟨f1, f2⟩ := hf
  have e1 : f ≠ PySem.Str.ofString "self" := by simpa using f1
  have kx : (iS1 f).names.lookup f = some .local := by
    show List.lookup f [(PySem.Str.ofString "self", NameKind.local), (f, .local)] = _
    simp [List.lookup, f1]
  have ks : (iS1 f).names.lookup (PySem.Str.ofString "self") = some .local := by
    show List.lookup (PySem.Str.ofString "self") [(PySem.Str.ofString "self", NameKind.local), (f, .local)] = _
    simp [List.lookup]
  refine Att.call_fn (binds := [(PySem.Str.ofString "self", .ref x), (f, v)]) X hlim lk hcd hroom (BindsTo.of_eq (hbd _ _)) (by simp [kx, ks]) (fun s₁ IC => ?_) rfl rfl rfl
  obtain ⟨h₁, tk₁, rfl⟩ := IC.toInCall.same
  have k : ∀ b o, s.heap.get? b = some o → h₁.get? b = some o := IC.toInCall.keep
  have hn := IC.toInCall.ns
  have X₁ : K.In h₁ := X.keeps k
  have hx₁ := k _ _ hx
  show wpAny _ _ (execs _ _) _ _ _
  refine wpAny_execs_cons (plainObj_wpAny_Assign_Attribute ?_)
  have b1 : bindL (envOfC qual (iS1 f) s.heap.objs.size fI cdv).kindOf [(PySem.Str.ofString "self", Value.ref x), (f, v)] (fun _ => none) = fun y => if y = f then some v else if y = PySem.Str.ofString "self" then some (.ref x) else none := by
    have k1 : (envOfC qual (iS1 f) s.heap.objs.size fI cdv).kindOf (PySem.Str.ofString "self") = some .local := ks
    have k2 : (envOfC qual (iS1 f) s.heap.objs.size fI cdv).kindOf f = some .local := kx
    simp only [bindL, k1, k2, if_true]
  rw [b1] at hn
  refine ldC (v := v) hn (by simp) (ldC (v := .ref x) hn (by simp [Ne.symm e1]) ?_ rfl ks (by decide)) rfl kx f2
  refine set_plain X₁ (ox := excO C t0) (od := none) ⟨hx₁, rfl, rfl, trivial⟩ T.sa ?_
  refine osa_new T X₁ hx₁ nf (fun h₃ tk₃ dx k₃ dn dne hx₃ hn₃ => ?_)
  show wpAny _ _ (execs _ _) _ _ _
  have z : s.heap.objs.size < h₁.objs.size := hn.lt
  refine wpAny_execs_nil (hq h₃ tk₃ dx ⟨fun b o hb e => k₃ b o hb (k b o e), hx₃, Nat.le_of_lt (Nat.lt_of_lt_of_le z dn), dne, ?_⟩)
  have e : (fun y => if y = f then some v else none) = fun y => List.lookup y [(f, v)] := by
    funext y
    by_cases hy : y = f
    · subst hy
      simp [List.lookup]
    · have hy' : (y == f) = false := by simpa using hy
      rw [if_neg hy]
      simp [List.lookup, hy']
  rw [← e]
  exact hn₃
/-- def __init__(self, f, g): self.f = f; self.g = g -/
theorem init2 (T : XTxt K mg xn C bm bmB nw) {fI : Addr} {f g2 qual : Str} {p1 p2 p3 q1 q2 q3 q4 r1 r2 r3 r4 : Pos} {doc pm cdv ct oc : Value} {an od : Option Addr} {osl : Array (Option Value)} (hf : fldOk f = true) (hg : fldOk g2 = true) (hne : (g2 == f) = false)
    (nf : findIn K (.ref C) f = some none) (ng : findIn K (.ref C) g2 = some none)
    (lk : K.lookup fI = some ⟨oc, od, .func (fnOf (PySem.Str.ofString "__init__") qual (iA2 f g2 p1 p2 p3) (iB2 f g2 q1 q2 q3 q4 r1 r2 r3 r4) (iS2 f g2) .none .none doc pm an cdv ct), osl⟩) (hcd : codeIn K cdv qual = true)
    (hbd : ∀ a b c : Value, bindArgs (fnOf (PySem.Str.ofString "__init__") qual (iA2 f g2 p1 p2 p3) (iB2 f g2 q1 q2 q3 q4 r1 r2 r3 r4) (iS2 f g2) .none .none doc pm an cdv ct) ⟨[a, b, c], []⟩ = pure [(PySem.Str.ofString "self", a), (f, b), (g2, c)])
    {s : Shared} {x t0 : Addr} {v u : Value} (X : K.In s.heap) (hlim : s.heap.NoLimit) (hx : s.heap.get? x = some (excO C t0)) (hnx : K.lookup x = none) (hroom : A.depth < recursionLimit)
    (hq : ∀ h' tk dx, InitEnd s.heap h' x C dx t0 [(f, v), (g2, u)] → R (.ok (.ret .none)) { s with heap := h', toks := tk }) :
    codeAny (model prog w) A (.call (.ref fI) ⟨[.ref x, v, u], []⟩) R s := by
  unfold fldOk at hf hg
  simp only [Bool.and_eq_true, Bool.not_eq_true'] at hf hg
  obtain ⟨f1, f2⟩ := hf
  obtain ⟨g1, g3⟩ := hg
  have e1 : f ≠ PySem.Str.ofString "self" := by simpa using f1
  have e2 : g2 ≠ PySem.Str.ofString "self" := by simpa using g1
  have e3 : g2 ≠ f := by simpa using hne
  have kx : (iS2 f g2).names.lookup f = some .local := by
    show List.lookup f [(PySem.Str.ofString "self", NameKind.local), (f, .local), (g2, .local)] = _
    simp [List.lookup, f1]
  have kg : (iS2 f g2).names.lookup g2 = some .local := by
    show List.lookup g2 [(PySem.Str.ofString "self", NameKind.local), (f, .local), (g2, .local)] = _
    simp [List.lookup, g1, hne]
  have ks : (iS2 f g2).names.lookup (PySem.Str.ofString "self") = some .local := by
    show List.lookup (PySem.Str.ofString "self") [(PySem.Str.ofString "self", NameKind.local), (f, .local), (g2, .local)] = _
    simp [List.lookup]
  refine Att.call_fn (binds := [(PySem.Str.ofString "self", .ref x), (f, v), (g2, u)]) X hlim lk hcd hroom (BindsTo.of_eq (hbd _ _ _)) (by simp [kx, ks, kg]) (fun s₁ IC => ?_) rfl rfl rfl
  obtain ⟨h₁, tk₁, rfl⟩ := IC.toInCall.same
  have k : ∀ b o, s.heap.get? b = some o → h₁.get? b = some o := IC.toInCall.keep
  have hn := IC.toInCall.ns
  have X₁ : K.In h₁ := X.keeps k
  have hx₁ := k _ _ hx
  have lt1 := hn.lt
  have b1 : bindL (envOfC qual (iS2 f g2) s.heap.objs.size fI cdv).kindOf [(PySem.Str.ofString "self", Value.ref x), (f, v), (g2, u)] (fun _ => none) = fun y => if y = g2 then some u else if y = f then some v else if y = PySem.Str.ofString "self" then some (.ref x) else none := by
    have k1 : (envOfC qual (iS2 f g2) s.heap.objs.size fI cdv).kindOf (PySem.Str.ofString "self") = some .local := ks
    have k2 : (envOfC qual (iS2 f g2) s.heap.objs.size fI cdv).kindOf f = some .local := kx
    have k3 : (envOfC qual (iS2 f g2) s.heap.objs.size fI cdv).kindOf g2 = some .local := kg
    simp only [bindL, k1, k2, k3, if_true]
  rw [b1] at hn
  show wpAny _ _ (execs _ _) _ _ _
  refine wpAny_execs_cons (plainObj_wpAny_Assign_Attribute ?_)
  refine ldC (v := v) hn (by simp [Ne.symm e3]) (ldC (v := .ref x) hn (by simp [Ne.symm e1, Ne.symm e2]) ?_ rfl ks (by decide)) rfl kx f2
  refine set_plain X₁ (ox := excO C t0) (od := none) ⟨hx₁, rfl, rfl, trivial⟩ T.sa ?_
  refine osa_new T X₁ hx₁ nf (fun h₃ tk₃ dx k₃ dn dne hx₃ hn₃ => ?_)
  have xL : s.heap.objs.size ≠ x := Nat.ne_of_gt (Heap.lt_size hx)
  have hn' : h₃.Ns s.heap.objs.size _ := hn.at fun o q => k₃ _ o xL q
  have X₃ : K.In h₃ := kept_but X₁ hnx k₃
  show wpAny _ _ (execs _ _) _ _ _
  refine wpAny_execs_cons (plainObj_wpAny_Assign_Attribute ?_)
  refine ldC (v := u) hn' (by simp) (ldC (v := .ref x) hn' (by simp [Ne.symm e1, Ne.symm e2]) ?_ rfl ks (by decide)) rfl kg g3
  have hw : Within (fun y => if y = f then some v else none) [f] := fun y hy => by
    by_cases z : y = f
    · subst z
      simp
    · exact absurd (if_neg z) hy
  obtain ⟨oD, esD, epD, hoD, hdD, _⟩ := hn₃.count hw
  refine set_plain X₃ (ox := { cls := .ref C, dict := some dx, data := .fields #[.ref t0, .none, .none, .none, .bool false, .none] }) (od := some oD) ⟨hx₃, rfl, rfl, hoD⟩ T.sa ?_
  refine osa_old T X₃ hx₃ hn₃ hw (by simp) ng (fun h₄ tk₄ k₄ hn₄ => ?_)
  show wpAny _ _ (execs _ _) _ _ _
  have e4 : (fun y => if y = g2 then some u else if y = f then some v else none) = fun y => List.lookup y [(f, v), (g2, u)] := by
    funext y
    by_cases hy : y = f
    · subst hy
      have : y ≠ g2 := Ne.symm e3
      simp [List.lookup, this]
    · have hy' : (y == f) = false := by simpa using hy
      by_cases hz : y = g2
      · subst hz
        simp [List.lookup, hy']
      · have hz' : (y == g2) = false := by simpa using hz
        rw [if_neg hz, if_neg hy]
        simp [List.lookup, hy', hz']
  refine wpAny_execs_nil (hq h₄ tk₄ dx ⟨fun b o hb e => ?_, ?_, Nat.le_of_lt (Nat.lt_of_lt_of_le lt1 dn), dne, ?_⟩)
  · have lb : b ≠ dx := Nat.ne_of_lt (Nat.lt_of_lt_of_le (Heap.lt_size (k b o e)) dn)
    exact k₄ b o lb (k₃ b o hb (k b o e))
  · exact k₄ x _ (Ne.symm dne) hx₃
  · rw [← e4]
    exact hn₄
/-- a made exception with fields -/
structure OwnMade (h h' : Heap) (e C d : Addr) (fs : List (Str × Value)) : Prop where
  keep : ∀ b o, h.get? b = some o → h'.get? b = some o
  new : h.objs.size ≤ e
  obj : ∃ oe vs, h'.get? e = some oe ∧ oe.cls = .ref C ∧ oe.dict = some d ∧ oe.data = .fields vs ∧ vs[1]? = some .none
  dbig : h.objs.size ≤ d
  dne : d ≠ e
  ns : h'.Ns1 d (fun y => fs.lookup y)
/-- its own __init__, at fI, keeps the fields -/
def InitOk (K : Frag) (C fI : Addr) (us : List Value) (fs : List (Str × Value)) : Prop := ∀ {prog : Program} {w : World} {A : Around} {R : Result → Shared → Prop} {s : Shared} {x t0 : Addr}, K.In s.heap → s.heap.NoLimit → s.heap.get? x = some (excO C t0) → K.lookup x = none → A.depth < recursionLimit →
  (∀ h' tk dx, InitEnd s.heap h' x C dx t0 fs → R (.ok (.ret .none)) { s with heap := h', toks := tk }) → codeAny (model prog w) A (.call (.ref fI) ⟨.ref x :: us, []⟩) R s
theorem made (T : XTxt K mg xn C bm bmB nw) {fI : Addr} {us : List Value} {fs : List (Str × Value)} (iC : findIn K (.ref C) "__init__" = some (some (.ref fI))) (tC : typeIn K (.ref fI) = some (.type "function")) (hI : InitOk K C fI us fs) (hus : us.length ≤ sizeLine) {s : Shared} (X : K.In s.heap) (hlim : s.heap.NoLimit) (hroom : A.depth + 1 < recursionLimit)
    (hq : ∀ h' tk e d, OwnMade s.heap h' e C d fs → R (.ok (.ret (.ref e))) { s with heap := h', toks := tk }) :
    codeAny (model prog w) A (.call (.ref C) ⟨us, []⟩) R s := by
  obtain ⟨q, N, bs, sn, sub, ab, col, dd, k0, k1, k2, k3, k5, hC⟩ := T.cls
  have hbm := T.tl
  obtain ⟨B, i, FB⟩ := T.bs.base
  obtain ⟨hp, g, dr, tk, os⟩ := s
  have k : ∀ b o, hp.get? b = some o → ((hp.push (kdv_tup us)).push (excO C hp.objs.size)).get? b = some o := fun b o e => Heap.get?_push_of_some _ (Heap.get?_push_of_some _ e)
  have hget : ((hp.push (kdv_tup us)).push (excO C hp.objs.size)).get? (hp.objs.size + 1) = some (excO C hp.objs.size) := by heap_get
  have hnx : K.lookup (hp.objs.size + 1) = none := by
    cases e : K.lookup (hp.objs.size + 1) with
    | none => rfl
    | some o =>
      have z : hp.get? (hp.objs.size + 1) = some o := X _ _ e
      exact absurd (Nat.lt_of_succ_lt (Heap.lt_size z)) (Nat.lt_irrefl _)
  refine call_own FB (fun Y => excTail_contains Y bm hbm) (X _ _ hC) (looks_findIn X iC) (fun self => bind_fn X self tC) hus ?_
  refine hI (s := ⟨(hp.push (kdv_tup us)).push (excO C hp.objs.size), g, dr, tk, os⟩) (X.keeps k) (hlim.keeps k) hget hnx ?_ fun h' tk' dx ⟨k', hx, dn, dne, hns⟩ => ?_
  · show A.depth + 1 < recursionLimit
    exact hroom
  · have old : ∀ b o, hp.get? b = some o → h'.get? b = some o := fun b o e => k' b o (Nat.ne_of_lt (Nat.lt_succ_of_lt (Heap.lt_size e))) (k b o e)
    have z : hp.objs.size + 1 + 1 ≤ dx := by
      first
        | (simpa only [Heap.size_push] using dn)
        | exact dn
        | (have q := dn; rw [Heap.size_push, Heap.size_push] at q; exact q)
    exact ⟨rfl, hq h' tk' (hp.objs.size + 1) dx ⟨old, Nat.le_succ _, ⟨_, _, hx, rfl, rfl, rfl, rfl⟩, Nat.le_trans (Nat.le_trans (Nat.le_succ _) (Nat.le_succ _)) z, dne, hns⟩⟩
end
/-- how the class makes its instances, fs its fields' names -/
def XMk (K : Frag) (C : Addr) (bmB : List Value) (nw : String) : List Str → Prop
  | [] => excIn K C bmB nw = true
  | [f] => fldOk f = true ∧ findIn K (.ref C) f = some none ∧ ∃ (fI : Addr) (qual : Str) (p1 p2 q1 q2 q3 q4 : Pos) (doc pm cdv ct oc : Value) (an od : Option Addr) (osl : Array (Option Value)),
      findIn K (.ref C) "__init__" = some (some (.ref fI)) ∧ typeIn K (.ref fI) = some (.type "function") ∧
      K.lookup fI = some ⟨oc, od, .func (fnOf (PySem.Str.ofString "__init__") qual (iA1 f p1 p2) (iB1 f q1 q2 q3 q4) (iS1 f) .none .none doc pm an cdv ct), osl⟩ ∧ codeIn K cdv qual = true ∧
      ∀ a b : Value, bindArgs (fnOf (PySem.Str.ofString "__init__") qual (iA1 f p1 p2) (iB1 f q1 q2 q3 q4) (iS1 f) .none .none doc pm an cdv ct) ⟨[a, b], []⟩ = pure [(PySem.Str.ofString "self", a), (f, b)]
  | [f, g] => fldOk f = true ∧ fldOk g = true ∧ (g == f) = false ∧ findIn K (.ref C) f = some none ∧ findIn K (.ref C) g = some none ∧ ∃ (fI : Addr) (qual : Str) (p1 p2 p3 q1 q2 q3 q4 r1 r2 r3 r4 : Pos) (doc pm cdv ct oc : Value) (an od : Option Addr) (osl : Array (Option Value)),
      findIn K (.ref C) "__init__" = some (some (.ref fI)) ∧ typeIn K (.ref fI) = some (.type "function") ∧
      K.lookup fI = some ⟨oc, od, .func (fnOf (PySem.Str.ofString "__init__") qual (iA2 f g p1 p2 p3) (iB2 f g q1 q2 q3 q4 r1 r2 r3 r4) (iS2 f g) .none .none doc pm an cdv ct), osl⟩ ∧ codeIn K cdv qual = true ∧
      ∀ a b c : Value, bindArgs (fnOf (PySem.Str.ofString "__init__") qual (iA2 f g p1 p2 p3) (iB2 f g q1 q2 q3 q4 r1 r2 r3 r4) (iS2 f g) .none .none doc pm an cdv ct) ⟨[a, b, c], []⟩ = pure [(PySem.Str.ofString "self", a), (f, b), (g, c)]
  | _ => False
theorem XMk.init {K : Frag} {mg : Str → Option Value} {xn : Str} {C : Addr} {bm bmB : List Value} {nw : String} (T : XTxt K mg xn C bm bmB nw) : ∀ {fs : List Str}, XMk K C bmB nw fs → fs ≠ [] → ∃ fI, findIn K (.ref C) "__init__" = some (some (.ref fI)) ∧ typeIn K (.ref fI) = some (.type "function") ∧ ∀ us : List Value, us.length = fs.length → InitOk K C fI us (fs.zip us)
  | [], _, h => absurd rfl h
  | [f], ⟨h1, h2, fI, qual, p1, p2, q1, q2, q3, q4, doc, pm, cdv, ct, oc, an, od, osl, h3, h4, h5, h6, h7⟩, _ => ⟨fI, h3, h4, fun us hl => match us, hl with
    | [u], _ => fun X hlim hx _ hroom hq => init1 T h1 h2 h5 h6 h7 X hlim hx hroom hq⟩
  | [f, g], ⟨h1, h1', hn, h2, h2', fI, qual, p1, p2, p3, q1, q2, q3, q4, r1, r2, r3, r4, doc, pm, cdv, ct, oc, an, od, osl, h3, h4, h5, h6, h7⟩, _ => ⟨fI, h3, h4, fun us hl => match us, hl with
    | [u, v], _ => fun X hlim hx hnx hroom hq => init2 T h1 h1' hn h2 h2' h5 h6 h7 X hlim hx hnx hroom hq⟩
  | _ :: _ :: _ :: _, h, _ => h.elim
end XM
end PySem
namespace Mp
open PySem PySem.Spec PyProof.Rows L2 PySem.XM
theorem relO_zip : ∀ {fs : List Str} {vs : List V} {us : List Value}, Vals vs us → ∀ f : Str, RelO ((fs.zip vs).lookup f) ((fs.zip us).lookup f)
  | [], _, _, _, f => by simp [RelO]
  | _ :: _, _, _, .nil, f => by simp [RelO]
  | g :: fs, _, _, .cons a b, f => by
    rw [List.zip_cons_cons, List.zip_cons_cons, List.lookup, List.lookup]
    cases h : f == g with
    | true => exact a
    | false => exact relO_zip b f
section
variable {X : Cx} {C : Addr} {bm bmB : List Value} {nw : String} {x : Str} {fs : List Str} {e : Expr} {es : List Expr} {ta : TA} {p pos : Pos}
/-- X(e, ..), X an own class whose __init__ keeps the fields -/
theorem pmk_x {k : Nat} (T : XTxt X.K X.mg x C bm bmB nw) (m : XMk X.K C bmB nw fs) (hne : fs ≠ []) (hsz : fs.length ≤ 1000) (hr : Room k X.A) (ha : PA X (e :: es) ta) (hg : Gl X x) (hdb : (x == ("__debug__" : Str)) = false)
    (he : starEach (e :: es) X.env = (false, eval e X.env) :: starEach es X.env) (hpl : (backTo pos (starEach es X.env)).any (·.1) = false) :
    PMk X (.Call (.Name x p) (e :: es) [] pos) (fun σ H Q => ta σ H fun vs H1 => vs.length = fs.length ∧ ∀ d, H1 d = none → Q (.ref C) (some d) (upd H1 d (.xd (fs.zip vs)))) := by
  intro pins s σ H Q I h
  obtain ⟨fI, iC, tC, hI⟩ := m.init T hne
  refine wpAny_Call_Name_kw (ld_glob I hg T.gC ?_ hdb)
  refine PySem.W.callWith_K (h₀ := X.base) I.ok.mod.kin T.kC (thn (ha.run pos pins s σ H _ I h) fun us s1 hh => ?_) he hpl
  obtain ⟨vs, H1, I1, r1, hl, q1⟩ := hh
  refine ⟨I1.kIn, ?_⟩
  show wpAny _ _ (call (.ref C) us) _ _ _
  have hlim := I1.nolimit
  have hlu : us.length = fs.length := by rw [← r1.length, hl]
  have hus : us.length ≤ sizeLine := by rw [hlu, sizeLine_eq]; omega
  obtain ⟨hp, g, dr, tk, os⟩ := s1
  refine wpAny_call (made T iC tC (hI us hlu) hus I1.kIn hlim (by have := hr.dp; omega) fun h' tk' e d M => ?_)
  show MkP X pins σ Q (.ref e) ⟨h', g, dr, tk', os⟩
  obtain ⟨oe, fv, hoe, hc, hd, hdat, h1⟩ := M.obj
  have hns := M.ns
  obtain ⟨G', g1, g2⟩ := restrict h' fun b => decide (b ≠ e)
  have gk : ∀ b, b ≠ e → G'.get? b = h'.get? b := fun b hb => g1 b (decide_eq_true hb)
  have ge : G'.get? e = none := g2 e (by simp)
  have old : ∀ b o, hp.get? b = some o → G'.get? b = some o := fun b o q => (gk b (Nat.ne_of_lt (Nat.lt_of_lt_of_le (Heap.lt_size q) M.new))).trans (M.keep b o q)
  have ob : ObjOk X.prog X.w (upd H1 d (.xd (fs.zip vs))) G' d (.xd (fs.zip vs)) :=
    ⟨_, hns.at (fun o q => (gk d M.dne).trans q), fun f => relO_zip r1 f⟩
  have J : Inv X pins σ (upd H1 d (.xd (fs.zip vs))) ⟨G', g, dr, tk', os⟩ := I1.laid (t' := tk') old M.dbig ob
  refine ⟨e, oe, fv, ⟨G', g, dr, tk', os⟩, _, .ref C, some d, rfl, J, fun b o q => ?_, ge, hoe, ⟨hc, hd⟩, hdat, h1, ?_, rfl, I1.bare, raises_own T.exC T.tyC, q1 d (I1.hok.fresh M.dbig)⟩
  · by_cases hb : b = e
    · have q' : G'.get? b = some o := q
      rw [hb, ge] at q'
      cases q'
    · exact (gk b hb).symm.trans q
  · rw [upd_ne (Ne.symm M.dne)]
    exact I1.hok.fresh M.new
/-- X(), X an own class without own __init__ -/
theorem pmk_x0 (T : XTxt X.K X.mg x C bm bmB nw) (m : XMk X.K C bmB nw []) (hg : Gl X x) (hdb : (x == ("__debug__" : Str)) = false) :
    PMk X (.Call (.Name x p) [] [] pos) (fun _ H Q => Q (.ref C) none H) := by
  intro pins s σ H Q I h
  obtain ⟨B, i, FB⟩ := T.bs.base
  refine wpAny_Call_Name_kw (ld_glob I hg T.gC ?_ hdb)
  refine PySem.W.callWith_K0 I.kIn T.kC ?_
  show wpAny _ _ (call (.ref C) []) _ _ _
  obtain ⟨bm, N, nm, qn, bs, hdct, sn, sub, ab, col, dd, k0, k1, k2, k3, k5, mN, hC, hN, hni, TT⟩ := exc_obj I.kIn m
  refine wpAny_call_exc_subT FB TT hC hN hni (fun h' e hm => ?_) (Nat.zero_le _)
  exact mk_of I hm (raises_own T.exC T.tyC) h (I.hok.gone hm.new)
end
end Mp

namespace Mp
open PySem PySem.Spec PyProof.Rows L2 PySem.XM PySem.W
abbrev tlVE : List Value := [.type "ValueError", .type "Exception", .type "BaseException", .type "object"]
abbrev tlLE : List Value := [.type "LookupError", .type "Exception", .type "BaseException", .type "object"]
/-- the class by number: what stands above it (M: MergeError), its base's classes, its maker -/
def tlX (k : Nat) : List Value := if k ≤ 26 then tlVE else tlLE
def nwX (k : Nat) : String := if k ≤ 26 then "ValueError.__new__" else "LookupError.__new__"
def bmX (M : Addr) (k : Nat) : List Value := if k = 2 then tlVE else if k ≤ 26 then .ref M :: tlVE else tlLE
/-- the class k is at C -/
def XKn (K : Frag) (mg : Str → Option Value) (M k : Nat) (C : Addr) : Prop := 2 ≤ k ∧ k ≤ 28 ∧ XTxt K mg (Str.ofString (nmX k)) C (bmX M k) (tlX k) (nwX k) ∧ XMk K C (tlX k) (nwX k) (fsX k)
theorem nm_inj {k j : Nat} (h1 : 2 ≤ k) (h2 : k ≤ 28) (h3 : 2 ≤ j) (h4 : j ≤ 28) (h : k ≠ j) : Str.ofString (nmX k) ≠ Str.ofString (nmX j) := by
  have key : ∀ k : Fin 29, ∀ j : Fin 29, 2 ≤ k.1 → 2 ≤ j.1 → k ≠ j → Str.ofString (nmX k) ≠ Str.ofString (nmX j) := by decide +kernel
  exact key ⟨k, by omega⟩ ⟨j, by omega⟩ h1 h3 (fun e => h (congrArg Fin.val e))
section
variable {K : Frag} {mg : Str → Option Value} {M k j : Nat} {C D : Addr}
theorem XKn.same (h : XKn K mg M k C) (h' : XKn K mg M k D) : C = D := by
  have e := h.2.2.1.gC
  rw [h'.2.2.1.gC] at e
  exact (Value.ref.inj (Option.some.inj e)).symm
/-- C below D -/
theorem XKn.sub (h : XKn K mg M k C) (h' : XKn K mg M j D) (hM : XKn K mg M 2 M ∨ 27 ≤ k) : subIn K (.ref C) (.ref D) = some (subX k j) := by
  rw [h.2.2.1.sub]
  congr 1
  have a1 := h.1
  have a2 := h.2.1
  have b1 := h'.1
  have b2 := h'.2.1
  rw [List.contains_cons]
  by_cases e : k = j
  · subst e
    rw [h.same h']
    simp [subX]
  · have ne : C ≠ D := h.2.2.1.ne h'.2.2.1 (nm_inj a1 a2 b1 b2 e)
    have e1 : (Value.ref D == Value.ref C) = false := by simpa using Ne.symm ne
    rw [e1, Bool.false_or]
    unfold bmX
    by_cases k2 : k = 2
    · subst k2
      rw [if_pos rfl]
      have : subX 2 j = false := by
        unfold subX
        have : j ≠ 0 := by omega
        have : j ≠ 1 := by omega
        have : j ≠ 2 := by omega
        simp [*] <;> omega
      rw [this]
      rfl
    · rw [if_neg k2]
      by_cases k26 : k ≤ 26
      · rw [if_pos k26, List.contains_cons]
        have hM := hM.resolve_right (by omega)
        by_cases j2 : j = 2
        · subst j2
          have : D = M := h'.same hM
          subst this
          have : subX k 2 = true := by
            unfold subX
            simp
            omega
          rw [this]
          simp
        · have nm : D ≠ M := h'.2.2.1.ne hM.2.2.1 (nm_inj b1 b2 (by omega) (by omega) j2)
          have e2 : (Value.ref D == Value.ref M) = false := by simpa using nm
          rw [e2, Bool.false_or]
          have : subX k j = false := by
            unfold subX
            have : j ≠ 0 := by omega
            have : j ≠ 1 := by omega
            simp [*]
          rw [this]
          rfl
      · rw [if_neg k26]
        have : subX k j = false := by
          unfold subX
          have : j ≠ 0 := by omega
          have : j ≠ 1 := by omega
          simp [*] <;> omega
        rw [this]
        rfl
/-- isinstance by an own class -/
theorem XKn.kit (h : XKn K mg M k C) (h' : XKn K mg M j D) (hM : XKn K mg M 2 M ∨ 27 ≤ k) : kitOne K (.ref C) (.ref D) = some (subX k j) := by
  unfold kitOne
  split
  · rename_i e
    have e : C = D := by simpa using e
    subst e
    by_cases z : k = j
    · subst z
      simp [subX]
    · exact absurd rfl (h.2.2.1.ne h'.2.2.1 (nm_inj h.1 h.2.1 h'.1 h'.2.1 z))
  · rw [h'.2.2.1.kit]
    exact h.sub h' hM
theorem XKn.exm (h : XKn K mg M k C) (h' : XKn K mg M j D) (hM : XKn K mg M 2 M ∨ 27 ≤ k) : exmOne K (.ref C) (.ref D) = some (subX k j) := by
  unfold exmOne
  rw [h'.2.2.1.exC, if_pos (by simp), h'.2.2.1.kit]
  exact h.sub h' hM
/-- isinstance by ValueError, by LookupError -/
theorem XKn.kitB (h : XKn K mg M k C) (hj : j = 0 ∨ j = 1) : kitOne K (.ref C) (.type (nmX j)) = some (subX k j) := by
  have a1 := h.1
  have a2 := h.2.1
  have km : kitMeta (nmX j) = true := by
    rcases hj with rfl | rfl <;> decide +kernel
  unfold kitOne
  rw [if_neg (by simp)]
  show (if kitMeta (nmX j) = true then subIn K (.ref C) (.type (nmX j)) else none) = _
  rw [if_pos km, h.2.2.1.sub, List.contains_cons]
  have e1 : (Value.type (nmX j) == Value.ref C) = false := by simp
  rw [e1, Bool.false_or]
  congr 1
  unfold bmX
  by_cases k26 : k ≤ 26
  · have t : ∀ r : List Value, r = tlVE ∨ r = .ref M :: tlVE → r.contains (.type (nmX j)) = (j == 0) := by
      intro r hr
      rcases hj with rfl | rfl <;> rcases hr with rfl | rfl
      · rfl
      · rfl
      · decide +kernel
      · rw [List.contains_cons]
        have : (Value.type (nmX 1) == Value.ref M) = false := by simp
        rw [this]
        decide +kernel
    have s : subX k j = (j == 0) := by
      unfold subX
      rcases hj with rfl | rfl
      · simp
        omega
      · simp
        omega
    rw [s]
    split
    · exact t _ (.inl rfl)
    · exact t _ (.inr rfl)
  · rw [if_neg (by omega), if_neg k26]
    have s : subX k j = (j == 1) := by
      unfold subX
      rcases hj with rfl | rfl
      · simp
        omega
      · simp
        omega
    rw [s]
    rcases hj with rfl | rfl <;> decide +kernel
end
end Mp
namespace Mp
open PySem PySem.Spec PyProof.Rows L2
open Mp.T (Wc)

inductive RVs (K : PySem.W.Frag) (W : Wd) : List PV → List V → Prop
  | nil : RVs K W [] []
  | cons {x : PV} {v : V} {xs : List PV} {vs : List V} : RV K W x v → RVs K W xs vs → RVs K W (x :: xs) (v :: vs)
theorem RVs.le {K : PySem.W.Frag} {W W1 : Wd} (h : W.Le W1) : ∀ {xs : List PV} {vs : List V}, RVs K W xs vs → RVs K W1 xs vs
  | _, _, .nil => .nil
  | _, _, .cons a b => .cons (a.le h) (RVs.le h b)
theorem RVs.appD {K : PySem.W.Frag} {W : Wd} {xs : List PV} {vs : List V} (r : RVs K W xs vs) : ∀ {ys : List PyData} {ws : List V}, DvAll K W.F ws ys → RVs K W (ys.map PV.d ++ xs) (ws ++ vs)
  | _, _, .nil => r
  | _, _, .cons a b => .cons (.d a) (RVs.appD r b)
theorem RVs.length {K : PySem.W.Frag} {W : Wd} : ∀ {xs : List PV} {vs : List V}, RVs K W xs vs → xs.length = vs.length
  | _, _, .nil => rfl
  | _, _, .cons a b => by rw [List.length_cons, List.length_cons, RVs.length b]

/-- what is fixed for a law's run at one depth -/
structure Gf where
  P : Program
  w : World
  K : PySem.W.Frag
  mg : Str → Option Value
  base : Heap
  n : Nat
  xr : Wd → Hp → Ex → Value → Option Addr → Prop
  C : Ctx
  x : Option (Addr × Option Addr × Nat) := none
/-- the wishes of a frame are the run's -/
def XrOk (Γ : Ga) (G : Gf) : Prop := Γ.xr = G.xr ∧ Γ.W0.x = G.x
/-- the exception in hand is held by the context -/
def XHeld (G : Gf) (c : Ck) (X : Cx) : Prop := ∃ (a C : Addr) (oe : Obj) (d : Option Addr) (k : Nat), G.x = some (a, d, k) ∧ k ∈ c.cs ∧ (a, oe) ∈ X.pn ∧ G.mg (Str.ofString (nmX k)) = some (.ref C) ∧ Zc (.ref C) d oe ∧ ∃ vs, oe.data = .fields vs
/-- how a raised exception lies -/
def XRel (K : PySem.W.Frag) (mg : Str → Option Value) (cs : List Nat) : Wd → Hp → Ex → Value → Option Addr → Prop := fun W _ e cls d => e.c ∈ cs ∧ (∃ C, mg (Str.ofString (nmX e.c)) = some (.ref C) ∧ cls = .ref C) ∧ XFs K W.F d e.c e.fs
/-- the promise of a def whose meaning is t -/
def spD (K : PySem.W.Frag) (xr : Wd → Hp → Ex → Value → Option Addr → Prop) (t : List PV → T PV) : Sp := fun vs H Q E => ∃ W b xs, SR K W b H ∧ W.x = none ∧ RVs K W xs vs ∧
  Wc (fun b' v => ∀ W' H' V, Ext W H W' H' → SR K W' b' H' → RV K W' v V → Q V H') (fun b' e => ∀ W' H' cls d, Ext W H W' H' → SR K W' b' H' → xr W' H' e cls d → E cls d H') b (t xs)
/-- the promise of the law's draw -/
def spN (K : PySem.W.Frag) : Sp := fun vs H Q _ => ∃ W b r m, SR K W b H ∧ W.g = some r ∧ vs = [.ref r.d, .int m] ∧ 0 < m ∧ m < 2 ^ 200 ∧ 0 < b ∧
  ∀ n W' H', 0 ≤ n → n < m → Ext W H W' H' → SR K W' (b - 1) H' → Q (.int n) H'
def bltNames : List String := ["len", "tuple", "list", "sorted", "set", "max", "min", "sum", "all", "any", "abs", "int", "repr", "isinstance", "range", "enumerate", "zip", "bool", "str", "dict", "ValueError", "LookupError"]
/-- the promise of a def that is called while an exception is handled -/
def spX (K : PySem.W.Frag) (xr : Wd → Hp → Ex → Value → Option Addr → Prop) (t : List PV → T PV) : Addr → Option Addr → Nat → Sp := fun a d kx vs H Q E => ∃ W b xs, SR K W b H ∧ W.x = some (a, d, kx) ∧ RVs K W xs vs ∧
  Wc (fun b' v => ∀ W' H' V, Ext W H W' H' → SR K W' b' H' → RV K W' v V → Q V H') (fun b' e => ∀ W' H' cls d, Ext W H W' H' → SR K W' b' H' → xr W' H' e cls d → E cls d H') b (t xs)
structure GOk (G : Gf) (c : Ck) : Prop where
  xs : ∃ M, (∀ k ∈ c.cs, ∃ C, XKn G.K G.mg M k C) ∧ ∀ k ∈ c.cs, XKn G.K G.mg M 2 M ∨ 27 ≤ k
  xr : G.xr = XRel G.K G.mg c.cs
  blt : ∀ x ∈ bltNames, G.mg (Str.ofString x) = none
  gl : ∀ k ∈ c.gs, ∃ u v, G.mg (Str.ofString (gnm k)) = some u ∧ RelV v u ∧ ∀ F, Dv G.K F v (gv k)
  fn : ∀ f x, c.nm f = some x → ∃ fa, G.mg x = some (.ref fa) ∧ PySem.W.keepIn G.K (.ref fa) = true ∧ FnRG G.P G.w G.K G.mg G.base G.n fa (spD G.K G.xr (G.C.call f))
  fh : ∀ f x, c.hm f = some x → ∃ fa, G.mg x = some (.ref fa) ∧ PySem.W.keepIn G.K (.ref fa) = true ∧ FnHG G.P G.w G.K G.mg G.base c.cs G.n fa (spX G.K G.xr (G.C.call f))
  nxt : ∃ fa fd ps, G.mg (Str.ofString "_law_next") = some (.ref fa) ∧ PySem.W.keepIn G.K (.ref fa) = true ∧ Binds G.K fd ps [] ∧ FnOkG G.P G.w G.K G.mg G.base G.n fa fd ps (spN G.K)
structure XOk (G : Gf) (c : Ck) (sc : Scope) (X : Cx) : Prop where
  hP : X.prog = G.P
  hw : X.w = G.w
  hK : X.K = G.K
  hmg : X.mg = G.mg
  hbase : X.base = G.base
  hN : X.N = c.N
  nd : c.N.Nodup
  hsc : X.env.scope = sc
  calm : c.hot = false → X.calm = true
  gd : X.A.guards = some []
  room : c.hot = false → Room G.n X.A
  un : X.A.units + 150 < cLine
  hx0 : c.hot = false → G.x = none
  hx1 : c.hot = true → XHeld G c X
  roomH : L2H.RoomH G.n X.A
/-- the def's frame-level part -/
def Gf.ga (G : Gf) (W0 : Wd) (H0 : Hp) (Wx : WX) : Ga := ⟨G.K, W0, H0, G.xr, Wx⟩

theorem xName_inv {e : Expr} {x : Str} (h : xName e = some x) : ∃ p, e = .Name x p := by
  unfold xName at h
  split at h
  · cases h
    exact ⟨_, rfl⟩
  · cases h
theorem xConst_inv {e : Expr} {x : Const} (h : xConst e = some x) : ∃ k p, e = .Constant x k p := by
  unfold xConst at h
  split at h
  · cases h
    exact ⟨_, _, rfl⟩
  · cases h
theorem xTup_inv {e : Expr} {x : List Expr} (h : xTup e = some x) : ∃ k p, e = .Tuple x k p := by
  unfold xTup at h
  split at h
  · cases h
    exact ⟨_, _, rfl⟩
  · cases h
theorem xLst_inv {e : Expr} {x : List Expr} (h : xLst e = some x) : ∃ p, e = .List x p := by
  unfold xLst at h
  split at h
  · cases h
    exact ⟨_, rfl⟩
  · cases h
theorem xBin_inv {e : Expr} {a b : Expr} {o : Operator} (h : xBin e = some (a, o, b)) : ∃ p, e = .BinOp a o b p := by
  unfold xBin at h
  split at h
  · cases h
    exact ⟨_, rfl⟩
  · cases h
theorem xUn_inv {e : Expr} {a : Expr} {o : UnaryOp} (h : xUn e = some (o, a)) : ∃ p, e = .UnaryOp o a p := by
  unfold xUn at h
  split at h
  · cases h
    exact ⟨_, rfl⟩
  · cases h
theorem xCmp_inv {e : Expr} {a b : Expr} {o : CmpOp} (h : xCmp e = some (a, o, b)) : ∃ p, e = .Compare a [o] [b] p := by
  unfold xCmp at h
  split at h
  · cases h
    exact ⟨_, rfl⟩
  · cases h
theorem xCmp2_inv {e : Expr} {a b d : Expr} {o q : CmpOp} (h : xCmp2 e = some (a, o, b, q, d)) : ∃ p, e = .Compare a [o, q] [b, d] p := by
  unfold xCmp2 at h
  split at h
  · cases h
    exact ⟨_, rfl⟩
  · cases h
theorem xBool_inv {e : Expr} {o : BoolOp} {vs : List Expr} {p : Pos} (h : xBool e = some (o, vs, p)) : e = .BoolOp o vs p := by
  unfold xBool at h
  split at h
  · cases h
    rfl
  · cases h
theorem xIf_inv {e a b d : Expr} (h : xIf e = some (d, a, b)) : ∃ p, e = .IfExp d a b p := by
  unfold xIf at h
  split at h
  · cases h
    exact ⟨_, rfl⟩
  · cases h
theorem xCall_inv {e : Expr} {f : Str} {as : List Expr} (h : xCall e = some (f, as)) : ∃ p q, e = .Call (.Name f p) as [] q := by
  unfold xCall at h
  split at h
  · cases h
    exact ⟨_, _, rfl⟩
  · cases h
theorem xMeth_inv {e o a : Expr} {m : Str} (h : xMeth e = some (o, m, a)) : ∃ p q, e = .Call (.Attribute o m p) [a] [] q ∧ (p.endLine == q.line) = true := by
  unfold xMeth at h
  split at h
  · split at h
    · rename_i hl
      cases h
      exact ⟨_, _, rfl, hl⟩
    · cases h
  · cases h
theorem xSub_inv {e a b : Expr} (h : xSub e = some (a, b)) : ∃ p, e = .Subscript a b p := by
  unfold xSub at h
  split at h
  · cases h
    exact ⟨_, rfl⟩
  · cases h
theorem xSlice_inv {e : Expr} {a b : Option Expr} (h : xSlice e = some (a, b)) : ∃ p, e = .Slice a b none p := by
  unfold xSlice at h
  split at h
  · cases h
    exact ⟨_, rfl⟩
  · cases h
theorem xRev_inv {e a : Expr} (h : xRev e = some a) : ∃ k p1 p2 p3 p, e = .Subscript a (.Slice none none (some (.UnaryOp .USub (.Constant (.int 1) k p1) p2)) p3) p := by
  unfold xRev at h
  split at h
  · cases h
    exact ⟨_, _, _, _, _, rfl⟩
  · cases h
theorem xLc_inv {e a : Expr} {gs : List Comprehension} {s : Scope} (h : xLc e = some (a, gs, s)) : ∃ p, e = .ListComp a gs s p := by
  unfold xLc at h
  split at h
  · cases h
    exact ⟨_, rfl⟩
  · cases h
theorem star1 {e : Expr} (h : notStar e = true) (es : List Expr) (env : PySem.Env) : starEach (e :: es) env = (false, eval e env) :: starEach es env := by
  cases e <;> first | rfl | cases h
theorem kd_of {sc : Scope} {x : Str} {k : NameKind} (h : kd sc x k = true) : sc.names.lookup x = some k := of_decide_eq_true h
theorem glb_of {sc : Scope} {x : Str} (h : glb sc x = true) : sc.names.lookup x = some .globalImplicit ∧ (x == ("__debug__" : Str)) = false := by
  unfold glb at h
  simp only [Bool.and_eq_true, Bool.not_eq_true'] at h
  exact ⟨kd_of h.1, h.2⟩
theorem vis_of {sc : Scope} {x : Str} (h : vis sc x = true) : Vis sc x ∧ (x == ("__debug__" : Str)) = false ∧ (x == ("__classdict__" : Str)) = false := by
  unfold vis at h
  simp only [Bool.and_eq_true, Bool.not_eq_true', Bool.or_eq_true] at h
  obtain ⟨⟨(h1 | h1) | h1, h2⟩, h3⟩ := h
  · exact ⟨.inl (kd_of h1), h2, h3⟩
  · exact ⟨.inr (.inl (kd_of h1)), h2, h3⟩
  · exact ⟨.inr (.inr (kd_of h1)), h2, h3⟩
theorem isB_of {sc : Scope} {x : Str} {n : String} (h : isB sc x n = true) : x = Str.ofString n ∧ sc.names.lookup x = some .globalImplicit ∧ (x == ("__debug__" : Str)) = false := by
  unfold isB at h
  simp only [Bool.and_eq_true, decide_eq_true_eq] at h
  exact ⟨h.1, glb_of h.2⟩
theorem XOk.gl {G : Gf} {c : Ck} {sc : Scope} {X : Cx} (o : XOk G c sc X) {x : Str} (h : sc.names.lookup x = some .globalImplicit) : Gl X x := by
  show X.env.scope.names.lookup x = some .globalImplicit
  rw [o.hsc]
  exact h
theorem XOk.units {G : Gf} {c : Ck} {sc : Scope} {X : Cx} (o : XOk G c sc X) : X.A.units + 100 < cLine := by
  have := o.un
  omega

section
variable {G : Gf} {c : Ck} {sc : Scope} {X : Cx} {W0 : Wd} {H0 : Hp} {Wx : WX} {e : Expr} {x : Str} {p : Pos} {i : Nat}
/-- a bool's mode -/
def mB : Rel Bool Bool := fun _ _ _ _ a b => a = b
theorem mono_mB : Mono mB := fun _ _ _ _ _ _ _ _ _ _ h => h
def tt (t : Ev → T PV) : Ev → T Bool := fun env => t env >>= asD >>= asBool
/-- a plain test -/
def plainT : Expr → Bool
  | .UnaryOp .Not _ _ => false
  | .BoolOp _ _ _ => false
  | .IfExp _ _ _ _ => false
  | .Compare _ _ _ _ => false
  | _ => true
theorem plainT_is {e : Expr} (h : plainT e = true) (env : PySem.Env) : ∀ whole, isTrue e env whole = (do let v ← whole; standAt e.pos; holding [v] (truthy v)) := by
  intro whole
  cases e with
  | UnaryOp o a p => cases o <;> first | rfl | cases h
  | BoolOp _ _ _ => cases h
  | IfExp _ _ _ _ => cases h
  | Compare _ _ _ _ => cases h
  | _ => rfl
variable {Γ : Ga}
theorem td_bool {t : Ev → T PV} {σ : L2.St} {H : Hp} {Q : Bool → Hp → Prop} (h : TD Γ mB (tt t) σ H Q) : TD Γ (mR Γ.K) t σ H fun v H1 => ∃ b, v = .bl b ∧ Q b H1 := by
  have h := h.congr (t' := fun env => t env >>= fun p => asD p >>= asBool) fun env => T.assoc _ _ _
  refine h.bind (rel := mR Γ.K) (f := fun env p => asD p >>= asBool) mono_mB fun W b env W1 H1 a v S X0 r e q k => ?_
  obtain ⟨y, ey, k⟩ := Wc_plain plain_asD k
  have k := (show Wc _ _ b (asBool y >>= T.ret) by rw [T.bind_ret]; exact k)
  obtain ⟨z, ez, k⟩ := Wc_plain plain_asBool k
  rw [asD_ret ey, asBool_ret ez] at q
  exact ⟨z, q.bl, k W1 H1 z (Ext.refl _ _) S rfl⟩
theorem td_boolV {t : Ev → T PV} {σ : L2.St} {H : Hp} {Q : Bool → Hp → Prop} (h : TD Γ mB (tt t) σ H Q) : TD Γ (mV Γ.K) t σ H fun v H1 => ∃ b, v = .bl b ∧ Q b H1 := (td_bool h).vr
theorem pt_of {t : Ev → T PV} (h : PE X e (TD Γ (mV Γ.K) t)) (he : plainT e = true) : PT X e (TD Γ mB (tt t)) :=
  (pt_val h (plainT_is he X.env)).imp fun σ H Q q => td_boolV q

theorem s_var (o : XOk G c sc X) (hN : c.N[i]? = some x) (hv : Vis sc x) (hd : (x == ("__debug__" : Str)) = false) (hc : (x == ("__classdict__" : Str)) = false) :
    PE X (.Name x p) (TD Γ (mV Γ.K) (denE G.C (.var i))) := by
  refine (pe_var (i := i) (by rw [o.hN]; exact hN) (by rw [o.hsc]; exact hv) hd hc).imp fun σ H Q ⟨W, b, env, S, X0, r, k⟩ => ?_
  obtain ⟨f, hs, _⟩ := r.slot i
  show ∃ v, _
  unfold denE at k
  cases ha : env.at i with
  | v z =>
    rw [ha] at hs k
    generalize hg : σ[i]? = oo at hs
    cases hs with
    | v q => exact ⟨_, rfl, k W H _ (Ext.refl _ _) S q⟩
  | _ =>
    rw [ha] at k
    exact k.elim
theorem s_rd (o : XOk G c sc X) (hN : c.N[i]? = some x) (hv : Vis sc x) (hd : (x == ("__debug__" : Str)) = false) (hc : (x == ("__classdict__" : Str)) = false) :
    PE X (.Name x p) (TD Γ (mR Γ.K) (denE G.C (.rd i))) := by
  refine (pe_var (i := i) (by rw [o.hN]; exact hN) (by rw [o.hsc]; exact hv) hd hc).imp fun σ H Q ⟨W, b, env, S, X0, r, k⟩ => ?_
  obtain ⟨f, hs, hm⟩ := r.slot i
  show ∃ v, _
  unfold denE at k
  cases ha : env.at i with
  | v z =>
    rw [ha] at hs k
    generalize hg : σ[i]? = oo at hs
    cases hs with
    | v q => exact ⟨_, rfl, k W H _ (Ext.refl _ _) S (.v q)⟩
  | own xs =>
    rw [ha] at hs k
    generalize hg : σ[i]? = oo at hs
    cases hs with
    | own e z q => exact ⟨_, rfl, k W H _ (Ext.refl _ _) S (.own e (hm _ List.mem_cons_self).2.2 z q)⟩
  | _ =>
    rw [ha] at k
    exact k.elim
theorem s_gl (GO : GOk G c) (o : XOk G c sc X) (hK : Γ.K = G.K) {k : Nat} (hk : k ∈ c.gs) (hx : x = Str.ofString (gnm k)) (hg : sc.names.lookup x = some .globalImplicit) (hd : (x == ("__debug__" : Str)) = false) :
    PE X (.Name x p) (TD Γ (mV Γ.K) (denE G.C (.gl k))) := by
  obtain ⟨u, v, h1, h2, h3⟩ := GO.gl k hk
  refine (pe_glob (o.gl hg) (by rw [o.hmg, hx]; exact h1) h2 hd).imp fun σ H Q ⟨W, b, env, S, X0, r, q⟩ => ?_
  unfold denE at q
  rw [← hK] at h3
  exact q W H v (Ext.refl _ _) S (.d (h3 _))
theorem s_k {v : PyData} {k : Const} {j : Nat} (h : chkC v k = true) : PE X (.Constant k j p) (TD Γ (mV Γ.K) (denE G.C (.k v))) := by
  have fin : ∀ {u : V} {σ : L2.St} {H : Hp} {Q : V → Hp → Prop}, (∀ F, Dv Γ.K F u v) → TD Γ (mV Γ.K) (denE G.C (.k v)) σ H Q → Q u H := fun {u σ H Q} hu ⟨W, b, env, S, X0, r, q⟩ => by
    unfold denE at q
    exact q W H u (Ext.refl _ _) S (.d (hu _))
  cases v with
  | none =>
    cases k with
    | none => exact pe_non.imp fun σ H Q q => fin (fun _ => .non) q
    | _ => cases h
  | bool y =>
    cases k with
    | bool z =>
      obtain rfl := of_decide_eq_true h
      exact pe_bl.imp fun σ H Q q => fin (fun _ => .bl _) q
    | _ => cases h
  | int y =>
    cases k with
    | int z =>
      obtain rfl := of_decide_eq_true h
      exact pe_int.imp fun σ H Q q => fin (fun _ => .int _) q
    | _ => cases h
  | str y =>
    cases k with
    | str z =>
      obtain rfl := of_decide_eq_true h
      exact pe_str.imp fun σ H Q q => fin (fun _ => .str _) q
    | _ => cases h
  | _ => cases k <;> cases h
/-- items of a display -/
def mDs (K : PySem.W.Frag) : Rel (List PyData) (List V) := fun _ _ W' _ xs vs => DvAll K W'.F vs xs
def mAs (K : PySem.W.Frag) : Rel (List PV) (List V) := fun _ _ W' _ xs vs => RVs K W' xs vs
theorem mono_mDs {K : PySem.W.Frag} : Mono (mDs K) := fun _ _ _ _ _ _ _ _ _ _ h => h
theorem mono_mAs {K : PySem.W.Frag} : Mono (mAs K) := fun _ _ _ _ _ _ _ _ _ _ h => h
theorem s_es_nil : PA X [] (TD Γ (mDs Γ.K) (denEs G.C .nil)) := pa_nil.imp fun σ H Q ⟨W, b, env, S, X0, r, q⟩ => by
  unfold denEs at q
  exact q W H [] (Ext.refl _ _) S .nil
theorem s_es_cons {m : ME} {r : MEs} {es : List Expr} (he : PE X e (TD Γ (mV Γ.K) (denE G.C m))) (hr : PA X es (TD Γ (mDs Γ.K) (denEs G.C r))) (hs : notStar e = true) : PA X (e :: es) (TD Γ (mDs Γ.K) (denEs G.C (.cons m r))) := by
  refine (pa_cons he hr (star1 hs es X.env)).imp fun σ H Q q => ?_
  have q := q.congr (t' := fun env => denE G.C m env >>= fun a => asD a >>= fun x => denEs G.C r env >>= fun xs => T.ret (x :: xs)) fun env => by
    rw [denEs, T.assoc]
  refine q.bind (rel := mV Γ.K) (f := fun env a => asD a >>= fun x => denEs G.C r env >>= fun xs => T.ret (x :: xs)) mono_mDs fun W b env W1 H1 a v S X0 rr e1 q1 k => ?_
  obtain ⟨y, ey, k⟩ := Wc_plain plain_asD k
  rw [asD_ret ey] at q1
  refine ⟨W1, b, env, S, X0, rr, T.Wc.mono (fun b2 xs h2 W2 H2 vs e2 S2 q2 => ?_) (fun _ _ z => z) _ _ ((T.Wc_bind _ _).mp k)⟩
  have q1' : RV Γ.K W1 (.d y) v := q1
  cases q1' with
  | d q1 => exact h2 W2 H2 (v :: vs) e2 S2 (.cons (q1.le e2.le.f) q2)
theorem s_as_nil : PA X [] (TD Γ (mAs Γ.K) (denAs G.C .nil)) := pa_nil.imp fun σ H Q ⟨W, b, env, S, X0, r, q⟩ => by
  unfold denAs at q
  exact q W H [] (Ext.refl _ _) S .nil
theorem s_as_cons {m : ME} {r : MEs} {es : List Expr} (he : PE X e (TD Γ (mV Γ.K) (denE G.C m))) (hr : PA X es (TD Γ (mAs Γ.K) (denAs G.C r))) (hs : notStar e = true) : PA X (e :: es) (TD Γ (mAs Γ.K) (denAs G.C (.cons m r))) := by
  refine (pa_cons he hr (star1 hs es X.env)).imp fun σ H Q q => ?_
  have q := q.congr (t' := fun env => denE G.C m env >>= fun x => denAs G.C r env >>= fun xs => T.ret (x :: xs)) fun env => by
    rw [denAs]
  refine q.bind (rel := mV Γ.K) (f := fun env x => denAs G.C r env >>= fun xs => T.ret (x :: xs)) mono_mAs fun W b env W1 H1 a v S X0 rr e1 q1 k => ?_
  refine ⟨W1, b, env, S, X0, rr, T.Wc.mono (fun b2 xs h2 W2 H2 vs e2 S2 q2 => ?_) (fun _ _ z => z) _ _ ((T.Wc_bind _ _).mp k)⟩
  exact h2 W2 H2 (v :: vs) e2 S2 (.cons (RV.le e2.le q1) q2)
/-- *e among arguments -/
theorem s_as_star {m : ME} {r : MEs} {es : List Expr} {pp : Pos} (hK : Γ.K = X.K) (he : PE X e (TD Γ (mR Γ.K) (denE G.C m))) (hr : PA X es (TD Γ (mAs Γ.K) (denAs G.C r))) : PA X (.Starred e pp :: es) (TD Γ (mAs Γ.K) (denAs G.C (.star m r))) := by
  refine (StX.pa_star he hr).imp fun σ H Q q => ?_
  have q := q.congr (t' := fun env => denE G.C m env >>= fun v => asD v >>= fun x => asSeq x >>= fun ys => denAs G.C r env >>= fun xs => T.ret (ys.map PV.d ++ xs)) fun env => by
    simp only [denAs, T.assoc]
  refine q.bind (rel := mR Γ.K) (f := fun env v => asD v >>= fun x => asSeq x >>= fun ys => denAs G.C r env >>= fun xs => T.ret (ys.map PV.d ++ xs)) mono_mAs fun W b env W1 H1 a v S X0 rr e1 q1 k => ?_
  obtain ⟨y, ey, k⟩ := Wc_plain plain_asD k
  rw [asD_ret ey] at q1
  obtain ⟨ys, es, k⟩ := Wc_plain plain_asSeq k
  obtain ⟨l, ws, ev, el, ql⟩ : ∃ (l : Addr) (ws : List V), v = .ref l ∧ (SqT X.K H1 l ws ∨ SqL X.K H1 l ws) ∧ DvAll Γ.K W1.F ws ys := by
    cases y with
    | list zs =>
      cases es
      obtain ⟨l, ws, h1, h2, h3, h4⟩ := RR.list S q1
      exact ⟨l, ws, h1, .inr (SqL.of h2), h4⟩
    | tuple zs =>
      cases es
      obtain ⟨l, ws, h1, h2, _, h3, h4⟩ := RR.tup S q1
      exact ⟨l, ws, h1, .inl (hK ▸ h2), h4⟩
    | none => cases es
    | bool _ => cases es
    | int _ => cases es
    | str _ => cases es
    | dict _ => cases es
  refine ⟨l, ws, ev, el, W1, b, env, S, X0, rr, T.Wc.mono (fun b2 xs h2 W2 H2 vs e2 S2 q2 => ?_) (fun _ _ z => z) _ _ ((T.Wc_bind _ _).mp k)⟩
  exact h2 W2 H2 (ws ++ vs) e2 S2 (q2.appD (ql.le e2.le.f))
/-- *e in a display -/
theorem s_es_star {m : ME} {r : MEs} {es : List Expr} {pp : Pos} (hK : Γ.K = X.K) (he : PE X e (TD Γ (mR Γ.K) (denE G.C m))) (hr : PA X es (TD Γ (mDs Γ.K) (denEs G.C r))) : PA X (.Starred e pp :: es) (TD Γ (mDs Γ.K) (denEs G.C (.star m r))) := by
  refine (StX.pa_star he hr).imp fun σ H Q q => ?_
  have q := q.congr (t' := fun env => denE G.C m env >>= fun v => asD v >>= fun x => asSeq x >>= fun ys => denEs G.C r env >>= fun xs => T.ret (ys ++ xs)) fun env => by
    simp only [denEs, T.assoc]
  refine q.bind (rel := mR Γ.K) (f := fun env v => asD v >>= fun x => asSeq x >>= fun ys => denEs G.C r env >>= fun xs => T.ret (ys ++ xs)) mono_mDs fun W b env W1 H1 a v S X0 rr e1 q1 k => ?_
  obtain ⟨y, ey, k⟩ := Wc_plain plain_asD k
  rw [asD_ret ey] at q1
  obtain ⟨ys, es, k⟩ := Wc_plain plain_asSeq k
  obtain ⟨l, ws, ev, el, ql⟩ : ∃ (l : Addr) (ws : List V), v = .ref l ∧ (SqT X.K H1 l ws ∨ SqL X.K H1 l ws) ∧ DvAll Γ.K W1.F ws ys := by
    cases y with
    | list zs =>
      cases es
      obtain ⟨l, ws, h1, h2, h3, h4⟩ := RR.list S q1
      exact ⟨l, ws, h1, .inr (SqL.of h2), h4⟩
    | tuple zs =>
      cases es
      obtain ⟨l, ws, h1, h2, _, h3, h4⟩ := RR.tup S q1
      exact ⟨l, ws, h1, .inl (hK ▸ h2), h4⟩
    | none => cases es
    | bool _ => cases es
    | int _ => cases es
    | str _ => cases es
    | dict _ => cases es
  refine ⟨l, ws, ev, el, W1, b, env, S, X0, rr, T.Wc.mono (fun b2 xs h2 W2 H2 vs e2 S2 q2 => ?_) (fun _ _ z => z) _ _ ((T.Wc_bind _ _).mp k)⟩
  exact h2 W2 H2 (ws ++ vs) e2 S2 ((DvAll.le e2.le.f _ ql).append q2)
theorem s_tup {es : MEs} {xs : List Expr} {k : Nat} (h : PA X xs (TD Γ (mDs Γ.K) (denEs G.C es))) : PE X (.Tuple xs k p) (TD Γ (mV Γ.K) (denE G.C (.tup es))) := by
  refine (EnT.pe_tupF h).imp fun σ H Q q => ?_
  have q := q.congr (t' := fun env => denEs G.C es env >>= fun xs => need (xs.length ≤ SL) >>= fun _ => T.ret (.d (.tuple xs))) fun env => by rw [denE]
  refine q.bind (rel := mDs Γ.K) (f := fun env xs => need (xs.length ≤ SL) >>= fun _ => T.ret (.d (.tuple xs))) mono_mV fun W b env W1 H1 a vs S X0 rr e1 q1 k => ?_
  obtain ⟨_, h1, k⟩ := Wc_plain plain_need k
  have hz : a.length ≤ SL := by
    by_cases z : a.length ≤ SL
    · exact z
    · unfold need at h1
      rw [if_neg z] at h1
      cases h1
  have hl : vs.length ≤ sizeLine := by rw [DvAll.length q1]; exact SL_le hz
  refine ⟨hl, fun a' o n ho => ?_⟩
  obtain ⟨W', g1, g2, g3⟩ := new_tup (W := W1) ho S n hl q1
  exact k W' _ _ g1 g2 g3
theorem s_lst {es : MEs} {xs : List Expr} (h : PA X xs (TD Γ (mDs Γ.K) (denEs G.C es))) : PE X (.List xs p) (TD Γ (mN Γ.K) (denE G.C (.lst es))) := by
  refine (pe_lst h).imp fun σ H Q q => ?_
  have q := q.congr (t' := fun env => denEs G.C es env >>= fun xs => need (xs.length ≤ SL) >>= fun _ => T.ret (.d (.list xs))) fun env => by rw [denE]
  refine q.bind (rel := mDs Γ.K) (f := fun env xs => need (xs.length ≤ SL) >>= fun _ => T.ret (.d (.list xs))) mono_mN fun W b env W1 H1 a vs S X0 rr e1 q1 k => ?_
  obtain ⟨_, h1, k⟩ := Wc_plain plain_need k
  have hz : a.length ≤ SL := by
    by_cases z : a.length ≤ SL
    · exact z
    · unfold need at h1
      rw [if_neg z] at h1
      cases h1
  have hl : vs.length ≤ sizeLine := by rw [DvAll.length q1]; exact SL_le hz
  refine ⟨hl, fun a' n => ?_⟩
  obtain ⟨g1, g2, g3⟩ := new_list (W := W1) S n hl q1
  exact k W1 _ _ g1 g2 g3
end
end Mp
namespace Mp
open PySem PySem.Spec PyProof.Rows L2
open Mp.T (Wc)

theorem need_Wc {α : Type} {p : Prop} [Decidable p] {Q : Nat → α → Prop} {E : Nat → Ex → Prop} {f : Unit → T α} {b : Nat} (h : Wc Q E b (need p >>= f)) : p ∧ Wc Q E b (f ()) := by
  by_cases hp : p
  · rw [need_pos hp] at h
    exact ⟨hp, h⟩
  · have e : need p = T.stuck := if_neg hp
    rw [e] at h
    exact h.elim
section
variable {G : Gf} {c : Ck} {sc : Scope} {X : Cx} {e : Expr} {x : Str} {p : Pos} {i : Nat} {Γ : Ga}

def opOf : O2 → Value → Value → Sem Value := fun op => match binOf op with
  | some o => binaryOp o
  | none => match cmpOf op with
    | some o => compareOp o
    | none => binaryOp .Add
theorem opS_bin (op : O2) {o : Operator} (h : binOf op = some o) : OpR X (binaryOp o) (rO2 X.K (outN X.K) (o2 op)) := by
  cases op <;> cases h
  · exact opS_add
  · exact opS_sub
  · exact opS_mul
  · exact opS_mod
  · exact opS_fdiv
  · exact opS_pow
theorem opS_cmp (hu : X.A.units + 65 < cLine) (op : O2) {o : CmpOp} (h : cmpOf op = some o) : OpR X (compareOp o) (rO2 X.K (outV X.K) (o2 op)) := by
  cases op <;> cases h
  · exact opS_eq hu
  · exact opS_ne hu
  · exact opS_lt hu
  · exact opS_le
  · exact opS_gt
  · exact opS_ge
  · exact opS_inn hu
  · exact opS_notIn hu
theorem marks {o : CmpOp} {b : Expr} (h : notSet b = true) : behindInMarks o b = false := by
  cases b <;> first | rfl | cases h
theorem s_bin (hK : Γ.K = X.K) {op : O2} {o : Operator} {a b : ME} {y z : Expr} (h : binOf op = some o) (ha : PE X y (TD Γ (mR Γ.K) (denE G.C a))) (hb : PE X z (TD Γ (mR Γ.K) (denE G.C b))) :
    PE X (.BinOp y o z p) (TD Γ (mN Γ.K) (denE G.C (.o2 op a b))) := by
  refine (pe_op (opS_bin op h) ha hb).imp fun σ H Q q => ?_
  have q := mO_N rfl q
  rw [← hK]
  refine td_o2 (f := o2 op) (fun _ _ => plain_o2) mono_outN (q.congr fun env => by rw [denE])
theorem s_cmp (hK : Γ.K = X.K) (hu : X.A.units + 65 < cLine) {op : O2} {o : CmpOp} {a b : ME} {y z : Expr} (h : cmpOf op = some o) (ha : PE X y (TD Γ (mR Γ.K) (denE G.C a))) (hb : PE X z (TD Γ (mR Γ.K) (denE G.C b))) (hm : notSet z = true) :
    PE X (.Compare y [o] [z] p) (TD Γ (mV Γ.K) (denE G.C (.o2 op a b))) := by
  refine (pe_cmpR (opS_cmp hu op h) ha hb (marks hm)).imp fun σ H Q q => ?_
  have q := mO_V rfl q
  rw [← hK]
  refine td_o2 (f := o2 op) (fun _ _ => plain_o2) mono_outV (q.congr fun env => by rw [denE])
theorem pt_cmp' (hK : Γ.K = X.K) (hu : X.A.units + 65 < cLine) {op : O2} {o : CmpOp} {a b : ME} {y z : Expr} (h : cmpOf op = some o) (ha : PE X y (TD Γ (mR Γ.K) (denE G.C a))) (hb : PE X z (TD Γ (mR Γ.K) (denE G.C b))) (hm : notSet z = true) :
    PT X (.Compare y [o] [z] p) (TD Γ mB (tt (denE G.C (.o2 op a b)))) := by
  refine (pt_cmpR (opS_cmp hu op h) ha hb (marks hm)).imp fun σ H Q q => ?_
  have q := mO_V rfl (td_boolV q)
  show tOp _ _ _ σ H _
  rw [← hK]
  exact td_o2 (f := o2 op) (fun _ _ => plain_o2) mono_outV (q.congr fun env => by rw [denE])
theorem s_ix (hK : Γ.K = X.K) {a b : ME} {y z : Expr} (ha : PE X y (TD Γ (mR Γ.K) (denE G.C a))) (hb : PE X z (TD Γ (mR Γ.K) (denE G.C b))) (hs : notSlice z = true) :
    PE X (.Subscript y z p) (TD Γ (mV Γ.K) (denE G.C (.o2 .ix a b))) := by
  refine (pe_ix ixS_seq ha hb (fun o i => by cases z <;> first | rfl | cases hs)).imp fun σ H Q q => ?_
  have q := mO_V rfl q
  rw [← hK]
  exact td_o2 (f := o2 .ix) (fun _ _ => plain_o2) mono_outV (q.congr fun env => by rw [denE])
theorem s_sl (hK : Γ.K = X.K) {t : Ev → T PV} {tl th : Ev → T (Option Int)} {a : ME} {y : Expr} {lo hi : Option Expr} {p2 : Pos} {tlo thi : TO} (ha : PE X y (TD Γ (mR Γ.K) (denE G.C a))) (hl : PO X lo tlo) (hh : PO X hi thi)
    (k1 : ∀ σ H Q, TD Γ (fun _ _ _ _ (a : Option Int) b => a = b) tl σ H Q → tlo σ H Q) (k2 : ∀ σ H Q, TD Γ (fun _ _ _ _ (a : Option Int) b => a = b) th σ H Q → thi σ H Q)
    (hd : ∀ env, t env = denE G.C a env >>= fun v => asD v >>= fun x => tl env >>= fun i => th env >>= fun j => sliceD i j x >>= fun z => T.ret (.d z)) :
    PE X (.Subscript y (.Slice lo hi none p2) p) (TD Γ (mN Γ.K) t) := by
  refine (pe_slice slS ha hl hh).imp fun σ H Q q => ?_
  have q := (mO_N rfl q).congr hd
  refine q.bind (rel := mR Γ.K) (f := fun env v => asD v >>= fun x => tl env >>= fun i => th env >>= fun j => sliceD i j x >>= fun z => T.ret (.d z)) mono_outN fun W b env W1 H1 v vv S X0 r e1 q1 k => ?_
  obtain ⟨d, ed, k⟩ := Wc_plain plain_asD k
  rw [asD_ret ed] at q1
  refine k1 σ H1 _ ⟨W1, b, env, S, X0, r, T.Wc.mono (fun b2 i h2 W2 H2 i' e2 S2 ei => ?_) (fun _ _ z => z) _ _ ((T.Wc_bind _ _).mp k)⟩
  obtain rfl : i = i' := ei
  have h2 := Wc.later mono_outN e2 h2
  refine k2 σ H2 _ ⟨W2, b2, env, S2, X0.trans e2 S2, r.ext e2, T.Wc.mono (fun b3 j h3 W3 H3 j' e3 S3 ej => ?_) (fun _ _ z => z) _ _ ((T.Wc_bind _ _).mp h2)⟩
  obtain rfl : j = j' := ej
  have h3 := Wc.later mono_outN e3 h3
  obtain ⟨z, ez, h3⟩ := Wc_plain plain_sliceD h3
  rw [← hK]
  exact ⟨W3, b3, d, z, S3, (q1.ext e2).ext e3, ez, fun W' H' v' e' S' o => h3 W' H' v' e' S' o⟩
theorem po_td {m : ME} {y : Expr} (h : PE X y (TD Γ (mR Γ.K) (denE G.C m))) : PO X (some y) (TD Γ (fun _ _ _ _ (a : Option Int) b => a = b) fun env => denE G.C m env >>= asD >>= asInt >>= fun i => T.ret (some i)) := by
  refine ⟨fun pins s σ H Q I q => ((po_some h).run pins s σ H Q I ?_)⟩
  have q := q.congr (t' := fun env => denE G.C m env >>= fun v => asD v >>= fun d => asInt d >>= fun i => T.ret (some i)) fun env => by rw [T.assoc, T.assoc]
  refine q.bind (rel := mR Γ.K) (f := fun env v => asD v >>= fun d => asInt d >>= fun i => T.ret (some i)) (fun _ _ _ _ _ _ _ _ _ _ h => h) fun W b env W1 H1 v vv S X0 r e1 q1 k => ?_
  obtain ⟨d, ed, k⟩ := Wc_plain plain_asD k
  obtain ⟨j, ej, k⟩ := Wc_plain plain_asInt k
  rw [asD_ret ed, asInt_ret ej] at q1
  exact ⟨j, q1.int, k W1 H1 _ (Ext.refl _ _) S rfl⟩
theorem td_none {σ : L2.St} {H : Hp} {Q : Option Int → Hp → Prop} (h : TD Γ (fun _ _ _ _ (a : Option Int) b => a = b) (fun _ => T.ret none) σ H Q) : tNoPart σ H Q := by
  obtain ⟨W, b, env, S, X0, r, k⟩ := h
  exact k W H none (Ext.refl _ _) S rfl
theorem s_slL (hK : Γ.K = X.K) {a lo : ME} {y l : Expr} {p2 : Pos} (ha : PE X y (TD Γ (mR Γ.K) (denE G.C a))) (hl : PE X l (TD Γ (mR Γ.K) (denE G.C lo))) : PE X (.Subscript y (.Slice (some l) none none p2) p) (TD Γ (mN Γ.K) (denE G.C (.slL a lo))) :=
  s_sl hK ha (po_td hl) po_none (fun _ _ _ h => h) (fun _ _ _ h => td_none h) fun env => by simp only [denE, T.assoc, T.ret_bind]
theorem s_slU (hK : Γ.K = X.K) {a hi : ME} {y h' : Expr} {p2 : Pos} (ha : PE X y (TD Γ (mR Γ.K) (denE G.C a))) (hh : PE X h' (TD Γ (mR Γ.K) (denE G.C hi))) : PE X (.Subscript y (.Slice none (some h') none p2) p) (TD Γ (mN Γ.K) (denE G.C (.slU a hi))) :=
  s_sl hK (tl := fun _ => T.ret none) ha po_none (po_td hh) (fun _ _ _ h => td_none h) (fun _ _ _ h => h) fun env => by simp only [denE, T.assoc, T.ret_bind]
theorem s_slLU (hK : Γ.K = X.K) {a lo hi : ME} {y l h' : Expr} {p2 : Pos} (ha : PE X y (TD Γ (mR Γ.K) (denE G.C a))) (hl : PE X l (TD Γ (mR Γ.K) (denE G.C lo))) (hh : PE X h' (TD Γ (mR Γ.K) (denE G.C hi))) : PE X (.Subscript y (.Slice (some l) (some h') none p2) p) (TD Γ (mN Γ.K) (denE G.C (.slLU a lo hi))) :=
  s_sl hK ha (po_td hl) (po_td hh) (fun _ _ _ h => h) (fun _ _ _ h => h) fun env => by simp only [denE, T.assoc, T.ret_bind]
theorem td_u1' {out : Out} {op : O1} {a : ME} (m : Mono (mO Γ.K out)) {σ : L2.St} {H : Hp} {Q : V → Hp → Prop} (h : TD Γ (mO Γ.K out) (denE G.C (.o1 op a)) σ H Q) : TD Γ (mR Γ.K) (denE G.C a) σ H fun x H1 => rU1 Γ.K out (o1 op) x H1 Q :=
  td_u1 (f := o1 op) (fun _ => plain_o1) m (h.congr fun env => by rw [denE])
def outOf : O1 → PySem.W.Frag → Out
  | .list, K => outN K | .sorted, K => outN K | .sortedSet, K => outN K | .rev, K => outN K | _, K => outV K
theorem clS_b1 (o : XOk G c sc X) {op : O1} {n : String} (hh : (!c.hot || cool1 op) = true) (h : b1 op = some (n, false)) : CallR X (.builtin n) (rC1 X.K (outOf op X.K) (o1 op)) := by
  cases op <;> cases h
  · exact clS_len
  · exact clS_sorted
  · exact clS_minL (o.calm (by simpa [cool1] using hh))
  · exact clS_maxL (o.calm (by simpa [cool1] using hh))
  · exact clS_sum (o.calm (by simpa [cool1] using hh))
  · exact clS_all (o.calm (by simpa [cool1] using hh))
  · exact clS_any (o.calm (by simpa [cool1] using hh))
  · exact clS_abs
  · exact clS_repr o.gd o.units
theorem clS_t1 {op : O1} {n : String} (h : b1 op = some (n, true)) : CallR X (.type n) (rC1 X.K (outOf op X.K) (o1 op)) := by
  cases op <;> cases h
  · exact clS_tuple
  · exact clS_list
  · exact clS_int
theorem boot_b {op : O1} {n : String} (h : b1 op = some (n, false)) : bootBuiltins (Str.ofString n) = some (.builtin n) ∧ n ∈ bltNames ∧ Str.ofString n ≠ "__name__" := by
  cases op <;> cases h
  all_goals (refine ⟨?_, by simp [bltNames], by decide +kernel⟩)
  all_goals decide +kernel
theorem boot_t {op : O1} {n : String} (h : b1 op = some (n, true)) : bootBuiltins (Str.ofString n) = some (.type n) ∧ n ∈ bltNames ∧ Str.ofString n ≠ "__name__" := by
  cases op <;> cases h
  all_goals (refine ⟨?_, by simp [bltNames], by decide +kernel⟩)
  all_goals decide +kernel
theorem outOf_N {op : O1} (K : PySem.W.Frag) (h : mk (.o1 op (.k .none)) = true) : outOf op K = outN K := by
  cases op <;> first | rfl | cases h
theorem outOf_V {op : O1} (K : PySem.W.Frag) (h : mk (.o1 op (.k .none)) = false) : outOf op K = outV K := by
  cases op <;> first | rfl | cases h
/-- the mode of a term -/
def md (K : PySem.W.Frag) (m : ME) : Rel PV V := if rdO m then mR K else if mk m then mN K else mV K
theorem td_md {m : ME} {t : Ev → T PV} {σ : L2.St} {H : Hp} {Q : V → Hp → Prop} (h : TD Γ (mR Γ.K) t σ H Q) : TD Γ (md Γ.K m) t σ H Q := by
  unfold md
  split
  · exact h
  · split
    · exact h.nr
    · exact h.vr
theorem td_mdV {m : ME} (hr : rdO m = false) {t : Ev → T PV} {σ : L2.St} {H : Hp} {Q : V → Hp → Prop} (h : TD Γ (mV Γ.K) t σ H Q) : TD Γ (md Γ.K m) t σ H Q := by
  unfold md
  rw [if_neg (by rw [hr]; simp)]
  split
  · exact h.nv
  · exact h
theorem s_b1 (GO : GOk G c) (o : XOk G c sc X) (hK : Γ.K = X.K) {op : O1} (hh : (!c.hot || cool1 op) = true) {n : String} {b : Bool} {a : ME} {y : Expr} {p2 : Pos} (h : b1 op = some (n, b)) (hx : x = Str.ofString n) (hg : sc.names.lookup x = some .globalImplicit) (hd : (x == ("__debug__" : Str)) = false)
    (hs : notStar y = true) (ha : PE X y (TD Γ (mR Γ.K) (denE G.C a))) : PE X (.Call (.Name x p) [y] [] p2) (TD Γ (md Γ.K (.o1 op a)) (denE G.C (.o1 op a))) := by
  have key : ∀ (σ : L2.St) (H : Hp) (Q : V → Hp → Prop), TD Γ (md Γ.K (.o1 op a)) (denE G.C (.o1 op a)) σ H Q → TD Γ (mR Γ.K) (denE G.C a) σ H fun z H1 => rU1 X.K (outOf op X.K) (o1 op) z H1 Q := fun σ H Q q => by
    rw [← hK]
    cases hm : mk (.o1 op a) with
    | true =>
      have hm' : mk (.o1 op (.k .none)) = true := by cases op <;> exact hm
      rw [outOf_N _ hm']
      have e : md Γ.K (.o1 op a) = mN Γ.K := by unfold md; rw [if_neg (by simp [rdO]), if_pos hm]
      rw [e] at q
      exact td_u1' mono_outN (mO_N rfl q)
    | false =>
      have hm' : mk (.o1 op (.k .none)) = false := by cases op <;> exact hm
      rw [outOf_V _ hm']
      have e : md Γ.K (.o1 op a) = mV Γ.K := by unfold md; rw [if_neg (by simp [rdO]), if_neg (by rw [hm]; simp)]
      rw [e] at q
      exact td_u1' mono_outV (mO_V rfl q)
  cases b with
  | false =>
    obtain ⟨h1, h2, h3⟩ := boot_b h
    refine (pe_callB (clS_b1 o hh h) (o.gl hg) (by rw [o.hmg, hx]; exact GO.blt n h2) (by rw [hx]; exact h1) (pa_cons ha pa_nil (star1 hs [] X.env)) (by rw [hx]; exact h3) hd (star1 hs [] X.env) rfl).imp fun σ H Q q => ?_
    refine TD.imp (key σ H Q q) fun W b W' H' a' v e S k r => ?_
    exact ⟨v, rfl, k W' H' v e S r⟩
  | true =>
    obtain ⟨h1, h2, h3⟩ := boot_t h
    refine (pe_callTy (clS_t1 h) (o.gl hg) (by rw [o.hmg, hx]; exact GO.blt n h2) (by rw [hx]; exact h1) (pa_cons ha pa_nil (star1 hs [] X.env)) (by rw [hx]; exact h3) hd (star1 hs [] X.env) rfl).imp fun σ H Q q => ?_
    refine TD.imp (key σ H Q q) fun W b W' H' a' v e S k r => ?_
    exact ⟨v, rfl, k W' H' v e S r⟩
theorem s_neg (hK : Γ.K = X.K) {a : ME} {y : Expr} (ha : PE X y (TD Γ (mR Γ.K) (denE G.C a))) : PE X (.UnaryOp .USub y p) (TD Γ (mV Γ.K) (denE G.C (.o1 .neg a))) := by
  refine (pe_un un_neg ha).imp fun σ H Q q => ?_
  refine TD.imp (td_u1' mono_outV (mO_V rfl q)) fun W b W' H' a' v e S k r => ?_
  obtain ⟨W2, b2, d, z, S2, r2, ez, k2⟩ := k W' H' v e S r
  cases d with
  | int j =>
    cases ret_inj ez
    exact ⟨j, r2.int, k2 W2 H' _ (Ext.refl _ _) S2 (.d (.int _))⟩
  | _ => cases ez
theorem is_none {d z : PyData} (h : o1 .isNone d = T.ret z) {K : PySem.W.Frag} {W : Wd} {H : Hp} {b : Nat} {v : V} (S : SR K W b H) (r : RR K W H (.d d) v) : z = .bool (decide (v = .non)) := by
  cases d with
  | none =>
    obtain rfl := r.non
    cases ret_inj h
    rfl
  | _ =>
    cases ret_inj h
    have : v ≠ .non := by
      rintro rfl
      cases r with
      | v q => cases q with
        | d q => cases q
    rw [decide_eq_false this]
theorem not_none {d z : PyData} (h : o1 .notNone d = T.ret z) {K : PySem.W.Frag} {W : Wd} {H : Hp} {b : Nat} {v : V} (S : SR K W b H) (r : RR K W H (.d d) v) : z = .bool (!decide (v = .non)) := by
  cases d with
  | none =>
    obtain rfl := r.non
    cases ret_inj h
    rfl
  | _ =>
    cases ret_inj h
    have : v ≠ .non := by
      rintro rfl
      cases r with
      | v q => cases q with
        | d q => cases q
    rw [decide_eq_false this]
    rfl
theorem s_isNone {a : ME} {y : Expr} {j : Nat} {p2 : Pos} (ha : PE X y (TD Γ (mR Γ.K) (denE G.C a))) : PE X (.Compare y [.Is] [.Constant .none j p2] p) (TD Γ (mV Γ.K) (denE G.C (.o1 .isNone a))) := by
  refine (pe_cmp (pc_isN ha)).imp fun σ H Q q => ?_
  refine TD.imp (td_u1' mono_outV (mO_V rfl q)) fun W b W' H' a' v e S k r => ?_
  obtain ⟨W2, b2, d, z, S2, r2, ez, k2⟩ := k W' H' v e S r
  rw [is_none ez S2 r2] at k2
  exact k2 W2 H' _ (Ext.refl _ _) S2 (.d (.bl _))
theorem s_notNone {a : ME} {y : Expr} {j : Nat} {p2 : Pos} (ha : PE X y (TD Γ (mR Γ.K) (denE G.C a))) : PE X (.Compare y [.IsNot] [.Constant .none j p2] p) (TD Γ (mV Γ.K) (denE G.C (.o1 .notNone a))) := by
  refine (pe_cmp (pc_notN ha)).imp fun σ H Q q => ?_
  refine TD.imp (td_u1' mono_outV (mO_V rfl q)) fun W b W' H' a' v e S k r => ?_
  obtain ⟨W2, b2, d, z, S2, r2, ez, k2⟩ := k W' H' v e S r
  rw [not_none ez S2 r2] at k2
  exact k2 W2 H' _ (Ext.refl _ _) S2 (.d (.bl _))
theorem pt_isNone {a : ME} {y : Expr} {j : Nat} {p2 : Pos} (ha : PE X y (TD Γ (mR Γ.K) (denE G.C a))) : PT X (.Compare y [.Is] [.Constant .none j p2] p) (TD Γ mB (tt (denE G.C (.o1 .isNone a)))) := by
  refine (pt_cmp (pc_isN ha)).imp fun σ H Q q => ?_
  refine TD.imp (td_u1' mono_outV (mO_V rfl (td_boolV q))) fun W b W' H' a' v e S k r => ?_
  obtain ⟨W2, b2, d, z, S2, r2, ez, k2⟩ := k W' H' v e S r
  rw [is_none ez S2 r2] at k2
  exact k2 W2 H' _ (Ext.refl _ _) S2 (.d (.bl _))
theorem pt_notNone {a : ME} {y : Expr} {j : Nat} {p2 : Pos} (ha : PE X y (TD Γ (mR Γ.K) (denE G.C a))) : PT X (.Compare y [.IsNot] [.Constant .none j p2] p) (TD Γ mB (tt (denE G.C (.o1 .notNone a)))) := by
  refine (pt_cmp (pc_notN ha)).imp fun σ H Q q => ?_
  refine TD.imp (td_u1' mono_outV (mO_V rfl (td_boolV q))) fun W b W' H' a' v e S k r => ?_
  obtain ⟨W2, b2, d, z, S2, r2, ez, k2⟩ := k W' H' v e S r
  rw [not_none ez S2 r2] at k2
  exact k2 W2 H' _ (Ext.refl _ _) S2 (.d (.bl _))
theorem td_not {a : ME} {σ : L2.St} {H : Hp} {Q : Bool → Hp → Prop} (q : TD Γ mB (tt (denE G.C (.o1 .not a))) σ H Q) : TD Γ mB (tt (denE G.C a)) σ H fun k H1 => Q (!k) H1 := by
  have q := q.congr (t' := fun env => denE G.C a env >>= fun v => asD v >>= fun d => o1 .not d >>= fun z => asBool z) fun env => by
    simp only [tt, denE, T.assoc, asD, T.ret_bind]
  have q2 := q.congr (t' := fun env => (tt (denE G.C a) env) >>= fun k => T.ret (!k)) fun env => by
    simp only [tt, T.assoc]
    congr
    funext v
    congr
    funext d
    cases d <;> rfl
  refine q2.bind (rel := mB) (f := fun env k => T.ret (!k)) mono_mB fun W b env W1 H1 k k' S X0 r e1 ek h => ?_
  obtain rfl : k = k' := ek
  exact h W1 H1 _ (Ext.refl _ _) S rfl
theorem s_not {a : ME} {y : Expr} (ha : PE X y (TD Γ (mV Γ.K) (denE G.C a))) : PE X (.UnaryOp .Not y p) (TD Γ (mV Γ.K) (denE G.C (.o1 .not a))) := by
  refine (pe_not ha).imp fun σ H Q q => ?_
  have q := (td_u1' mono_outV (mO_V rfl q)).vr
  refine TD.imp q fun W b W' H' a' v e S k r => ?_
  obtain ⟨W2, b2, d, z, S2, r2, ez, k2⟩ := k W' H' v e S r
  cases d with
  | bool j =>
    cases ret_inj ez
    exact ⟨j, r2.bl, k2 W2 H' _ (Ext.refl _ _) S2 (.d (.bl _))⟩
  | _ => cases ez
theorem pt_not' {a : ME} {y : Expr} (ha : PT X y (TD Γ mB (tt (denE G.C a)))) : PT X (.UnaryOp .Not y p) (TD Γ mB (tt (denE G.C (.o1 .not a)))) :=
  (pt_not ha).imp fun σ H Q q => td_not q
/-- a test, then one of two -/
theorem td_if {α β : Type} {rel : Rel α β} (m : Mono rel) {t : Ev → T PV} {f g : Ev → T α} {σ : L2.St} {H : Hp} {Q : β → Hp → Prop} (q : TD Γ rel (fun env => t env >>= asD >>= asBool >>= fun p => if p then f env else g env) σ H Q) :
    TD Γ mB (tt t) σ H fun p H1 => if p = true then TD Γ rel f σ H1 Q else TD Γ rel g σ H1 Q := by
  refine q.bind (rel := mB) (f := fun env p => if p then f env else g env) m fun W b env W1 H1 k k' S X0 r e1 ek h => ?_
  obtain rfl : k = k' := ek
  cases k with
  | true => exact ⟨W1, b, env, S, X0, r, h⟩
  | false => exact ⟨W1, b, env, S, X0, r, h⟩
theorem s_and {a b : ME} {y z : Expr} {xs : List Expr} {p2 : Pos} (ha : PE X y (TD Γ (mV Γ.K) (denE G.C a))) (hb : PE X (.BoolOp .And (z :: xs) p) (TD Γ (mV Γ.K) (denE G.C b))) : PE X (.BoolOp .And (y :: z :: xs) p) (TD Γ (mV Γ.K) (denE G.C (.and a b))) := by
  refine (pe_and ha hb).imp fun σ H Q q => ?_
  have q := td_if mono_mV (q.congr fun env => by rw [denE])
  refine TD.imp (td_boolV q) fun W b W' H' a' v e S k r => ?_
  obtain ⟨k1, rfl, k2⟩ := k W' H' v e S r
  refine ⟨k1, rfl, ?_⟩
  cases k1 with
  | true => exact k2
  | false =>
    obtain ⟨W3, b3, env3, S3, X3, r3, h3⟩ := k2
    exact h3 W3 H' _ (Ext.refl _ _) S3 (.d (.bl _))
theorem s_or {a b : ME} {y z : Expr} {xs : List Expr} {p2 : Pos} (ha : PE X y (TD Γ (mV Γ.K) (denE G.C a))) (hb : PE X (.BoolOp .Or (z :: xs) p) (TD Γ (mV Γ.K) (denE G.C b))) : PE X (.BoolOp .Or (y :: z :: xs) p) (TD Γ (mV Γ.K) (denE G.C (.or a b))) := by
  refine (pe_or ha hb).imp fun σ H Q q => ?_
  have q := td_if mono_mV (q.congr fun env => by rw [denE])
  refine TD.imp (td_boolV q) fun W b W' H' a' v e S k r => ?_
  obtain ⟨k1, rfl, k2⟩ := k W' H' v e S r
  refine ⟨k1, rfl, ?_⟩
  cases k1 with
  | false => exact k2
  | true =>
    obtain ⟨W3, b3, env3, S3, X3, r3, h3⟩ := k2
    exact h3 W3 H' _ (Ext.refl _ _) S3 (.d (.bl _))
theorem tt_and {a b : ME} (env : Ev) : tt (denE G.C (.and a b)) env = denE G.C a env >>= asD >>= asBool >>= fun p => if p then tt (denE G.C b) env else T.ret false := by
  simp only [tt, denE, T.assoc]
  congr
  funext v
  congr
  funext d
  congr
  funext k
  cases k <;> rfl
theorem tt_or {a b : ME} (env : Ev) : tt (denE G.C (.or a b)) env = denE G.C a env >>= asD >>= asBool >>= fun p => if p then T.ret true else tt (denE G.C b) env := by
  simp only [tt, denE, T.assoc]
  congr
  funext v
  congr
  funext d
  congr
  funext k
  cases k <;> rfl
theorem td_ret {b : Bool} {σ : L2.St} {H : Hp} {Q : Bool → Hp → Prop} (h : TD Γ mB (fun _ => T.ret b) σ H Q) : Q b H := by
  obtain ⟨W3, b3, env3, S3, X3, r3, h3⟩ := h
  exact h3 W3 H b (Ext.refl _ _) S3 rfl
theorem pw_and' {a b : ME} {y z : Expr} {xs : List Expr} (ha : PT X y (TD Γ mB (tt (denE G.C a)))) (hb : PW X (.BoolOp .And (z :: xs) p) (TD Γ mB (tt (denE G.C b)))) : PW X (.BoolOp .And (y :: z :: xs) p) (TD Γ mB (tt (denE G.C (.and a b)))) := by
  refine (pw_and ha hb).imp fun σ H Q q => ?_
  have q := td_if mono_mB (q.congr tt_and)
  refine TD.imp q fun W b W' H' k k' e S kk r => ?_
  have kk := kk W' H' k' e S r
  cases k' with
  | true => exact kk
  | false => exact td_ret kk
theorem pw_or' {a b : ME} {y z : Expr} {xs : List Expr} (ha : PT X y (TD Γ mB (tt (denE G.C a)))) (hb : PW X (.BoolOp .Or (z :: xs) p) (TD Γ mB (tt (denE G.C b)))) : PW X (.BoolOp .Or (y :: z :: xs) p) (TD Γ mB (tt (denE G.C (.or a b)))) := by
  refine (pw_or ha hb).imp fun σ H Q q => ?_
  have q := td_if mono_mB (q.congr tt_or)
  refine TD.imp q fun W b W' H' k k' e S kk r => ?_
  have kk := kk W' H' k' e S r
  cases k' with
  | false => exact kk
  | true => exact td_ret kk
theorem s_ife {a b d : ME} {y z w : Expr} (hd : PT X w (TD Γ mB (tt (denE G.C d)))) (ha : PE X y (TD Γ (mV Γ.K) (denE G.C a))) (hb : PE X z (TD Γ (mV Γ.K) (denE G.C b))) : PE X (.IfExp w y z p) (TD Γ (mV Γ.K) (denE G.C (.ife d a b))) := by
  refine (pe_ifExp hd ha hb).imp fun σ H Q q => ?_
  exact td_if mono_mV (q.congr fun env => by rw [denE])
theorem tt_ife {a b d : ME} (env : Ev) : tt (denE G.C (.ife d a b)) env = denE G.C d env >>= asD >>= asBool >>= fun p => if p then tt (denE G.C a) env else tt (denE G.C b) env := by
  simp only [tt, denE, T.assoc]
  congr
  funext v
  congr
  funext d
  congr
  funext k
  cases k <;> rfl
theorem pt_ife {a b d : ME} {y z w : Expr} (hd : PT X w (TD Γ mB (tt (denE G.C d)))) (ha : PT X y (TD Γ mB (tt (denE G.C a)))) (hb : PT X z (TD Γ mB (tt (denE G.C b)))) : PT X (.IfExp w y z p) (TD Γ mB (tt (denE G.C (.ife d a b)))) := by
  refine ⟨fun pins s σ H Q I h => ?_⟩
  have h := td_if mono_mB (h.congr tt_ife)
  show wpAny _ _ (do if ← isTrue w X.env (eval w X.env) then isTrue y X.env (eval y X.env) else isTrue z X.env (eval z X.env)) _ _ _
  refine wpAny_bind (thn (hd.run pins s σ H _ I h) fun k s1 ⟨H1, I1, q1⟩ => ?_)
  cases k with
  | true => exact ha.run pins s1 σ H1 Q I1 q1
  | false => exact hb.run pins s1 σ H1 Q I1 q1
end
end Mp
namespace L2
open PySem PySem.Spec PyProof.Rows
section
variable {P : Program} {w : World} {A : Around} {E : Value → Shared → Prop} {s : Shared}
set_option maxRecDepth 100000 in
set_option maxHeartbeats 3200000 in
theorem call_set_listI {l : Addr} {items : Array Value} (ns : List Int) {Q : Value → Shared → Prop} (hh : A.handled = none) (hl : s.heap.IsList l items) (hit : IntsAre items.toList ns) (hb : ns.length + 1 < scanBound)
    (h : ∀ (h' : Heap) (tk c : Nat), SetR w h' s.heap.objs.size (fun j => decide (j ∈ ns)) c → c ≤ ns.length → (∀ b o, s.heap.get? b = some o → h'.get? b = some o) → Q (.ref s.heap.objs.size) { s with heap := h', toks := tk }) :
    wpAny (model P w) A (call (.type "set") [.ref l]) Q E s := by
  have hisz : items.size = ns.length := by
    have q := IntsAre.length hit
    rw [Array.length_toList] at q
    exact q
  obtain ⟨c, tl, hmro⟩ := F.called_set.mro
  have hmade := F.called_set.made
  have hsub := F.called_set.sub
  refine wpAny_call (codeAny_of_tree ?_)
  show wpAny _ _ (callAny (.type "set") _) _ _ _
  refine wpAny_pure ⟨Code.quiet_builtin _ (by decide +kernel), codeAny_builtin F.entry_type_call ?_⟩
  rw [Around.under_plain (weight_type_call_type "set" [.ref l] []) rfl]
  have h1 := F.called_set.notType
  have h2 := F.called_set.canCreate
  have hct := F.typeCall_set_1 (.ref l)
  repeat (any_goals (first | assumption | wp_step))

  refine codeAny_mono (code_set_led1 (.ref l) (E := E) (Q₁ := fun obj s₁ => obj = .ref s.heap.objs.size ∧ s₁ = { s with heap := s.heap.push { cls := .type "set", dict := none, data := .set #[] 0 (.fresh 0 0 (!w.params.followText "set-order")) } }) ⟨rfl, rfl⟩) fun r s₁ hr => ?_
  cases r with
  | error e => exact hr
  | ok fl =>
    cases fl with
    | ret obj =>
      obtain ⟨rfl, rfl⟩ := hr
      have hS : (s.heap.push { cls := .type "set", dict := none, data := .set #[] 0 (.fresh 0 0 (!w.params.followText "set-order")) }).get? s.heap.objs.size = some { cls := .type "set", dict := none, data := .set #[] 0 (.fresh 0 0 (!w.params.followText "set-order")) } := Heap.get?_push_size _ rfl
      have hT : Shared.TypeIs { s with heap := s.heap.push { cls := .type "set", dict := none, data := .set #[] 0 (.fresh 0 0 (!w.params.followText "set-order")) } } (.ref s.heap.objs.size) "set" := ⟨_, hS, rfl⟩
      have hli := F.called_set.init.lookup
      have hbi := F.called_set.init.bind (.ref s.heap.objs.size)
      repeat (any_goals (first | assumption | wp_step))

      refine codeAny_mono (codeAny_call_builtin (R := wants (fun r s₂ => r = .none ∧ ∃ h' tk c, s₂ = { s with heap := h', toks := tk } ∧ SetR w h' s.heap.objs.size (fun j => decide (j ∈ ns)) c ∧ c ≤ ns.length ∧
          (∀ b o, s.heap.get? b = some o → h'.get? b = some o)) E) F.called_set.init.plain F.entry_set_init (check_set_init_1 hT ?_)) fun r₂ s₂ hr₂ => ?_
      · obtain ⟨ol, hol, hcl, nl, hdl⟩ := hl
        obtain ⟨ocls, odict, odata, oslots⟩ := ol
        simp only at hcl hdl
        subst hcl; subst hdl
        have hol' : (s.heap.push { cls := .type "set", dict := none, data := .set #[] 0 (.fresh 0 0 (!w.params.followText "set-order")) }).get? l = some { cls := .type "list", dict := odict, data := .seq items nl, slots := oslots } := Heap.get?_push_of_some _ hol
        have hsls := F.sub_list_set
        have hslf := F.sub_list_frozenset
        have hne : (Value.type "list" == Value.type "dict") = false := by decide
        have hl1 : (s.heap.push { cls := .type "set", dict := none, data := .set #[] 0 (.fresh 0 0 (!w.params.followText "set-order")) }).IsList l items := ⟨_, hol', rfl, nl, rfl⟩
        unfold Builtin.«set.__init__» noKeywords Builtin.Frozenset.updateFrom
        generalize hPI : pyIter = PI
        wp_walk
        subst hPI

        refine wpAny_pyIter_list hl1 ?_
        refine wpAny_bind (wpAny_runValue ?_)
        have hlS : l < s.heap.objs.size := Heap.lt_size hol
        have hh3 : A.in1.in1.in1.handled = none := by simp [hh]
        have hz1 : (s.heap.push { cls := .type "set", dict := none, data := .set #[] 0 (.fresh 0 0 (!w.params.followText "set-order")) }).objs.size = s.heap.objs.size + 1 := Heap.size_push ..
        have hneI : l ≠ (s.heap.push { cls := .type "set", dict := none, data := .set #[] 0 (.fresh 0 0 (!w.params.followText "set-order")) }).objs.size := by
          rw [Heap.size_push]; exact Nat.ne_of_lt (Nat.lt_succ_of_lt hlS)
        have hSf : s.heap.objs.size ∉ [(s.heap.push { cls := .type "set", dict := none, data := .set #[] 0 (.fresh 0 0 (!w.params.followText "set-order")) }).objs.size, l] := by
          rw [Heap.size_push]; simp only [List.mem_cons, List.mem_singleton, List.not_mem_nil, or_false, not_or]
          exact ⟨Nat.ne_of_lt (Nat.lt_succ_self _), Nat.ne_of_gt hlS⟩
        have hval : ∀ (i : Nat) (v : Value), items[i]? = some v → ∃ k t, ns[i]? = some k ∧ v = .int k t := fun i v hv => by
          have hi : i < ns.length := by rw [← hisz]; exact (Array.getElem?_eq_some_iff.mp hv).1
          obtain ⟨t, e⟩ := PyProof.Rows.IntsAre.int_at hit i v (by rw [Array.getElem?_toList]; exact hv)
          refine ⟨ns[i], t, List.getElem?_eq_getElem hi, ?_⟩
          rw [e, List.getD_eq_getElem?_getD, List.getElem?_eq_getElem hi] <;> rfl
        refine set_update_ints ((Walks.list hh3 _ l hneI items).toS) s.heap.objs.size
          hSf ns hisz hb hval (items.size - 0) 0 _ (by omega) (Nat.zero_le _)
          ⟨⟨_, Heap.get?_push_size _ rfl, rfl, rfl⟩, (hl1.push _)⟩ ?hS0 ?hR
        case hS0 =>
          have hget : ((s.heap.push { cls := .type "set", dict := none, data := .set #[] 0 (.fresh 0 0 (!w.params.followText "set-order")) }).push { cls := .type "list_iterator", data := .fields #[.ref l, .int 0 0] }).get? s.heap.objs.size
              = some { cls := .type "set", dict := none, data := .set #[] 0 (.fresh 0 0 (!w.params.followText "set-order")) } := Heap.get?_push_of_some _ hS
          exact ⟨0, Nat.le_refl 0, setR_new_at hget⟩
        case hR =>
          intro s' c' hm hc' hS'
          obtain ⟨h', g2, d', tk', os'⟩ := s'
          have eg : g2 = s.gens := hm.gens
          have ed : d' = s.drawn := hm.drawn
          have eo : os' = s.os := hm.os
          subst eg; subst ed; subst eo
          show wpAny _ _ _ _ _ _
          refine wpAny_pure ?_
          show wpAny _ _ (ret Value.none) _ _ _
          rw [hisz] at hc'
          refine wpAny_pure ⟨rfl, h', tk', c', rfl, hS', hc', fun b o e => ?_⟩
          have hb0 : b < s.heap.objs.size := Heap.lt_size e
          have hb1 : b ≠ s.heap.objs.size := Nat.ne_of_lt hb0
          have hb2 : b ≠ (s.heap.push { cls := .type "set", dict := none, data := .set #[] 0 (.fresh 0 0 (!w.params.followText "set-order")) }).objs.size := by
            rw [Heap.size_push]; exact Nat.ne_of_lt (Nat.lt_succ_of_lt hb0)
          exact hm.heap b o (by simp only [List.mem_cons, List.mem_singleton, List.not_mem_nil, or_false, not_or]; exact ⟨hb1, hb2⟩) (Heap.get?_push_of_some _ (Heap.get?_push_of_some _ e))

      · cases r₂ with
        | error e => exact hr₂
        | ok fl₂ =>
          cases fl₂ with
          | ret r =>
            obtain ⟨rfl, h', tk, c', rfl, hS', hc', hk'⟩ := hr₂
            repeat (any_goals (first | assumption | wp_step))
            exact h _ _ _ hS' hc' hk'
          | _ => exact hr₂.elim
    | _ => exact hr.elim

theorem sorted_setN {a : Addr} {S : Int → Bool} {n : Nat} {Q : Value → Shared → Prop} (R : SetR w s.heap a S n) (hh : A.handled = none)
    (hQ : ∀ s' p (out : Array Value) (c : Nat) (ns : List Int), (∀ b o, s.heap.get? b = some o → s'.heap.get? b = some o) → s'.gens = s.gens → s'.os = s.os → s.heap.objs.size ≤ p →
      s'.heap.get? p = some (seqObj "list" out c) → IntsAre out.toList ns → ns.Pairwise (· < ·) → (∀ k, k ∈ ns ↔ S k = true) → ns.length = n → Q (.ref p) s') :
    wpAny (model P w) A (call (.builtin "sorted") [.ref a]) Q E s := by
  obtain ⟨o, es, ep, t, ho, hex, hd, g, nd, hm, hb, hf, hn, hr, hl⟩ := R
  refine Calls.call_function_entry kind_sorted plain_sorted entry_sorted (args_sorted1 _) ?_
  unfold Builtin.«sorted»
  refine wpAny_bind (m := checkCount "sorted" 1 1 _) (wpAny_pure ?_)
  refine wpAny_bind (collect_set (A := A.in1) hh ⟨o, ho, hex.1, hd⟩ hf hb hr hl fun s1 vs k1 hz g1 o1 pm => ?_)
  have hvl : vs.length = n := by rw [pm.length_eq, List.length_map, Array.length_toList]; exact hn
  have hI : IntsAre vs (vs.map Builtin.Re.reRawOf) := ints_of vs fun v hv => by
    obtain ⟨e, he, q⟩ := List.mem_map.mp (pm.mem_iff.mp hv)
    obtain ⟨k, tk, h1, _⟩ := g e he
    exact ⟨k, tk, by rw [← q]; exact h1⟩
  have pk : (vs.map Builtin.Re.reRawOf).Perm (es.toList.map keyOf) := by
    have q := pm.map Builtin.Re.reRawOf
    rw [List.map_map] at q
    exact q
  refine wpAny_bind (wpAny_newList ?_ (by rw [hvl, ← hn]; exact fits_of_scanBound hb))
  have hoL : (s1.heap.push (seqObj "list" vs.toArray 0)).get? s1.heap.objs.size = some (seqObj "list" vs.toArray 0) := Heap.get?_push_size _ rfl
  refine wpAny_bind (wpAny_holding (wpAny_call_entry slot_list_sort ⟨_, hoL, rfl⟩ entry_list_sort (SrtO.list_sort_ord SrtO.swo_int hoL (by rw [hvl, ← hn]; exact fits_of_scanBound hb) (fun h2 => SrtO.ints_sortable hI h2) fun out h1 h2 => ⟨_, rfl, ?_⟩) (args_list_sort _)))
  obtain ⟨a1, a2, a3⟩ := SrtO.ints_out hI h1 h2
  generalize hns' : out.map SrtO.iv = ns' at a1 a2 a3
  obtain ⟨c, hc⟩ := sortedHeap_at (vs := vs) (out := out.toArray) hoL
  have pn : ns'.Perm (es.toList.map keyOf) := a2.trans pk
  refine wpAny_pure ⟨_, rfl, hQ _ s1.heap.objs.size out.toArray c ns' (fun b u e => ?_) g1 o1 hz hc (by simpa using a1) (lt_of_le_nodup ns' a3 (pn.nodup_iff.mpr nd)) (fun k => by rw [pn.mem_iff, ← hm k]) ?_⟩
  · have q := k1 b u e
    have hlt := Heap.lt_size q
    show (sortedHeap (s1.heap.push (seqObj "list" vs.toArray 0)) s1.heap.objs.size vs out.toArray).get? b = some u
    rw [sortedHeap_old (Nat.ne_of_lt hlt) (by rw [size_push']; exact Nat.lt_succ_of_lt hlt)]
    exact Heap.get?_push_of_some _ q
  · rw [pn.length_eq, List.length_map, Array.length_toList]; exact hn
end
end L2

namespace L2
open PySem PySem.Spec PyProof.Rows
section
variable {X : Cx} {a : Expr} {ta : TE} {x y : Str} {p p2 q pos : Pos}
theorem set_either {pins : List (Addr × Obj)} {σ : L2.St} {H : Hp} {s : Shared} {A : Around} {l : Addr} {ns : List Int} {E Q : Value → Shared → Prop} (hh : A.handled = none) (I : Inv X pins σ H s) (hq : SqL X.K H l (ns.map V.int) ∨ SqT X.K H l (ns.map V.int)) (hl : ns.length ≤ 4000)
    (h : ∀ (h' : Heap) (tk c : Nat), SetR X.w h' s.heap.objs.size (fun j => decide (j ∈ ns)) c → c ≤ ns.length → (∀ b o, s.heap.get? b = some o → h'.get? b = some o) → Q (.ref s.heap.objs.size) { s with heap := h', toks := tk }) :
    wpAny (model X.prog X.w) A (call (.type "set") [.ref l]) Q E s := by
  rcases hq with hq | hq
  · obtain ⟨its, r, pl, hz⟩ := I.list hq
    exact call_set_listI ns hh pl.isList (by simpa using ints_of_vals r) (by unfold scanBound; omega) h
  · obtain ⟨its, r, pl, hz⟩ := I.tuple hq
    exact call_set_tupI ns hh (show s.heap.IsTuple l its.toArray from pl) (by simpa using ints_of_vals r) (by unfold scanBound; omega) h
theorem pe_sortedSetI (hc : X.calm = true) (hx : x = ("sorted" : Str)) (hy : y = ("set" : Str)) (hg : Gl X x) (hm : X.mg x = none) (hg2 : Gl X y) (hm2 : X.mg y = none) (ha : PE X a ta)
    (na : starEach [a] X.env = (false, eval a X.env) :: starEach [] X.env) : PE X (.Call (.Name x p) [.Call (.Name y p2) [a] [] q] [] pos)
      (fun σ H Q => ta σ H fun v H1 => ∃ (l : Addr) (ns : List Int), v = .ref l ∧ (SqL X.K H1 l (ns.map V.int) ∨ SqT X.K H1 l (ns.map V.int)) ∧ ns.length ≤ 4000 ∧
        ∀ (ns' : List Int) (p : Addr), ns'.Pairwise (· < ·) → (∀ k, k ∈ ns' ↔ k ∈ ns) → H1 p = none → Q (.ref p) (upd H1 p (.lst (ns'.map V.int)))) := by
  subst hx hy
  refine ⟨fun pins s σ H Q I h => ?_⟩
  refine Call_ (ld_blt I hg hm (u := .builtin "sorted") (by decide +kernel) ?_)
  refine PyProof.Rows.callWith_builtin1 (PyProof.Rows.args_cons ?_ rfl) rfl rfl
  refine Call_ (ld_blt I hg2 hm2 boot_set ?_)
  refine PyProof.Rows.callWith_type1 (PyProof.Rows.args_cons (thn (ha.run pins s σ H _ I h) fun v s1 ⟨x, H1, I1, r1, q1⟩ => PyProof.Rows.args_nil ?_) na) na rfl
  obtain ⟨l, ns, rfl, hq, hl, q1⟩ := q1
  cases r1
  refine set_either (I1.ok.hd hc) I1 hq hl fun h' tk c hS hle hk => ?_
  refine PyProof.Rows.args_nil ?_
  have I2 : Inv X pins σ H1 { s1 with heap := h', toks := tk } := I1.kept hk
  refine sorted_setN hS (I2.ok.hd hc) fun s' p out c ns' k g o hp hg hi hs hm hl' => ?_
  have hlen : (ns'.map V.int).length ≤ sizeLine := by rw [List.length_map, hl', sizeLine_eq]; omega
  have hp0 : s1.heap.objs.size ≤ p := Nat.le_trans (Nat.le_of_lt (by
    obtain ⟨o, es, ep, t, ho, _⟩ := hS
    exact Heap.lt_size ho)) hp
  have hn : H1 p = none := I2.hok.fresh hp
  have J : Inv X pins σ (upd H1 p (.lst (ns'.map V.int))) { ({ s1 with heap := h', toks := tk } : Shared) with heap := s'.heap, gens := s'.gens, drawn := s'.drawn, toks := s'.toks } :=
    I2.call (ch := []) (Un.laid k hp hn) (I2.hok.laid k hp ⟨hlen, out.toList, c, vals_of_ints hi, hg⟩) (by rw [g]; exact I2.bare) (fun _ z => nomatch z)
  have e : s' = { ({ s1 with heap := h', toks := tk } : Shared) with heap := s'.heap, gens := s'.gens, drawn := s'.drawn, toks := s'.toks } := by
    cases s'
    cases s1
    cases o
    rfl
  rw [e]
  exact ⟨.ref p, _, J, rfl, q1 ns' p hs (fun k => by rw [hm k, decide_eq_true_eq]) hn⟩
theorem pe_lenSetL (hc : X.calm = true) (hx : x = ("len" : Str)) (hy : y = ("set" : Str)) (hg : Gl X x) (hm : X.mg x = none) (hg2 : Gl X y) (hm2 : X.mg y = none) (ha : PE X a ta)
    (na : starEach [a] X.env = (false, eval a X.env) :: starEach [] X.env) : PE X (.Call (.Name x p) [.Call (.Name y p2) [a] [] q] [] pos)
      (fun σ H Q => ta σ H fun v H1 => ∃ (l : Addr) (ns : List Int), v = .ref l ∧ (SqL X.K H1 l (ns.map V.int) ∨ SqT X.K H1 l (ns.map V.int)) ∧ ns.length ≤ 4000 ∧
        ∀ (ns' : List Int), ns'.Nodup → (∀ k, k ∈ ns' ↔ k ∈ ns) → Q (.int ns'.length) H1) := by
  subst hx hy
  refine ⟨fun pins s σ H Q I h => ?_⟩
  refine Call_ (ld_blt I hg hm (u := .builtin "len") (by decide +kernel) ?_)
  refine PyProof.Rows.callWith_builtin1 (PyProof.Rows.args_cons ?_ rfl) rfl rfl
  refine Call_ (ld_blt I hg2 hm2 boot_set ?_)
  refine PyProof.Rows.callWith_type1 (PyProof.Rows.args_cons (thn (ha.run pins s σ H _ I h) fun v s1 ⟨x, H1, I1, r1, q1⟩ => PyProof.Rows.args_nil ?_) na) na rfl
  obtain ⟨l, ns, rfl, hq, hl, q1⟩ := q1
  cases r1
  refine set_either (I1.ok.hd hc) I1 hq hl fun h' tk c hS hle hk => ?_
  refine PyProof.Rows.args_nil ?_
  have I2 : Inv X pins σ H1 { s1 with heap := h', toks := tk } := I1.kept hk
  obtain ⟨o, es, ep, t, ho, hex, hdt, g, nd, hm2', hb, hf, hn, hr, hl2⟩ := hS
  have hn2 : (es.toList.map keyOf).length = es.size := by rw [List.length_map, Array.length_toList]
  exact call_len_set ho hex hdt hf (by unfold scanBound at hb; omega) ⟨.int es.size, H1, I2.tok _, ⟨_, rfl⟩, by
    have z := q1 (es.toList.map keyOf) nd (fun k => by rw [← hm2' k, decide_eq_true_eq])
    rw [hn2] at z
    exact z⟩
end
end L2
namespace Mp
open PySem PySem.Spec PyProof.Rows L2
open Mp.T (Wc)
section
variable {G : Gf} {c : Ck} {sc : Scope} {X : Cx} {e : Expr} {x : Str} {p : Pos} {i : Nat} {Γ : Ga}
theorem Wc.step {α β γ δ : Type} {rel : Rel α β} {rel' : Rel γ δ} {t : Ev → T α} {f : α → T γ} {σ : L2.St} {W : Wd} {H : Hp} {b : Nat} {env : Ev} {Q : δ → Hp → Prop} {R : β → Hp → Prop} (m : Mono rel') (S : SR Γ.K W b H) (X0 : Ext Γ.W0 Γ.H0 W H) (r : ER Γ.K Γ.H0 W σ H env)
    (h : Wc (postQ Γ rel' W H Q) (postE Γ σ W H) b (t env >>= f))
    (k : ∀ b1 a W1 H1 v, Ext W H W1 H1 → SR Γ.K W1 b1 H1 → rel W H W1 H1 a v → Wc (postQ Γ rel' W1 H1 Q) (postE Γ σ W1 H1) b1 (f a) → R v H1) : TD Γ rel t σ H R :=
  ⟨W, b, env, S, X0, r, T.Wc.mono (fun b1 a ha W1 H1 v e1 S1 q => k b1 a W1 H1 v e1 S1 q (Wc.later m e1 ha)) (fun _ _ z => z) _ _ ((T.Wc_bind _ _).mp h)⟩
theorem lastM {o1 o2 : CmpOp} {b d : Expr} (h1 : notSet b = true) (h2 : notSet d = true) : lastMarks [o1, o2] [b, d] = false := by
  cases d <;> first | rfl | cases h2
theorem td_chain (hK : Γ.K = X.K) {rel : Rel PV V} (m : Mono rel) {op oq : O2} {a b d : ME} {σ : L2.St} {H : Hp} {Q : V → Hp → Prop} (hr : ∀ W H W' H' (z : PyData) (v : V), outV Γ.K H W' H' z v → rel W H W' H' (.d z) v) (q : TD Γ rel (denE G.C (.chain op oq a b d)) σ H Q) :
    tChain (rO2 X.K (outV X.K) (o2 op)) (rO2 X.K (outV X.K) (o2 oq)) (TD Γ (mR Γ.K) (denE G.C a)) (TD Γ (mR Γ.K) (denE G.C b)) (TD Γ (mR Γ.K) (denE G.C d)) σ H Q := by
  obtain ⟨W, b0, env, S, X0, r, k⟩ := q
  rw [← hK]
  simp only [denE, T.assoc] at k
  refine Wc.step m S X0 r k fun b1 va W1 H1 xa e1 S1 ra k => ?_
  obtain ⟨da, ea, k⟩ := Wc_plain plain_asD k
  rw [asD_ret ea] at ra
  refine Wc.step m S1 (X0.trans e1 S1) (r.ext e1) k fun b2 vb W2 H2 xb e2 S2 rb k => ?_
  obtain ⟨db, eb, k⟩ := Wc_plain plain_asD k
  rw [asD_ret eb] at rb
  obtain ⟨z, ez, k⟩ := Wc_plain plain_o2 k
  refine ⟨W2, b2, da, db, z, S2, RR.ext e2 ra, rb, ez, fun W3 H3 v e3 S3 o => ?_⟩
  have k := Wc.later m e3 k
  obtain ⟨t, et, k⟩ := Wc_plain plain_asBool k
  rw [asBool_ret et] at o
  refine ⟨t, (RR.v o : RR Γ.K W3 H3 _ v).bl, ?_⟩
  cases t with
  | true =>
    refine Wc.step m S3 ((X0.trans e1 S1).trans e2 S2 |>.trans e3 S3) ((r.ext e1).ext e2 |>.ext e3) k fun b4 vd W4 H4 xd e4 S4 rd k => ?_
    obtain ⟨dd, ed, k⟩ := Wc_plain plain_asD k
    rw [asD_ret ed] at rd
    obtain ⟨u, eu, k⟩ := Wc_plain plain_o2 k
    exact ⟨W4, b4, db, dd, u, S4, RR.ext e4 (RR.ext e3 rb), rd, eu, fun W5 H5 v5 e5 S5 o5 => k W5 H5 v5 e5 S5 (hr _ _ _ _ _ _ o5)⟩
  | false => exact k W3 H3 _ (Ext.refl _ _) S3 (hr W3 H3 _ _ (.bool false) (.bl false) (.d (.bl false)))
theorem s_chain (hK : Γ.K = X.K) (hu : X.A.units + 65 < cLine) {op oq : O2} {o1 o2 : CmpOp} {a b d : ME} {y z w : Expr} (h1 : cmpOf op = some o1) (h2 : cmpOf oq = some o2) (ha : PE X y (TD Γ (mR Γ.K) (denE G.C a))) (hb : PE X z (TD Γ (mR Γ.K) (denE G.C b)))
    (hd : PE X w (TD Γ (mR Γ.K) (denE G.C d))) (n1 : notSet z = true) (n2 : notSet w = true) : PE X (.Compare y [o1, o2] [z, w] p) (TD Γ (mV Γ.K) (denE G.C (.chain op oq a b d))) :=
  (pe_chain (opS_cmp hu op h1) (opS_cmp hu oq h2) ha hb hd (lastM n1 n2)).imp fun σ H Q q => td_chain hK mono_mV (fun _ _ _ _ _ _ o => o) q
theorem pt_chain' (hK : Γ.K = X.K) (hu : X.A.units + 65 < cLine) {op oq : O2} {o1 o2 : CmpOp} {a b d : ME} {y z w : Expr} (h1 : cmpOf op = some o1) (h2 : cmpOf oq = some o2) (ha : PE X y (TD Γ (mR Γ.K) (denE G.C a))) (hb : PE X z (TD Γ (mR Γ.K) (denE G.C b)))
    (hd : PE X w (TD Γ (mR Γ.K) (denE G.C d))) (n1 : notSet z = true) (n2 : notSet w = true) : PT X (.Compare y [o1, o2] [z, w] p) (TD Γ mB (tt (denE G.C (.chain op oq a b d)))) :=
  (pt_chain (opS_cmp hu op h1) (opS_cmp hu oq h2) ha hb hd (lastM n1 n2)).imp fun σ H Q q => td_chain hK mono_mV (fun _ _ _ _ _ _ o => o) (td_boolV q)
theorem s_call (GO : GOk G c) (o : XOk G c sc X) (hot : c.hot = false) (hK : Γ.K = G.K) (hxr : XrOk Γ G) (tk : Takes X Γ.wx) {f : Nat} {as : MEs} {y : Expr} {ys : List Expr} {p2 : Pos} (hf : c.nm f = some x) (hg : glb sc x = true) (hs : notStar y = true)
    (ha : PA X (y :: ys) (TD Γ (mAs Γ.K) (denAs G.C as))) : PE X (.Call (.Name x p) (y :: ys) [] p2) (TD Γ (mV Γ.K) (denE G.C (.call f as))) := by
  obtain ⟨fa, h1, h2, F⟩ := GO.fn f x hf
  obtain ⟨g1, g2⟩ := glb_of hg
  have F' : FnRG X.prog X.w X.K X.mg X.base G.n fa (spD G.K G.xr (G.C.call f)) := by rw [o.hP, o.hw, o.hK, o.hmg, o.hbase]; exact F
  refine (pe_callRG F' (o.room hot) o.gd (o.gl g1) (by rw [o.hmg]; exact h1) (by rw [o.hK]; exact h2) tk ha g2 (star1 hs ys X.env)).imp fun σ H Q q => ?_
  obtain ⟨W, b0, env, S, X0, r, k⟩ := q
  rw [denE] at k
  refine Wc.step mono_mV S X0 r k fun b1 va W1 H1 xs e1 S1 ra k => ?_
  have hn : W1.x = none := e1.le.x.trans (X0.le.x.trans (hxr.2.trans (o.hx0 hot)))
  rw [← hK, ← hxr.1]
  exact ⟨W1, b1, va, S1, hn, ra, k⟩
theorem s_callH (GO : GOk G c) (o : XOk G c sc X) (hot : c.hot = true) (hK : Γ.K = G.K) (hxr : XrOk Γ G) (tk : Takes X Γ.wx) {f : Nat} {as : MEs} {y : Expr} {ys : List Expr} {p2 : Pos} (hf : c.hm f = some x) (hg : glb sc x = true) (hs : notStar y = true)
    (ha : PA X (y :: ys) (TD Γ (mAs Γ.K) (denAs G.C as))) : PE X (.Call (.Name x p) (y :: ys) [] p2) (TD Γ (mV Γ.K) (denE G.C (.call f as))) := by
  obtain ⟨fa, h1, h2, F⟩ := GO.fh f x hf
  obtain ⟨g1, g2⟩ := glb_of hg
  obtain ⟨a, C, oe, d, k, e1, e2, hpn, e4, e5, e6⟩ := o.hx1 hot
  have F' : FnHG X.prog X.w X.K X.mg X.base c.cs G.n fa (spX G.K G.xr (G.C.call f)) := by rw [o.hP, o.hw, o.hK, o.hmg, o.hbase]; exact F
  refine (pe_callHG F' o.roomH o.gd hpn e5 e6 e2 (by rw [o.hmg]; exact e4) (o.gl g1) (by rw [o.hmg]; exact h1) (by rw [o.hK]; exact h2) tk ha g2 (star1 hs ys X.env)).imp fun σ H Q q => ?_
  obtain ⟨W, b0, env, S, X0, r, k⟩ := q
  rw [denE] at k
  refine Wc.step mono_mV S X0 r k fun b1 va W1 H1 xs e1' S1 ra k => ?_
  have hn : W1.x = some (a, d, _) := e1'.le.x.trans (X0.le.x.trans (hxr.2.trans e1))
  rw [← hK, ← hxr.1]
  exact ⟨W1, b1, va, S1, hn, ra, k⟩
theorem s_draw (GO : GOk G c) (o : XOk G c sc X) (hot : c.hot = false) (hK : Γ.K = G.K) (tk : Takes X Γ.wx) {m : ME} {g y : Expr} {p2 : Pos} (hx : x = Str.ofString "_law_next") (hg : glb sc x = true) (hs1 : notStar g = true) (hs : notStar y = true)
    (hgE : PE X g (TD Γ (mV Γ.K) (denE G.C (.var i)))) (hy : PE X y (TD Γ (mV Γ.K) (denE G.C m))) : PE X (.Call (.Name x p) [g, y] [] p2) (TD Γ (mV Γ.K) (denE G.C (.draw i m))) := by
  obtain ⟨fa, fd, ps, h1, h2, h3, F⟩ := GO.nxt
  obtain ⟨g1, g2⟩ := glb_of hg
  have F' : FnOkG X.prog X.w X.K X.mg X.base G.n fa fd ps (spN G.K) := by rw [o.hP, o.hw, o.hK, o.hmg, o.hbase]; exact F
  refine (pe_callG F' (o.room hot) o.gd (o.gl g1) (by rw [o.hmg, hx]; exact h1) (by rw [o.hK]; exact h2) (by rw [o.hK]; exact h3) tk (pa_cons hgE (pa_cons hy pa_nil (star1 hs [] X.env)) (star1 hs1 [y] X.env)) g2 (star1 hs1 [y] X.env)
    (by rw [star1 hs [] X.env]; rfl)).imp fun σ H Q q => ?_
  obtain ⟨W, b0, env, S, X0, r, k⟩ := q
  have k2 : Wc (postQ Γ (mV Γ.K) W H Q) (postE Γ σ W H) b0 (denE G.C (.var i) env >>= fun v => match v with
      | .rng => denE G.C m env >>= asD >>= asInt >>= fun j => need (0 < j ∧ j < 1606938044258990275541962092341162602522202993782792835301376) >>= fun _ => T.draw j fun n => T.ret (.d (.int n))
      | _ => T.stuck) := by
    have hv : denE G.C (.var i) env = match env.at i with
      | .v x => T.ret x
      | _ => T.stuck := by
        rw [denE] <;> (cases env.at i <;> rfl)
    have hd : denE G.C (.draw i m) env = match env.at i with
      | .v .rng => denE G.C m env >>= asD >>= asInt >>= fun j => need (0 < j ∧ j < 1606938044258990275541962092341162602522202993782792835301376) >>= fun _ => T.draw j fun n => T.ret (.d (.int n))
      | _ => T.stuck := by
        rw [denE] <;> (cases env.at i <;> first | rfl | (rename_i z; cases z <;> rfl))
    rw [hd] at k
    rw [hv]
    cases ha : env.at i with
    | v z => rw [ha] at k; cases z <;> first | exact k | exact k.elim
    | _ => rw [ha] at k; exact k.elim
  refine Wc.step (f := fun v => match v with
      | .rng => denE G.C m env >>= asD >>= asInt >>= fun j => need (0 < j ∧ j < 1606938044258990275541962092341162602522202993782792835301376) >>= fun _ => T.draw j fun n => T.ret (.d (.int n))
      | _ => T.stuck) mono_mV S X0 r k2 fun b1 va W1 H1 xa e1 S1 ra k => ?_
  cases va with
  | rng =>
    have ra' : RV Γ.K W1 .rng xa := ra
    cases ra' with
    | rng hg =>
      rename_i rr
      simp only [T.assoc] at k
      refine Wc.step mono_mV S1 (X0.trans e1 S1) (r.ext e1) k fun b2 vb W2 H2 xb e2 S2 rb k => ?_
      obtain ⟨db, eb, k⟩ := Wc_plain plain_asD k
      obtain ⟨j, ej, k⟩ := Wc_plain plain_asInt k
      rw [asD_ret eb, asInt_ret ej] at rb
      obtain ⟨⟨j1, j2⟩, k⟩ := need_Wc k
      obtain ⟨_, hb2, k⟩ := k
      refine ⟨W2, b2, rr, j, by rw [← hK]; exact S2, e2.le.g _ hg, ?_, j1, j2, hb2, fun n W' H' n0 n1 e' S' => ?_⟩
      · rw [(RR.v rb : RR Γ.K W2 H2 _ xb).int]
      · rw [← hK] at S'
        exact k n n0 n1 W' H' _ e' S' (.d (.int n))
  | _ => exact k.elim
theorem tyx_of {K : PySem.W.Frag} {W : Wd} {H : Hp} {b : Nat} {v : V} {d : PyData} {t : Ty} (S : SR K W b H) (r : RR K W H (.d d) v) (h : tyOf d = some t) : TyX K H v (.type (tyName t)) := by
  cases d with
  | none => cases h
  | bool y =>
    cases h
    obtain rfl := r.bl
    exact .base (.bl _)
  | int y =>
    cases h
    obtain rfl := r.int
    exact .base (.int _)
  | str y =>
    cases h
    obtain rfl := r.str
    exact .base (.str _)
  | tuple y =>
    cases h
    obtain ⟨a, vs, rfl, e, _⟩ := r.tup S
    rcases e with (e | ⟨o, e⟩) | ⟨o, its, n, e1, e2, _⟩
    · exact .base (.tup e)
    · exact .fTuple e
    · exact .kTuple e1 e2
  | list y =>
    cases h
    obtain ⟨a, vs, rfl, e, _⟩ := r.list S
    exact .base (.lst e)
  | dict y =>
    cases h
    cases r with
    | v q => cases q with
      | d q => cases q with
        | dct e => exact .base (.dK (S.f _ _ e))
theorem kit_is : ∀ t u : Ty, kitB (tyName t) (tyName u) = some (decide (t = u) || (decide (t = .bool) && decide (u = .int))) := by
  intro t u
  cases t <;> cases u <;> decide +kernel
theorem kit_non : ∀ u : Ty, kitB "NoneType" (tyName u) = some false := by
  intro u
  cases u <;> decide +kernel
theorem tyx_is {K : PySem.W.Frag} {W : Wd} {H : Hp} {b : Nat} {v : V} {d : PyData} (u : Ty) (S : SR K W b H) (r : RR K W H (.d d) v) : ∃ t, TyX K H v t ∧ PySem.W.kitOne K t (.type (tyName u)) = some (isTy d u) := by
  cases h : tyOf d with
  | some t =>
    refine ⟨_, tyx_of S r h, ?_⟩
    rw [isTy, h]
    exact kit_ty (kit_is t u)
  | none =>
    cases d with
    | none =>
      obtain rfl := r.non
      exact ⟨_, .base .non, kit_ty (kit_non u)⟩
    | _ => cases h
theorem boot_ty (u : Ty) : bootBuiltins (Str.ofString (tyName u)) = some (.type (tyName u)) ∧ tyName u ∈ bltNames ∧ Str.ofString (tyName u) ≠ "__name__" := by
  cases u <;> exact ⟨by decide +kernel, by simp [tyName, bltNames], by decide +kernel⟩
theorem s_isi (GO : GOk G c) (o : XOk G c sc X) (hK : Γ.K = X.K) {u : Ty} {a : ME} {y : Expr} {z : Str} {q p2 : Pos} (hx : x = Str.ofString "isinstance") (hg : glb sc x = true) (hs : notStar y = true) (hz : z = Str.ofString (tyName u)) (hgz : glb sc z = true)
    (ha : PE X y (TD Γ (mR Γ.K) (denE G.C a))) : PE X (.Call (.Name x p) [y, .Name z q] [] p2) (TD Γ (mV Γ.K) (denE G.C (.isi [u] a))) := by
  obtain ⟨g1, g2⟩ := glb_of hg
  obtain ⟨g3, g4⟩ := glb_of hgz
  obtain ⟨b1, b2, b3⟩ := boot_ty u
  have hzm : X.mg z = none := by
    rw [o.hmg, hz]
    exact GO.blt _ b2
  have hzE : PE X (.Name z q) (tC (.ty (tyName u))) := pe_bltn (o.gl g3) hzm (by rw [hz]; exact b1) rfl (by rw [hz]; exact b3) g4
  refine (pe_callB call_isi (o.gl g1) (by rw [o.hmg, hx]; exact GO.blt "isinstance" (by simp [bltNames])) (by rw [hx]; decide +kernel) (pa_cons ha (pa_cons hzE pa_nil rfl) (star1 hs [.Name z q] X.env)) (by rw [hx]; decide +kernel) g2 (star1 hs [.Name z q] X.env) rfl).imp fun σ H Q k => ?_
  obtain ⟨W, b0, env, S, X0, r, k⟩ := k
  rw [denE, T.assoc] at k
  refine Wc.step mono_mV S X0 r k fun b1 va W1 H1 xa e1 S1 ra k => ?_
  obtain ⟨da, ea, k⟩ := Wc_plain plain_asD k
  rw [asD_ret ea] at ra
  obtain ⟨t, h1, h2⟩ := tyx_is u S1 ra
  rw [hK] at h1 h2
  refine ⟨xa, .ty (tyName u), t, .type (tyName u), isTy da u, rfl, .ty _, h1, h2, ?_⟩
  simp only [List.any_cons, List.any_nil, Bool.or_false] at k
  exact k W1 H1 _ (Ext.refl _ _) S1 (.d (.bl _))
theorem s_rev (hK : Γ.K = X.K) {a : ME} {y : Expr} {k : Nat} {p1 p2 p3 : Pos} (ha : PE X y (TD Γ (mR Γ.K) (denE G.C a))) :
    PE X (.Subscript y (.Slice none none (some (.UnaryOp .USub (.Constant (.int 1) k p1) p2)) p3) p) (TD Γ (mN Γ.K) (denE G.C (.o1 .rev a))) := by
  refine (EnT.pe_revX ha).imp fun σ H Q q => ?_
  obtain ⟨W, b0, env, S, X0, r, k⟩ := q
  simp only [denE, T.assoc] at k
  refine Wc.step mono_mN S X0 r k fun b1 va W1 H1 xa e1 S1 ra k => ?_
  obtain ⟨da, ea, k⟩ := Wc_plain plain_asD k
  rw [asD_ret ea] at ra
  obtain ⟨z, ez, k⟩ := Wc_plain plain_o1 k
  cases da with
  | list xs =>
    cases ret_inj ez
    obtain ⟨l, vs, rfl, el, zl, ql⟩ := RR.list S1 ra
    refine ⟨l, vs, rfl, .inl ⟨SqL.of el, fun p' n => ?_⟩⟩
    obtain ⟨g1, g2, g3⟩ := new_list (W := W1) (vs := vs.reverse) S1 n (by rw [List.length_reverse]; exact zl) ql.reverse
    exact k W1 _ _ g1 g2 g3
  | tuple xs =>
    cases ret_inj ez
    obtain ⟨l, vs, rfl, el, fl, zl, ql⟩ := RR.tup S1 ra
    refine ⟨l, vs, rfl, .inr ⟨by rw [← hK]; exact el, fun p' o' n ho => ?_⟩⟩
    obtain ⟨W', g1, g2, g3⟩ := new_tup (W := W1) (vs := vs.reverse) ho S1 n (by rw [List.length_reverse]; exact zl) ql.reverse
    exact k W' _ _ g1 g2 g3
  | _ => cases ez
theorem mem_dedup (k : Int) : ∀ ns, k ∈ dedup ns ↔ k ∈ ns
  | [] => Iff.rfl
  | a :: r => by
    unfold dedup
    split
    · rename_i h
      rw [mem_dedup k r, List.mem_cons]
      exact ⟨.inr, fun q => q.elim (fun e => by rw [e]; exact h) id⟩
    · rw [List.mem_cons, List.mem_cons, mem_dedup k r]
theorem nodup_dedup : ∀ ns, (dedup ns).Nodup
  | [] => List.nodup_nil
  | a :: r => by
    unfold dedup
    split
    · exact nodup_dedup r
    · rename_i h
      exact List.nodup_cons.mpr ⟨fun q => h ((mem_dedup a r).mp q), nodup_dedup r⟩
theorem dedup_len : ∀ ns, (dedup ns).length ≤ ns.length
  | [] => Nat.le_refl _
  | a :: r => by
    unfold dedup
    have := dedup_len r
    split <;> simp <;> omega
theorem perm_nodup {l m : List Int} (h1 : l.Nodup) (h2 : m.Nodup) (h : ∀ k, k ∈ l ↔ k ∈ m) : l.Perm m := by
  rw [List.perm_iff_count]
  intro a
  rw [List.Nodup.count h1, List.Nodup.count h2]
  simp only [h a]
theorem s_sortedSet (GO : GOk G c) (o : XOk G c sc X) (hot : c.hot = false) (hK : Γ.K = X.K) {a : ME} {y : Expr} {z : Str} {q p2 p3 : Pos} (hx : isB sc x "sorted" = true) (hz : isB sc z "set" = true) (hs : notStar y = true)
    (ha : PE X y (TD Γ (mR Γ.K) (denE G.C a))) : PE X (.Call (.Name x p) [.Call (.Name z p2) [y] [] q] [] p3) (TD Γ (mN Γ.K) (denE G.C (.o1 .sortedSet a))) := by
  obtain ⟨x1, x2, x3⟩ := isB_of hx
  obtain ⟨z1, z2, z3⟩ := isB_of hz
  refine (pe_sortedSetI (o.calm hot) x1 z1 (o.gl x2) (by rw [o.hmg, x1]; exact GO.blt "sorted" (by simp [bltNames])) (o.gl z2) (by rw [o.hmg, z1]; exact GO.blt "set" (by simp [bltNames])) ha (star1 hs [] X.env)).imp fun σ H Q q => ?_
  obtain ⟨W, b0, env, S, X0, r, k⟩ := q
  simp only [denE, T.assoc] at k
  refine Wc.step mono_mN S X0 r k fun b1 va W1 H1 xa e1 S1 ra k => ?_
  obtain ⟨da, ea, k⟩ := Wc_plain plain_asD k
  rw [asD_ret ea] at ra
  obtain ⟨z, ez, k⟩ := Wc_plain plain_o1 k
  cases da with
  | list xs =>
    obtain ⟨ns, en, ez⟩ := opt_ret ez
    obtain ⟨hn, ez⟩ := need_ret ez
    cases ret_inj ez
    obtain ⟨l, vs, rfl, el, zl, ql⟩ := RR.list S1 ra
    rw [ints_of en] at ql
    rw [ql.ints] at el
    refine ⟨l, ns, rfl, .inl (SqL.of el), hn, fun ns' p' h1 h2 n => ?_⟩
    have hnd : ns'.Nodup := h1.imp (fun h => by omega)
    have e : ns' = sortI (dedup ns) := sorted_uniq ((perm_nodup hnd (nodup_dedup ns) fun k => by rw [h2 k, mem_dedup]).trans (sortI_perm _).symm) (h1.imp fun h => by omega) (sortI_sorted _)
    subst e
    obtain ⟨g1, g2, g3⟩ := new_list (W := W1) (vs := (sortI (dedup ns)).map V.int) S1 n (by
      rw [List.length_map, (sortI_perm _).length_eq, sizeLine_eq]
      have := dedup_len ns
      omega) (DvAll.of_ints _)
    exact k W1 _ _ g1 g2 g3
  | tuple xs =>
    obtain ⟨ns, en, ez⟩ := opt_ret ez
    obtain ⟨hn, ez⟩ := need_ret ez
    cases ret_inj ez
    obtain ⟨l, vs, rfl, el, fl, zl, ql⟩ := RR.tup S1 ra
    rw [ints_of en] at ql
    rw [ql.ints] at el
    refine ⟨l, ns, rfl, .inr (by rw [← hK]; exact el), hn, fun ns' p' h1 h2 n => ?_⟩
    have hnd : ns'.Nodup := h1.imp (fun h => by omega)
    have e : ns' = sortI (dedup ns) := sorted_uniq ((perm_nodup hnd (nodup_dedup ns) fun k => by rw [h2 k, mem_dedup]).trans (sortI_perm _).symm) (h1.imp fun h => by omega) (sortI_sorted _)
    subst e
    obtain ⟨g1, g2, g3⟩ := new_list (W := W1) (vs := (sortI (dedup ns)).map V.int) S1 n (by
      rw [List.length_map, (sortI_perm _).length_eq, sizeLine_eq]
      have := dedup_len ns
      omega) (DvAll.of_ints _)
    exact k W1 _ _ g1 g2 g3
  | _ => cases ez
theorem s_lenSet (GO : GOk G c) (o : XOk G c sc X) (hot : c.hot = false) (hK : Γ.K = X.K) {a : ME} {y : Expr} {z : Str} {q p2 p3 : Pos} (hx : isB sc x "len" = true) (hz : isB sc z "set" = true) (hs : notStar y = true)
    (ha : PE X y (TD Γ (mR Γ.K) (denE G.C a))) : PE X (.Call (.Name x p) [.Call (.Name z p2) [y] [] q] [] p3) (TD Γ (mV Γ.K) (denE G.C (.o1 .lenSet a))) := by
  obtain ⟨x1, x2, x3⟩ := isB_of hx
  obtain ⟨z1, z2, z3⟩ := isB_of hz
  refine (pe_lenSetL (o.calm hot) x1 z1 (o.gl x2) (by rw [o.hmg, x1]; exact GO.blt "len" (by simp [bltNames])) (o.gl z2) (by rw [o.hmg, z1]; exact GO.blt "set" (by simp [bltNames])) ha (star1 hs [] X.env)).imp fun σ H Q q => ?_
  obtain ⟨W, b0, env, S, X0, r, k⟩ := q
  simp only [denE, T.assoc] at k
  refine Wc.step mono_mV S X0 r k fun b1 va W1 H1 xa e1 S1 ra k => ?_
  obtain ⟨da, ea, k⟩ := Wc_plain plain_asD k
  rw [asD_ret ea] at ra
  obtain ⟨z, ez, k⟩ := Wc_plain plain_o1 k
  cases da with
  | list xs =>
    obtain ⟨ns, en, ez⟩ := opt_ret ez
    obtain ⟨hn, ez⟩ := need_ret ez
    cases ret_inj ez
    obtain ⟨l, vs, rfl, el, zl, ql⟩ := RR.list S1 ra
    rw [ints_of en] at ql
    rw [ql.ints] at el
    refine ⟨l, ns, rfl, .inl (SqL.of el), hn, fun ns' h1 h2 => ?_⟩
    rw [(perm_nodup h1 (nodup_dedup ns) fun k => by rw [h2 k, mem_dedup]).length_eq]
    exact k W1 _ _ (Ext.refl _ _) S1 (.d (.int _))
  | tuple xs =>
    obtain ⟨ns, en, ez⟩ := opt_ret ez
    obtain ⟨hn, ez⟩ := need_ret ez
    cases ret_inj ez
    obtain ⟨l, vs, rfl, el, fl, zl, ql⟩ := RR.tup S1 ra
    rw [ints_of en] at ql
    rw [ql.ints] at el
    refine ⟨l, ns, rfl, .inr (by rw [← hK]; exact el), hn, fun ns' h1 h2 => ?_⟩
    rw [(perm_nodup h1 (nodup_dedup ns) fun k => by rw [h2 k, mem_dedup]).length_eq]
    exact k W1 _ _ (Ext.refl _ _) S1 (.d (.int _))
  | _ => cases ez
theorem s_b2 (GO : GOk G c) (o : XOk G c sc X) (hot : c.hot = false) (hK : Γ.K = X.K) {op : O2} {n : String} {a b : ME} {y z : Expr} {p2 : Pos} (h : b2 op = some n) (hx : isB sc x n = true) (hs : notStar y = true) (hs2 : notStar z = true)
    (ha : PE X y (TD Γ (mR Γ.K) (denE G.C a))) (hb : PE X z (TD Γ (mR Γ.K) (denE G.C b))) : PE X (.Call (.Name x p) [y, z] [] p2) (TD Γ (mV Γ.K) (denE G.C (.o2 op a b))) := by
  obtain ⟨x1, x2, x3⟩ := isB_of hx
  have hc : CallR X (.builtin n) (rC2 X.K (outV X.K) (o2 op)) := by
    cases op <;> cases h
    · exact clS_max2 (o.calm hot)
    · exact clS_min2 (o.calm hot)
  have hb' : bootBuiltins (Str.ofString n) = some (.builtin n) ∧ n ∈ bltNames ∧ Str.ofString n ≠ "__name__" := by
    cases op <;> cases h
    all_goals exact ⟨by decide +kernel, by simp [bltNames], by decide +kernel⟩
  refine (pe_callB hc (o.gl x2) (by rw [o.hmg, x1]; exact GO.blt n hb'.2.1) (by rw [x1]; exact hb'.1) (pa_cons ha (pa_cons hb pa_nil (star1 hs2 [] X.env)) (star1 hs [z] X.env)) (by rw [x1]; exact hb'.2.2) x3 (star1 hs [z] X.env) (by rw [star1 hs2 [] X.env]; rfl)).imp fun σ H Q q => ?_
  obtain ⟨W, b0, env, S, X0, r, k⟩ := q
  simp only [denE, T.assoc] at k
  refine Wc.step mono_mV S X0 r k fun b1 va W1 H1 xa e1 S1 ra k => ?_
  obtain ⟨da, ea, k⟩ := Wc_plain plain_asD k
  rw [asD_ret ea] at ra
  refine Wc.step mono_mV S1 (X0.trans e1 S1) (r.ext e1) k fun b2 vb W2 H2 xb e2 S2 rb k => ?_
  obtain ⟨db, eb, k⟩ := Wc_plain plain_asD k
  rw [asD_ret eb] at rb
  obtain ⟨z, ez, k⟩ := Wc_plain plain_o2 k
  rw [← hK]
  exact ⟨xa, xb, rfl, W2, b2, da, db, z, S2, RR.ext e2 ra, rb, ez, fun W3 H3 v e3 S3 o3 => k W3 H3 v e3 S3 o3⟩
end
end Mp
namespace Mp
open PySem PySem.Spec PyProof.Rows L2
open Mp.T (Wc)
section
variable {K : PySem.W.Frag} {H0 : Hp} {W W0 : Wd} {σ : L2.St} {H : Hp} {env env' : Ev} {b : Nat}
theorem Rows.fz {F' : Hp} (h : HLe W.F F') : ∀ {as : List Addr} {xss : List (List PyData)}, (∀ a ∈ as, ∀ o, H a = some o → F' a = some o) → Rows K W H as xss → DvAll K F' (as.map V.ref) (xss.map PyData.list)
  | _, _, _, .nil => .nil
  | _, _, n, .cons e z q r => .cons (.lst (n _ List.mem_cons_self _ e) z (q.le h)) (Rows.fz h (fun a ha => n a (List.mem_cons_of_mem _ ha)) r)
/-- the own lists of the slots p stand still from now on -/
theorem ER.freeze (X0 : Ext W0 H0 W H) (S : SR K W b H) (r : ER K H0 W σ H env) (p : Nat → Prop) (hl : env'.length = env.length) (h1 : ∀ i, p i → env'.at i = (env.at i).fz) (h2 : ∀ i, ¬ p i → env'.at i = env.at i) :
    ∃ F' : Hp, HLe W.F F' ∧ SR K ⟨F', W.g, W.x⟩ b H ∧ Ext W0 H0 ⟨F', W.g, W.x⟩ H ∧ ER K H0 ⟨F', W.g, W.x⟩ σ H env' := by
  classical
  obtain ⟨len, fp, q1, q2, q3, q4⟩ := r
  let F' : Hp := fun a => if ∃ i, p i ∧ a ∈ fp i then H a else W.F a
  have f1 : ∀ a, (∃ i, p i ∧ a ∈ fp i) → F' a = H a := fun a h => if_pos h
  have f2 : ∀ a, ¬ (∃ i, p i ∧ a ∈ fp i) → F' a = W.F a := fun a h => if_neg h
  have le : HLe W.F F' := fun a o e => by
    by_cases h : ∃ i, p i ∧ a ∈ fp i
    · obtain ⟨i, hp, ha⟩ := h
      rw [(q2 i a ha).1] at e
      cases e
    · rw [f2 a h]
      exact e
  have W'le : W.Le ⟨F', W.g, W.x⟩ := ⟨le, fun _ e => e, rfl⟩
  refine ⟨F', le, ⟨fun a o e => ?_, fun g e => ?_⟩, ⟨X0.le.trans W'le, fun a o e n => X0.same a o e n, fun a n n0 => ?_, X0.newg⟩, len.trans hl.symm, fun i => if p i then [] else fp i, fun i => ?_, fun i a ha => ?_, fun i => ?_, fun i j a ha hj => ?_⟩
  · by_cases h : ∃ i, p i ∧ a ∈ fp i
    · have e' : F' a = some o := e
      rw [f1 a h] at e'
      exact e'
    · have e' : F' a = some o := e
      rw [f2 a h] at e'
      exact S.f a o e'
  · obtain ⟨g1, g2, g3, g4⟩ := S.g g e
    have no : ∀ a, W.isG a → F' a = W.F a := fun a ha => f2 a fun ⟨i, hp, hm⟩ => (q2 i a hm).2.2 ha
    exact ⟨g1, (no _ ⟨g, e, .inl rfl⟩).trans g2, (no _ ⟨g, e, .inr rfl⟩).trans g3, le.sqL g4⟩
  · have n' : F' a ≠ none := n
    by_cases h : ∃ i, p i ∧ a ∈ fp i
    · obtain ⟨i, hp, ha⟩ := h
      exact (q2 i a ha).2.1
    · rw [f2 a h] at n'
      exact X0.new a n' n0
  · by_cases hp : p i
    · have live : ∀ a ∈ fp i, ∀ o, H a = some o → F' a = some o := fun a ha o e => by
        rw [f1 a ⟨i, hp, ha⟩]
        exact e
      have s := q1 i
      dsimp only
      rw [if_pos hp, h1 i hp]
      generalize env.at i = si at s
      generalize fp i = fi at s live
      generalize σ[i]? = oi at s
      cases s with
      | un => exact .un
      | v q => exact .v (q.le W'le)
      | own e z q => exact .v (.d (.lst (live _ List.mem_cons_self _ e) z (q.le le)))
      | own2 e z q => exact .v (.d (.lst (live _ List.mem_cons_self _ e) (by rw [List.length_map]; exact z) (q.fz le fun a ha o e => live a (List.mem_cons_of_mem _ ha) o e)))
    · dsimp only
      rw [if_neg hp, h2 i hp]
      have s := q1 i
      generalize env.at i = si at s
      generalize fp i = fi at s
      generalize σ[i]? = oi at s
      have ex : ∀ {as : List Addr} {xss : List (List PyData)}, Rows K W H as xss → Rows K ⟨F', W.g, W.x⟩ H as xss := fun {as xss} q => by
        induction q with
        | nil => exact .nil
        | cons e z q _ ih => exact .cons e z (q.le le) ih
      cases s with
      | un => exact .un
      | v q => exact .v (q.le W'le)
      | own e z q => exact .own e z (q.le le)
      | own2 e z q => exact .own2 e z (ex q)
  · dsimp only at *
    by_cases hp : p i
    · rw [if_pos hp] at ha
      cases ha
    · rw [if_neg hp] at ha
      obtain ⟨m1, m2, m3⟩ := q2 i a ha
      refine ⟨?_, m2, m3⟩
      show F' a = none
      rw [f2 a fun ⟨j, hj, hm⟩ => hp (q4 j i a hm ha ▸ hj)]
      exact m1
  · dsimp only at *
    by_cases hp : p i
    · rw [if_pos hp]
      exact .nil
    · rw [if_neg hp]
      exact q3 i
  · dsimp only at *
    by_cases hp : p i
    · rw [if_pos hp] at ha
      cases ha
    · by_cases hp' : p j
      · rw [if_pos hp'] at hj
        cases hj
      · rw [if_neg hp] at ha
        rw [if_neg hp'] at hj
        exact q4 i j a ha hj
end
theorem Wc_nox {α : Type} {Q : Nat → α → Prop} {E E' : Nat → Ex → Prop} : ∀ (x : T α) (b : Nat), Wc Q E b (nox x) → Wc Q E' b x := by
  intro x
  induction x with
  | ret a => exact fun b h => h
  | exc e => exact fun b h => h.elim
  | stuck => exact fun b h => h.elim
  | draw m k ih => exact fun b ⟨h1, h2, h3⟩ => ⟨h1, h2, fun n a c => ih n _ (h3 n a c)⟩
theorem flat_dv {K : PySem.W.Frag} {F F' : Hp} {v : V} {d : PyData} (h : flat d = true) (r : Dv K F v d) : Dv K F' v d := by
  cases r with
  | non => exact .non
  | bl b => exact .bl b
  | int i => exact .int i
  | str x => exact .str x
  | _ => cases h
section
variable {G : Gf} {c : Ck} {sc : Scope} {X : Cx} {e : Expr} {x : Str} {p : Pos} {i : Nat} {Γ : Ga}
/-- own lists borrowed for an expression, its value flat -/
theorem s_brw {m : ME} {rel : Rel PV V} (hrel : ∀ W H W' H' v u, rel W H W' H' v u → RR Γ.K W' H' v u) (he : PE X e (TD Γ rel (denE G.C m))) : PE X e (TD Γ (mV Γ.K) (denE G.C (.brw m))) := by
  refine he.imp fun σ H Q ⟨W, b, env, S, X0, r, k⟩ => ?_
  rw [denE] at k
  obtain ⟨F', le, S', X', r'⟩ := r.freeze (env' := env.map Slot.fz) X0 S (fun _ => True) (by simp) (fun i _ => at_map _ rfl env i) fun i h => absurd trivial h
  refine ⟨⟨F', W.g, W.x⟩, b, env.map Slot.fz, S', X', r', ?_⟩
  have k := (T.Wc_bind _ _).mp k
  refine T.Wc.mono (fun b1 v hv W1 H1 u e1 S1 q => ?_) (fun _ _ z => z.elim) _ _ (Wc_nox (E' := fun _ _ => False) _ _ k)
  obtain ⟨d, ed, hv⟩ := Wc_plain plain_asD hv
  obtain ⟨hf, hv⟩ := need_Wc hv
  have q := hrel _ _ _ _ _ _ q
  rw [asD_ret ed] at q
  have q' : RV Γ.K W (.d d) u := by
    cases q with
    | v q =>
      cases q with
      | d q => exact .d (flat_dv hf q)
    | own _ _ _ _ => cases hf
  have nG : ∀ a, ¬ W.isG a → ¬ Wd.isG ⟨F', W.g, W.x⟩ a := fun a h => h
  refine hv W H1 u ⟨Wd.Le.refl W, fun a o e n => (e1.keep e (nG a n)).1, fun a h h' => absurd h' h, fun r e e' => by rw [e'] at e; cases e⟩ ⟨(le.trans e1.le.f).trans S1.f, fun g e => ?_⟩ q'
  obtain ⟨z1, z2, z3, z4⟩ := S.g g e
  exact ⟨(S1.g g (e1.le.g g e)).1, z2, z3, z4⟩
end
end Mp
namespace EnT
open PySem PySem.Spec PyProof.Rows L2
abbrev ZipG (h : Heap) (z TI TO : Addr) (f0 : Value) (f1 : Bool) : Prop :=
  h.get? z = some { cls := .type "zip", dict := none, data := .fields #[f0, .bool f1, .bool false, .ref TI, .ref TO], slots := #[] }
def Given (f0 : Value) : Prop := f0 = .none ∨ ∃ U : Addr, f0 = rawInt (U : Int)
def ItK (t : Bool) (h : Heap) (it l : Addr) (i : Nat) : Prop := match t with | true => h.IsTupleIter it l i | false => h.IsListIter it l i
def SqK (t : Bool) (h : Heap) (l : Addr) (xs : Array Value) : Prop := match t with | true => h.IsTuple l xs | false => h.IsList l xs
theorem ItK.ext {t : Bool} {h h' : Heap} {a it l : Addr} {i : Nat} (k : ItK t h it l i) (e : Heap.ExtBut a h h') (hn : it ≠ a) : ItK t h' it l i := by
  cases t
  · exact Heap.IsListIter.extBut k e hn
  · exact Heap.IsTupleIter.extBut k e hn
theorem ItK.at' {t : Bool} {h h' : Heap} {it l : Addr} {i : Nat} (k : ItK t h it l i) (e : ∀ o, h.get? it = some o → h'.get? it = some o) : ItK t h' it l i := by
  cases t
  · exact Heap.IsListIter.at k e
  · exact Heap.IsTupleIter.at k e
theorem SqK.ext {t : Bool} {h h' : Heap} {a l : Addr} {xs : Array Value} (k : SqK t h l xs) (e : Heap.ExtBut a h h') (hn : l ≠ a) : SqK t h' l xs := by
  cases t
  · exact Heap.IsList.extBut k e hn
  · exact Heap.IsTuple.extBut k e hn
theorem ItK.lt {t : Bool} {h : Heap} {it l : Addr} {i : Nat} (k : ItK t h it l i) : it < h.objs.size := by
  cases t
  · obtain ⟨_, e, _⟩ := k
    exact Heap.lt_size e
  · obtain ⟨_, e, _⟩ := k
    exact Heap.lt_size e
section
variable {prog : Program} {w : World} {A : Around} {E : Value → Shared → Prop} {s : Shared}
theorem alive_or {a : Addr} {Q : Option Obj → Shared → Prop} (h : ∀ r, Q r s) : wpAny (model prog w) A (loadIfAlive a) Q E s := fun _ _ _ => h _
/-- is the tuple given out free again? both answers -/
theorem free_or {z TI TO : Addr} {f0 : Value} {f1 : Bool} {Q : Bool → Shared → Prop} (hz : ZipG s.heap z TI TO f0 f1) (g : Given f0) (ht : Q true s)
    (hf : ∀ h', ZipG h' z TI TO f0 true → Heap.SameBut z s.heap h' → Q false { s with heap := h' }) : wpAny (model prog w) A (Builtin.SmallTypes.ownedTupleIsFree (.ref z)) Q E s := by
  unfold Builtin.SmallTypes.ownedTupleIsFree
  refine wpAny_bind (wpAny_field hz rfl (x := f0) rfl ?_)
  rcases g with rfl | ⟨U, rfl⟩
  · exact wpAny_pure ht
  · show wpAny _ _ (loadIfAlive ((U : Int).toNat) >>= _) _ _ _
    refine wpAny_bind (alive_or fun r => ?_)
    cases r with
    | none =>
      simp only [Option.isNone_none, if_true]
      exact wpAny_pure ht
    | some o =>
      simp only [Option.isNone_some, Bool.false_eq_true, if_false]
      refine wpAny_bind (wpAny_field hz rfl (x := .bool f1) rfl ?_)
      cases f1 with
      | true =>
        rw [if_neg (show ¬ ((Value.bool true != Value.bool true) = true) from Bool.false_ne_true)]
        exact wpAny_pure (hf s.heap hz (Heap.SameBut.refl _ _))
      | false =>
        rw [if_pos (show (Value.bool false != Value.bool true) = true from rfl)]
        exact wpAny_bind (wpAny_setField_rec hz (by simp) fun h₁ hz₁ hs₁ => wpAny_pure (hf h₁ hz₁ hs₁))
theorem nextK {t : Bool} {it l : Addr} {i : Nat} {items : Array Value} {x : Value} {Q : Value → Shared → Prop} (hit : ItK t s.heap it l i) (hl : SqK t s.heap l items) (hx : items[i]? = some x)
    (hQ : ∀ h', ItK t h' it l (i + 1) → Heap.SameBut it s.heap h' → Q x { s with heap := h' }) : wpAny (model prog w) A (Builtin.SmallTypes.nextOf (.ref it)) Q E s := by
  cases t
  · exact wpAny_nextOf_list_item hit hl hx hQ
  · exact RZ.nextOf_tuple_item hit hl hx hQ
theorem endK {t : Bool} {it l : Addr} {i : Nat} {items : Array Value} {Q : Value → Shared → Prop} (hh : A.handled = none) (hit : ItK t s.heap it l i) (hl : SqK t s.heap l items) (hx : items[i]? = none)
    (hE : ∀ h' e, Heap.ExtBut it s.heap h' → (∃ o, h'.get? e = some o ∧ o.cls = .type "StopIteration") → E (.ref e) { s with heap := h' }) : wpAny (model prog w) A (Builtin.SmallTypes.nextOf (.ref it)) Q E s := by
  cases t
  · exact wpAny_nextOf_list_end hh hit hl hx hE
  · exact RZ.nextOf_tuple_end hh hit hl hx hE
/-- the step ahead of the store, any target -/
theorem go_zip {tg : Expr} {z TI TO T : Addr} {f0 : Value} {f1 : Bool} {Q : Unit → Shared → Prop} (hz : ZipG s.heap z TI TO f0 f1) (g : Given f0)
    (hQ : ∀ h' f0', ZipG h' z TI TO f0' f1 → Given f0' → Heap.SameBut z s.heap h' → Q () { s with heap := h' }) :
    wpAny (model prog w) A (letOwnedTupleGo tg (.ref z) (.ref T)) Q E s := by
  have key : wpAny (model prog w) A (load z >>= fun o => match o.cls, o.data with
      | .type n, .fields vs => if (["enumerate", "zip", "dict_itemiterator", "dict_reverseitemiterator", "odict_iterator", "itertools.zip_longest", "itertools.pairwise"].contains n && vs[0]? == some (rawInt T)) = true then (do
          rule "for.unpacks-the-owned-tuple"
          updateField z 0 .none) else pure ()
      | _, _ => pure ()) Q E s := by
    refine wpAny_bind (wpAny_load hz ?_)
    show wpAny _ _ (if (["enumerate", "zip", "dict_itemiterator", "dict_reverseitemiterator", "odict_iterator", "itertools.zip_longest", "itertools.pairwise"].contains "zip" &&
      (#[f0, .bool f1, .bool false, .ref TI, .ref TO] : Array Value)[0]? == some (rawInt T)) = true then _ else _) Q E s
    split
    · refine wpAny_bind (wpAny_rule ?_)
      show wpAny _ _ (setField (.ref z) 0 .none) Q E s
      exact wpAny_setField_rec hz (by simp) fun h' hz' hs' => hQ h' .none hz' (.inl rfl) hs'
    · exact wpAny_pure (hQ s.heap f0 hz g (Heap.SameBut.refl _ _))
  unfold letOwnedTupleGo
  cases tg <;> first
    | exact key
    | exact wpAny_pure (hQ s.heap f0 hz g (Heap.SameBut.refl _ _))
end
abbrev KeptBut (h h' : Heap) (z TO i1 i2 : Addr) : Prop := ∀ c o, c ≠ z → c ≠ TO → c ≠ i1 → c ≠ i2 → h.get? c = some o → h'.get? c = some o
section
variable {prog : Program} {w : World} {A : Around} {E : Value → Shared → Prop} {s : Shared}
theorem zipN_item {t1 t2 : Bool} {z TI TO i1 i2 l1 l2 : Addr} {f0 : Value} {f1 : Bool} {k1 k2 : Nat} {xs ys : Array Value} {x y a b : Value} {Q : Value → Shared → Prop} (D : ZipApart z TI TO i1 i2 l1 l2)
    (hz : ZipG s.heap z TI TO f0 f1) (g : Given f0) (hTI : IsPair s.heap TI (.ref i1) (.ref i2)) (hTO : IsPair s.heap TO a b)
    (h1 : ItK t1 s.heap i1 l1 k1) (h2 : ItK t2 s.heap i2 l2 k2) (hl1 : SqK t1 s.heap l1 xs) (hl2 : SqK t2 s.heap l2 ys) (hx : xs[k1]? = some x) (hy : ys[k2]? = some y)
    (hQ : ∀ h' f0' f1', ZipG h' z TI TO f0' f1' → Given f0' → (∃ a b, IsPair h' TO a b) → ItK t1 h' i1 l1 (k1 + 1) → ItK t2 h' i2 l2 (k2 + 1) → IsPair h' s.heap.objs.size x y → h'.objs.size = s.heap.objs.size + 1 →
      KeptBut s.heap h' z TO i1 i2 → Q (.ref s.heap.objs.size) { s with heap := h' }) :
    wpAny (model prog w) A (Builtin.«zip.__next__» ⟨[.ref z], []⟩) (fun fin s' => ∃ v, fin = .done (.ret v) ∧ Q v s') E s := by
  show wpAny _ _ (field (.ref z) 2 >>= _) _ _ _
  refine wpAny_bind (wpAny_field hz rfl (x := .bool false) rfl ?_)
  show wpAny _ _ (field (.ref z) 3 >>= _) _ _ _
  refine wpAny_bind (wpAny_field hz rfl (x := .ref TI) rfl ?_)
  refine wpAny_bind (wpAny_seqItems hTI rfl ?_)
  show wpAny _ _ (Builtin.SmallTypes.ownedTupleIsFree (.ref z) >>= _) _ _ _
  refine wpAny_bind (free_or hz g ?_ fun h₁ hz₁ hs₁ => ?_)
  · simp only [if_true]
    refine wpAny_bind (wpAny_rule ?_)
    refine wpAny_bind (wpAny_field hz rfl (x := .ref TO) rfl ?_)
    refine wpAny_bind (wpAny_setField_rec hz (by simp) fun h₁ hz₁ hs₁ => ?_)
    replace hz₁ : ZipG h₁ z TI TO .ellipsis f1 := hz₁
    refine wpAny_bind ?_
    simp only [List.zipIdx_cons, List.zipIdx_nil, List.forIn_cons, List.forIn_nil]
    refine wpAny_bind (wpAny_bind (wpAny_onRaise ?_))
    show wpAny _ _ (Builtin.SmallTypes.nextOf (.ref i1) >>= _) _ _ _
    refine wpAny_bind (nextK (h1.ext hs₁.extBut D.i1z) (hl1.ext hs₁.extBut D.l1z) hx fun h₂ h1₂ hs₂ => wpAny_pure ?_)
    have hTO₂ : IsPair h₂ TO a b := hs₂.extBut _ _ D.TOi1 (hs₁.extBut _ _ D.TOz hTO)
    refine wpAny_bind (wpAny_seqItems hTO₂ rfl ?_)
    refine wpAny_bind (wpAny_updateSeq_pair hTO₂ fun h₃ hTO₃ hs₃ => ?_)
    replace hTO₃ : IsPair h₃ TO x b := hTO₃
    refine wpAny_bind (wpAny_letGo (wpAny_pure ?_))
    refine wpAny_bind (wpAny_bind (wpAny_onRaise ?_))
    show wpAny _ _ (Builtin.SmallTypes.nextOf (.ref i2) >>= _) _ _ _
    refine wpAny_bind (nextK (((h2.ext hs₁.extBut D.i2z).ext hs₂.extBut D.i12.symm).ext hs₃.extBut D.TOi2.symm)
      (((hl2.ext hs₁.extBut D.l2z).ext hs₂.extBut D.l2i1).ext hs₃.extBut D.l2TO) hy fun h₄ h2₄ hs₄ => wpAny_pure ?_)
    have hTO₄ : IsPair h₄ TO x b := hs₄.extBut _ _ D.TOi2 hTO₃
    refine wpAny_bind (wpAny_seqItems hTO₄ rfl ?_)
    refine wpAny_bind (wpAny_updateSeq_pair hTO₄ fun h₅ hTO₅ hs₅ => ?_)
    replace hTO₅ : IsPair h₅ TO x y := hTO₅
    refine wpAny_bind (wpAny_letGo (wpAny_pure (wpAny_pure ?_)))
    refine wpAny_bind (wpAny_seqItems hTO₅ rfl ?_)
    refine wpAny_bind (wpAny_newTuple ?_)
    have hsz : h₅.objs.size = s.heap.objs.size := by rw [hs₅.1, hs₄.1, hs₃.1, hs₂.1, hs₁.1]
    have hz₅ : ZipG h₅ z TI TO .ellipsis f1 := hs₅.extBut _ _ D.TOz.symm (hs₄.extBut _ _ D.i2z.symm (hs₃.extBut _ _ D.TOz.symm (hs₂.extBut _ _ D.i1z.symm hz₁)))
    have hk₅ : ∀ c o, c ≠ z → c ≠ TO → c ≠ i1 → c ≠ i2 → s.heap.get? c = some o → h₅.get? c = some o := fun c o c1 c2 c3 c4 e =>
      hs₅.extBut _ _ c2 (hs₄.extBut _ _ c4 (hs₃.extBut _ _ c2 (hs₂.extBut _ _ c3 (hs₁.extBut _ _ c1 e))))
    have h1₅ : ItK t1 h₅ i1 l1 (k1 + 1) := ((h1₂.ext hs₃.extBut D.TOi1.symm).ext hs₄.extBut D.i12).ext hs₅.extBut D.TOi1.symm
    have h2₅ : ItK t2 h₅ i2 l2 (k2 + 1) := h2₄.ext hs₅.extBut D.TOi2.symm
    have hzlt : z < h₅.objs.size := Heap.lt_size hz₅
    show wpAny _ _ (Builtin.SmallTypes.ownedTupleHandOut (.ref z) (.ref h₅.objs.size) >>= _) _ _ _
    refine wpAny_bind ?_
    unfold Builtin.SmallTypes.ownedTupleHandOut
    have hz₆ : ZipG (h₅.push { cls := .type "tuple", data := .seq #[x, y] }) z TI TO .ellipsis f1 := Heap.get?_push_of_some _ hz₅
    refine wpAny_bind (wpAny_setField_rec hz₆ (by simp) fun h₇ hz₇ hs₇ => ?_)
    replace hz₇ : ZipG h₇ z TI TO (rawInt h₅.objs.size) f1 := hz₇
    refine wpAny_setField_rec hz₇ (by simp) fun h₈ hz₈ hs₈ => ?_
    replace hz₈ : ZipG h₈ z TI TO (rawInt h₅.objs.size) false := hz₈
    have up : ∀ c o, c ≠ z → h₅.get? c = some o → h₈.get? c = some o := fun c o c1 e => hs₈.extBut _ _ c1 (hs₇.extBut _ _ c1 (Heap.get?_push_of_some _ e))
    have hT₈ : IsPair h₈ h₅.objs.size x y := hs₈.extBut _ _ (Nat.ne_of_gt hzlt) (hs₇.extBut _ _ (Nat.ne_of_gt hzlt) (Heap.get?_push_size _ rfl))
    have hz8 : h₈.objs.size = h₅.objs.size + 1 := by rw [hs₈.1, hs₇.1, Heap.size_push]
    rw [hsz] at hz₈ hT₈ hz8
    refine wpAny_pure ⟨_, rfl, ?_⟩
    show Q (.ref h₅.objs.size) _
    rw [hsz]
    exact hQ h₈ _ _ hz₈ (.inr ⟨_, rfl⟩) ⟨_, _, up _ _ D.TOz hTO₅⟩ (h1₅.at' fun o e => up _ o D.i1z e) (h2₅.at' fun o e => up _ o D.i2z e) hT₈ hz8 fun c o c1 c2 c3 c4 e => up c o c1 (hk₅ c o c1 c2 c3 c4 e)
  · simp only [Bool.false_eq_true, if_false]
    refine wpAny_bind ?_
    rw [← Array.forIn_toList]
    simp only [List.forIn_cons, List.forIn_nil]
    refine wpAny_bind (wpAny_bind (wpAny_holding ?_))
    show wpAny _ _ (Builtin.SmallTypes.nextOf (.ref i1) >>= _) _ _ _
    refine wpAny_bind (nextK (s := { s with heap := h₁ }) (h1.ext hs₁.extBut D.i1z) (hl1.ext hs₁.extBut D.l1z) hx fun h₂ h1₂ hs₂ => wpAny_pure ?_)
    refine wpAny_pure ?_
    refine wpAny_bind (wpAny_bind (wpAny_holding ?_))
    show wpAny _ _ (Builtin.SmallTypes.nextOf (.ref i2) >>= _) _ _ _
    refine wpAny_bind (nextK (s := { s with heap := h₂ }) ((h2.ext hs₁.extBut D.i2z).ext hs₂.extBut D.i12.symm) ((hl2.ext hs₁.extBut D.l2z).ext hs₂.extBut D.l2i1) hy fun h₃ h2₃ hs₃ => wpAny_pure ?_)
    refine wpAny_pure (wpAny_pure ?_)
    show wpAny _ _ (newTuple [x, y] >>= _) _ _ _
    refine wpAny_bind (wpAny_newTuple ?_)
    have hsz : h₃.objs.size = s.heap.objs.size := by rw [hs₃.1, hs₂.1, hs₁.1]
    have hz₃ : ZipG h₃ z TI TO f0 true := hs₃.extBut _ _ D.i2z.symm (hs₂.extBut _ _ D.i1z.symm hz₁)
    have hk : ∀ c o, c ≠ z → c ≠ i1 → c ≠ i2 → s.heap.get? c = some o → h₃.get? c = some o := fun c o c1 c2 c3 e => hs₃.extBut _ _ c3 (hs₂.extBut _ _ c2 (hs₁.extBut _ _ c1 e))
    have h1₃ : ItK t1 h₃ i1 l1 (k1 + 1) := h1₂.ext hs₃.extBut D.i12
    refine wpAny_pure ⟨_, rfl, ?_⟩
    show Q (.ref h₃.objs.size) _
    have hp : IsPair (h₃.push { cls := .type "tuple", data := .seq #[x, y] }) h₃.objs.size x y := Heap.get?_push_size _ rfl
    have hz4 : (h₃.push { cls := .type "tuple", data := .seq #[x, y] }).objs.size = h₃.objs.size + 1 := Heap.size_push ..
    rw [hsz] at hp hz4 ⊢
    exact hQ _ _ _ (Heap.get?_push_of_some _ hz₃) g ⟨_, _, Heap.get?_push_of_some _ (hk _ _ D.TOz D.TOi1 D.TOi2 hTO)⟩ (h1₃.at' fun o e => Heap.get?_push_of_some _ e) (h2₃.at' fun o e => Heap.get?_push_of_some _ e) hp hz4 fun c o c1 _ c2 c3 e => Heap.get?_push_of_some _ (hk c o c1 c2 c3 e)
theorem zipN_end {t1 t2 : Bool} {z TI TO i1 i2 l1 l2 : Addr} {f0 : Value} {f1 : Bool} {k1 k2 : Nat} {xs ys : Array Value} {a b : Value} {Q : Fin → Shared → Prop} (hh : A.handled = none) (D : ZipApart z TI TO i1 i2 l1 l2)
    (hz : ZipG s.heap z TI TO f0 f1) (g : Given f0) (hTI : IsPair s.heap TI (.ref i1) (.ref i2)) (hTO : IsPair s.heap TO a b)
    (h1 : ItK t1 s.heap i1 l1 k1) (h2 : ItK t2 s.heap i2 l2 k2) (hl1 : SqK t1 s.heap l1 xs) (hl2 : SqK t2 s.heap l2 ys) (hend : xs[k1]? = none ∨ ys[k2]? = none)
    (hE : ∀ h' e, KeptBut s.heap h' z TO i1 i2 → (∃ o, h'.get? e = some o ∧ o.cls = .type "StopIteration") → E (.ref e) { s with heap := h' }) :
    wpAny (model prog w) A (Builtin.«zip.__next__» ⟨[.ref z], []⟩) Q E s := by
  show wpAny _ _ (field (.ref z) 2 >>= _) _ _ _
  refine wpAny_bind (wpAny_field hz rfl (x := .bool false) rfl ?_)
  show wpAny _ _ (field (.ref z) 3 >>= _) _ _ _
  refine wpAny_bind (wpAny_field hz rfl (x := .ref TI) rfl ?_)
  refine wpAny_bind (wpAny_seqItems hTI rfl ?_)
  show wpAny _ _ (Builtin.SmallTypes.ownedTupleIsFree (.ref z) >>= _) _ _ _
  refine wpAny_bind (free_or hz g ?_ fun h₁ hz₁ hs₁ => ?_)
  · simp only [if_true]
    refine wpAny_bind (wpAny_rule ?_)
    refine wpAny_bind (wpAny_field hz rfl (x := .ref TO) rfl ?_)
    refine wpAny_bind (wpAny_setField_rec hz (by simp) fun h₁ hz₁ hs₁ => ?_)
    replace hz₁ : ZipG h₁ z TI TO .ellipsis f1 := hz₁
    refine wpAny_bind ?_
    simp only [List.zipIdx_cons, List.zipIdx_nil, List.forIn_cons, List.forIn_nil]
    refine wpAny_bind (wpAny_bind (wpAny_onRaise ?_))
    show wpAny _ _ (Builtin.SmallTypes.nextOf (.ref i1) >>= _) _ _ _
    cases hx : xs[k1]? with
    | none =>
      refine wpAny_bind (endK hh (h1.ext hs₁.extBut D.i1z) (hl1.ext hs₁.extBut D.l1z) hx fun h₂ e hs₂ he => ?_)
      obtain ⟨oe, hoe, hce⟩ := he
      have hz₂ : ZipG h₂ z TI TO .ellipsis f1 := hs₂ _ _ D.i1z.symm hz₁
      have hez : e ≠ z := fun x => by subst x; rw [hz₂] at hoe; cases hoe; simp at hce
      refine wpAny_setField_rec hz₂ (by simp) fun h₃ _ hs₃ => hE h₃ e (fun c o c1 _ c3 _ x => hs₃.extBut _ _ c1 (hs₂ _ _ c3 (hs₁.extBut _ _ c1 x))) ⟨oe, hs₃.extBut _ _ hez hoe, hce⟩
    | some x =>
      have hy : ys[k2]? = none := by rcases hend with h | h; rw [hx] at h; cases h; exact h
      refine wpAny_bind (nextK (h1.ext hs₁.extBut D.i1z) (hl1.ext hs₁.extBut D.l1z) hx fun h₂ h1₂ hs₂ => wpAny_pure ?_)
      have hTO₂ : IsPair h₂ TO a b := hs₂.extBut _ _ D.TOi1 (hs₁.extBut _ _ D.TOz hTO)
      refine wpAny_bind (wpAny_seqItems hTO₂ rfl ?_)
      refine wpAny_bind (wpAny_updateSeq_pair hTO₂ fun h₃ hTO₃ hs₃ => ?_)
      refine wpAny_bind (wpAny_letGo (wpAny_pure ?_))
      refine wpAny_bind (wpAny_bind (wpAny_onRaise ?_))
      show wpAny _ _ (Builtin.SmallTypes.nextOf (.ref i2) >>= _) _ _ _
      refine wpAny_bind (endK hh (((h2.ext hs₁.extBut D.i2z).ext hs₂.extBut D.i12.symm).ext hs₃.extBut D.TOi2.symm)
        (((hl2.ext hs₁.extBut D.l2z).ext hs₂.extBut D.l2i1).ext hs₃.extBut D.l2TO) hy fun h₄ e hs₄ he => ?_)
      obtain ⟨oe, hoe, hce⟩ := he
      have hz₄ : ZipG h₄ z TI TO .ellipsis f1 := hs₄ _ _ D.i2z.symm (hs₃.extBut _ _ D.TOz.symm (hs₂.extBut _ _ D.i1z.symm hz₁))
      have hez : e ≠ z := fun x => by subst x; rw [hz₄] at hoe; cases hoe; simp at hce
      refine wpAny_setField_rec hz₄ (by simp) fun h₅ _ hs₅ => hE h₅ e (fun c o c1 c2 c3 c4 x => hs₅.extBut _ _ c1 (hs₄ _ _ c4 (hs₃.extBut _ _ c2 (hs₂.extBut _ _ c3 (hs₁.extBut _ _ c1 x))))) ⟨oe, hs₅.extBut _ _ hez hoe, hce⟩
  · simp only [Bool.false_eq_true, if_false]
    refine wpAny_bind ?_
    rw [← Array.forIn_toList]
    simp only [List.forIn_cons, List.forIn_nil]
    refine wpAny_bind (wpAny_bind (wpAny_holding ?_))
    show wpAny _ _ (Builtin.SmallTypes.nextOf (.ref i1) >>= _) _ _ _
    cases hx : xs[k1]? with
    | none =>
      refine wpAny_bind (endK (s := { s with heap := h₁ }) hh (h1.ext hs₁.extBut D.i1z) (hl1.ext hs₁.extBut D.l1z) hx fun h₂ e hs₂ he => ?_)
      exact hE h₂ e (fun c o c1 _ c2 _ x => hs₂ _ _ c2 (hs₁.extBut _ _ c1 x)) he
    | some x =>
      have hy : ys[k2]? = none := by rcases hend with h | h; rw [hx] at h; cases h; exact h
      refine wpAny_bind (nextK (s := { s with heap := h₁ }) (h1.ext hs₁.extBut D.i1z) (hl1.ext hs₁.extBut D.l1z) hx fun h₂ h1₂ hs₂ => wpAny_pure ?_)
      refine wpAny_pure ?_
      refine wpAny_bind (wpAny_bind (wpAny_holding ?_))
      show wpAny _ _ (Builtin.SmallTypes.nextOf (.ref i2) >>= _) _ _ _
      refine wpAny_bind (endK (s := { s with heap := h₂ }) hh ((h2.ext hs₁.extBut D.i2z).ext hs₂.extBut D.i12.symm) ((hl2.ext hs₁.extBut D.l2z).ext hs₂.extBut D.l2i1) hy fun h₃ e hs₃ he => ?_)
      exact hE h₃ e (fun c o c1 _ c2 c3 x => hs₃ _ _ c3 (hs₂.extBut _ _ c2 (hs₁.extBut _ _ c1 x))) he
theorem next_zipN {t1 t2 : Bool} {z TI TO i1 i2 l1 l2 : Addr} {f0 : Value} {f1 : Bool} {k1 k2 : Nat} {xs ys : Array Value} {x y a b : Value} {Q : Option Value → Shared → Prop} (D : ZipApart z TI TO i1 i2 l1 l2)
    (hz : ZipG s.heap z TI TO f0 f1) (g : Given f0) (hTI : IsPair s.heap TI (.ref i1) (.ref i2)) (hTO : IsPair s.heap TO a b)
    (h1 : ItK t1 s.heap i1 l1 k1) (h2 : ItK t2 s.heap i2 l2 k2) (hl1 : SqK t1 s.heap l1 xs) (hl2 : SqK t2 s.heap l2 ys) (hx : xs[k1]? = some x) (hy : ys[k2]? = some y)
    (hQ : ∀ h' f0' f1', ZipG h' z TI TO f0' f1' → Given f0' → (∃ a b, IsPair h' TO a b) → ItK t1 h' i1 l1 (k1 + 1) → ItK t2 h' i2 l2 (k2 + 1) → IsPair h' s.heap.objs.size x y → h'.objs.size = s.heap.objs.size + 1 →
      KeptBut s.heap h' z TO i1 i2 → Q (some (.ref s.heap.objs.size)) { s with heap := h' }) :
    wpAny (model prog w) A (pyNext (.ref z)) Q E s := by
  have hTy : s.TypeIs (.ref z) "zip" := ⟨_, hz, rfl⟩
  unfold pyNext
  exact wpAny_bind (wpAny_attempt (wpAny_callSpecial?_slot (name := Str.ofString "__next__") hTy F.slot_zip_next
    (wpAny_call_entry F.slot_zip_next hTy F.entry_zip_next
      (zipN_item D hz g hTI hTO h1 h2 hl1 hl2 hx hy fun h' f0' f1' a1 a2 a3 a4 a5 a6 a7 a8 => wpAny_pure (hQ h' f0' f1' a1 a2 a3 a4 a5 a6 a7 a8)) (F.args_zip_next_1 _))))
theorem next_zipN_end {t1 t2 : Bool} {z TI TO i1 i2 l1 l2 : Addr} {f0 : Value} {f1 : Bool} {k1 k2 : Nat} {xs ys : Array Value} {a b : Value} {Q : Option Value → Shared → Prop} (hh : A.handled = none) (D : ZipApart z TI TO i1 i2 l1 l2)
    (hz : ZipG s.heap z TI TO f0 f1) (g : Given f0) (hTI : IsPair s.heap TI (.ref i1) (.ref i2)) (hTO : IsPair s.heap TO a b)
    (h1 : ItK t1 s.heap i1 l1 k1) (h2 : ItK t2 s.heap i2 l2 k2) (hl1 : SqK t1 s.heap l1 xs) (hl2 : SqK t2 s.heap l2 ys) (hend : xs[k1]? = none ∨ ys[k2]? = none)
    (hQ : ∀ h', KeptBut s.heap h' z TO i1 i2 → Q none { s with heap := h' }) : wpAny (model prog w) A (pyNext (.ref z)) Q E s := by
  have hTy : s.TypeIs (.ref z) "zip" := ⟨_, hz, rfl⟩
  unfold pyNext
  refine wpAny_bind (wpAny_attempt (wpAny_callSpecial?_slot (name := Str.ofString "__next__") hTy F.slot_zip_next
    (wpAny_call_entry F.slot_zip_next hTy F.entry_zip_next (zipN_end hh D hz g hTI hTO h1 h2 hl1 hl2 hend fun h' e hk he => ?_) (F.args_zip_next_1 _))))
  obtain ⟨o, ho, hc⟩ := he
  refine wpAny_bind (wpAny_isInstance (T := "StopIteration") (b := true) ⟨o, ho, hc⟩ isSubtype_stop ?_)
  exact wpAny_pure (hQ _ hk)
theorem iter_zipG {z TI TO : Addr} {f0 : Value} {f1 : Bool} {Q : Value → Shared → Prop} (hz : ZipG s.heap z TI TO f0 f1) (h : Q (.ref z) s) : wpAny (model prog w) A (pyIter (.ref z)) Q E s := by
  have hT : s.TypeIs (.ref z) "zip" := ⟨_, hz, rfl⟩
  refine wpAny_pyIter_slot hT F.slot_zip_iter (wpAny_call_entry F.slot_zip_iter hT F.entry_zip_iter ?_ (F.args_zip_iter_1 _))
  show wpAny _ _ (ret (.ref z)) _ _ s
  exact wpAny_pure ⟨_, rfl, "zip", _, hT, F.slot_zip_next.lookup, h⟩
end
/-- what is at an address of the frozen heap: a list or a tuple -/
def SK (t : Bool) (K : PySem.W.Frag) (H : Hp) (a : Addr) (xs : List V) : Prop := match t with | true => SqT K H a xs | false => SqL K H a xs
theorem inv_sk {t : Bool} {X : Cx} {pins : List (Addr × Obj)} {σ : L2.St} {H : Hp} {s : Shared} {a : Addr} {xs : List V} (I : Inv X pins σ H s) (h : SK t X.K H a xs) : ∃ its : List Value, Vals xs its ∧ SqK t s.heap a its.toArray ∧ a < s.heap.objs.size := by
  cases t
  · obtain ⟨its, rv, p, _⟩ := I.list h
    exact ⟨its, rv, p.isList, p.lt⟩
  · obtain ⟨its, rv, p, _⟩ := I.tuple h
    refine ⟨its, rv, p, ?_⟩
    obtain ⟨o1, ho1, _⟩ := id p
    exact Heap.lt_size ho1
theorem inv_sk_inj {t : Bool} {X : Cx} {pins : List (Addr × Obj)} {σ : L2.St} {H : Hp} {s : Shared} {a : Addr} {xs ys : List V} (I : Inv X pins σ H s) (h : SK t X.K H a xs) (h' : SK t X.K H a ys) : xs = ys := by
  cases t
  · exact I.list_inj h h'
  · exact I.tuple_inj h h'
/-- the items of a and b in new pairs -/
def ItzK (t1 t2 : Bool) (K : PySem.W.Frag) (a b : Addr) : It :=
  ⟨fun i H => ∃ (xs ys : List V) (x y : V), SK t1 K H a xs ∧ SK t2 K H b ys ∧ xs[i]? = some x ∧ ys[i]? = some y,
    fun i H v H' => ∃ T x y o, v = .ref T ∧ H T = none ∧ o.dict = none ∧ H' = upd H T (.frz o (.tup [x, y])) ∧ (∀ xs, SK t1 K H a xs → xs[i]? = some x) ∧ ∀ ys, SK t2 K H b ys → ys[i]? = some y,
    fun i H => ∃ xs ys : List V, SK t1 K H a xs ∧ SK t2 K H b ys ∧ (xs.length ≤ i ∨ ys.length ≤ i)⟩
theorem turn_zipK {t1 t2 : Bool} {P : Program} {w : World} {K : PySem.W.Frag} {tg : Expr} {a b z TI TO i1 i2 : Addr} (D : ZipApart z TI TO i1 i2 a b) :
    Turn P w K tg (ItzK t1 t2 K a b) [z, TI, TO, i1, i2] z (fun i h => (∃ f0 f1, ZipG h z TI TO f0 f1 ∧ Given f0) ∧ IsPair h TI (.ref i1) (.ref i2) ∧ (∃ x y, IsPair h TO x y) ∧ ItK t1 h i1 a i ∧ ItK t2 h i2 b i) where
  mem := by simp
  obj := fun i h st c hc => by
    obtain ⟨⟨f0, f1, hz, g⟩, hTI, ⟨x, y, hTO⟩, h1, h2⟩ := st
    have hit : ∀ {t : Bool} {it l : Addr}, ItK t h it l i → ∃ o, h.get? it = some o ∧ ∀ v, o.data ≠ .cell v := fun {t it l} k => by
      cases t
      · obtain ⟨o1, e1, _, d1⟩ := k
        exact ⟨o1, e1, fun v q => by rw [d1] at q; cases q⟩
      · obtain ⟨o1, e1, _, d1⟩ := k
        exact ⟨o1, e1, fun v q => by rw [d1] at q; cases q⟩
    have e' : c = z ∨ c = TI ∨ c = TO ∨ c = i1 ∨ c = i2 := by simpa using hc
    rcases e' with q | q | q | q | q
    · rw [q]; exact ⟨_, hz, fun v q => nomatch q⟩
    · rw [q]; exact ⟨_, hTI, fun v q => nomatch q⟩
    · rw [q]; exact ⟨_, hTO, fun v q => nomatch q⟩
    · rw [q]; exact hit h1
    · rw [q]; exact hit h2
  keep := fun i h h' st k => by
    obtain ⟨⟨f0, f1, hz, g⟩, hTI, ⟨x, y, hTO⟩, h1, h2⟩ := st
    exact ⟨⟨f0, f1, k z (by simp) _ hz, g⟩, k TI (by simp) _ hTI, ⟨x, y, k TO (by simp) _ hTO⟩, h1.at' fun o q => k i1 (by simp) o q, h2.at' fun o q => k i2 (by simp) o q⟩
  item := by
    intro X hP hw hK hc i pins s σ H E I hf st hg
    subst hP hw hK
    obtain ⟨⟨f0, f1, hz, g⟩, hTI, ⟨x0, y0, hTO⟩, h1, h2⟩ := st
    obtain ⟨xs, ys, x, y, hqx, hqy, hx, hy⟩ := hg
    obtain ⟨its, rv, p, _⟩ := inv_sk I hqx
    obtain ⟨its2, rv2, p2, _⟩ := inv_sk I hqy
    obtain ⟨u, hu, ru⟩ := rv.get hx
    obtain ⟨u2, hu2, ru2⟩ := rv2.get hy
    have hzl : z < s.heap.objs.size := Heap.lt_size hz
    refine next_zipN D hz g hTI hTO h1 h2 p p2 (x := u) (y := u2) (by simpa using hu) (by simpa using hu2) fun h' f0' f1' z' g' TO' h1' h2' hT hsz hk => ?_
    refine ⟨_, rfl, go_zip (s := { s with heap := h' }) z' g' fun h'' f0'' z'' g'' sb => ?_⟩
    have hT2 : h''.get? s.heap.objs.size = some { cls := .type "tuple", data := .seq #[u, u2] } := (sb.2 _ (Nat.ne_of_gt hzl)).trans hT
    have new : ObjOk X.prog X.w (upd H s.heap.objs.size (.frz (PobF #[u, u2]) (.tup [x, y]))) h'' s.heap.objs.size (.frz (PobF #[u, u2]) (.tup [x, y])) :=
      ⟨hT2, by show 2 ≤ sizeLine; decide, [u, u2], .cons ru (.cons ru2 .nil), ⟨_, hT2, rfl, _, rfl⟩⟩
    have I1 : Inv X pins σ (upd H s.heap.objs.size (.frz (PobF #[u, u2]) (.tup [x, y]))) { s with heap := h'' } :=
      I.turnedNew (t' := s.toks) (ch := [z, TI, TO, i1, i2]) (fun c o hb q => (sb.2 c (fun q' => hb (by simp [q']))).trans (hk c o (fun q' => hb (by simp [q'])) (fun q' => hb (by simp [q'])) (fun q' => hb (by simp [q'])) (fun q' => hb (by simp [q'])) q)) hf (Nat.le_refl _) new
    refine ⟨.ref s.heap.objs.size, _, I1, rfl, ⟨_, x, y, _, rfl, I.hok.fresh (Nat.le_refl _), rfl, rfl, fun l hl => by rw [inv_sk_inj I hl hqx]; exact hx, fun l hl => by rw [inv_sk_inj I hl hqy]; exact hy⟩, ⟨⟨f0'', f1', z'', g''⟩, ?_, ?_, ?_, ?_⟩, fun c hcm => ?_⟩
    · exact (sb.2 _ D.TIz).trans (hk _ _ D.TIz D.TITO D.TIi1 D.TIi2 hTI)
    · obtain ⟨a', b', hab⟩ := TO'
      exact ⟨a', b', (sb.2 _ D.TOz).trans hab⟩
    · exact h1'.at' fun o q => (sb.2 _ D.i1z).trans q
    · exact h2'.at' fun o q => (sb.2 _ D.i2z).trans q
    · have hlt : c < s.heap.objs.size := by
        have e' : c = z ∨ c = TI ∨ c = TO ∨ c = i1 ∨ c = i2 := by simpa using hcm
        rcases e' with q | q | q | q | q
        · rw [q]; exact hzl
        · rw [q]; exact Heap.lt_size hTI
        · rw [q]; exact Heap.lt_size hTO
        · rw [q]; exact h1.lt
        · rw [q]; exact h2.lt
      rw [upd_ne (Nat.ne_of_lt hlt)]
      exact (hf c hcm).1
  done := by
    intro X hP hw hK hc i pins s σ H E I hf st hg
    subst hP hw hK
    obtain ⟨⟨f0, f1, hz, g⟩, hTI, ⟨x0, y0, hTO⟩, h1, h2⟩ := st
    obtain ⟨xs, ys, hqx, hqy, hend⟩ := hg
    obtain ⟨its, rv, p, _⟩ := inv_sk I hqx
    obtain ⟨its2, rv2, p2, _⟩ := inv_sk I hqy
    have l1 := rv.length
    have l2 := rv2.length
    have he : its.toArray[i]? = none ∨ its2.toArray[i]? = none := by
      rcases hend with q | q
      · exact .inl (by simp; omega)
      · exact .inr (by simp; omega)
    exact next_zipN_end (I.ok.hd hc) D hz g hTI hTO h1 h2 p p2 he fun h' hk => ⟨rfl, I.turnedL (t' := s.toks) (ch := [z, TI, TO, i1, i2]) (fun c o hb q =>
      hk c o (fun q' => hb (by simp [q'])) (fun q' => hb (by simp [q'])) (fun q' => hb (by simp [q'])) (fun q' => hb (by simp [q'])) q) hf⟩
  self := fun A i s Q E st h => by
    obtain ⟨⟨f0, f1, hz, g⟩, _⟩ := st
    exact iter_zipG hz h
abbrev itO (t : Bool) (l : Addr) : Obj := match t with
  | true => { cls := .type "tuple_iterator", data := .fields #[.ref l, .int 0 0] }
  | false => { cls := .type "list_iterator", data := .fields #[.ref l, .int 0 0] }
abbrev zH1 (t1 : Bool) (h : Heap) (l1 : Addr) : Heap := h.push (itO t1 l1)
abbrev zH2 (t1 t2 : Bool) (h : Heap) (l1 l2 : Addr) : Heap := (zH1 t1 h l1).push (itO t2 l2)
abbrev zH3 (t1 t2 : Bool) (h : Heap) (l1 l2 : Addr) : Heap := (zH2 t1 t2 h l1 l2).push { cls := .type "tuple", data := .seq #[.ref h.objs.size, .ref (zH1 t1 h l1).objs.size] }
abbrev zH4 (t1 t2 : Bool) (h : Heap) (l1 l2 : Addr) : Heap := (zH3 t1 t2 h l1 l2).push { cls := .type "tuple", data := .seq #[.none, .none] }
abbrev zH5 (t1 t2 : Bool) (h : Heap) (l1 l2 : Addr) : Heap := (zH4 t1 t2 h l1 l2).push { cls := .type "zip", data := .fields #[.none, .bool false, .bool false, .ref (zH2 t1 t2 h l1 l2).objs.size, .ref (zH3 t1 t2 h l1 l2).objs.size] }
theorem meets_zipTL (l1 l2 : Addr) (xs ys : Array Value) :
    Meets (Builtin.«zip.__new__» ⟨[.type "zip", .ref l1, .ref l2], []⟩) (fun _ R s => s.heap.IsTuple l1 xs ∧ s.heap.IsList l2 ys ∧
      R (.ok (.ret (.ref (zH4 true false s.heap l1 l2).objs.size))) { s with heap := zH5 true false s.heap l1 l2 }) :=
  .of_wp fun prog w A R s h => by
    obtain ⟨hp, g, d, tk, os⟩ := s; obtain ⟨hl1, hl2, h⟩ := h
    have hsub := sub_zip
    have hL1 : Heap.IsTuple (Shared.heap ⟨hp, g, d, tk, os⟩) l1 xs := hl1
    have hL2 : Heap.IsList (Shared.heap ⟨hp.push { cls := .type "tuple_iterator", data := .fields #[.ref l1, .int 0 0] }, g, d, tk, os⟩) l2 ys := Heap.IsList.push hl2 _
    wp_walk using wpAny_pyIter_tuple hL1, wpAny_pyIter_list hL2
    exact ⟨_, rfl, h⟩
theorem meets_zipLT (l1 l2 : Addr) (xs ys : Array Value) :
    Meets (Builtin.«zip.__new__» ⟨[.type "zip", .ref l1, .ref l2], []⟩) (fun _ R s => s.heap.IsList l1 xs ∧ s.heap.IsTuple l2 ys ∧
      R (.ok (.ret (.ref (zH4 false true s.heap l1 l2).objs.size))) { s with heap := zH5 false true s.heap l1 l2 }) :=
  .of_wp fun prog w A R s h => by
    obtain ⟨hp, g, d, tk, os⟩ := s; obtain ⟨hl1, hl2, h⟩ := h
    have hsub := sub_zip
    have hL1 : Heap.IsList (Shared.heap ⟨hp, g, d, tk, os⟩) l1 xs := hl1
    have hL2 : Heap.IsTuple (Shared.heap ⟨hp.push { cls := .type "list_iterator", data := .fields #[.ref l1, .int 0 0] }, g, d, tk, os⟩) l2 ys := Heap.IsTuple.push hl2 _
    wp_walk using wpAny_pyIter_list hL1, wpAny_pyIter_tuple hL2
    exact ⟨_, rfl, h⟩
theorem zH_facts (t1 t2 : Bool) (h : Heap) (l1 l2 : Addr) : ZipG (zH5 t1 t2 h l1 l2) (h.objs.size + 4) (h.objs.size + 2) (h.objs.size + 3) .none false ∧ IsPair (zH5 t1 t2 h l1 l2) (h.objs.size + 2) (.ref h.objs.size) (.ref (h.objs.size + 1)) ∧
    IsPair (zH5 t1 t2 h l1 l2) (h.objs.size + 3) .none .none ∧ ItK t1 (zH5 t1 t2 h l1 l2) h.objs.size l1 0 ∧ ItK t2 (zH5 t1 t2 h l1 l2) (h.objs.size + 1) l2 0 ∧ (∀ c o, h.get? c = some o → (zH5 t1 t2 h l1 l2).get? c = some o) ∧ (zH4 t1 t2 h l1 l2).objs.size = h.objs.size + 4 := by
  have z1 : (zH1 t1 h l1).objs.size = h.objs.size + 1 := Heap.size_push ..
  have z2 : (zH2 t1 t2 h l1 l2).objs.size = h.objs.size + 2 := by rw [Heap.size_push, z1]
  have z3 : (zH3 t1 t2 h l1 l2).objs.size = h.objs.size + 3 := by rw [Heap.size_push, z2]
  have z4 : (zH4 t1 t2 h l1 l2).objs.size = h.objs.size + 4 := by rw [Heap.size_push, z3]
  have fr : ∀ (t : Bool) (l : Addr), (itO t l).isFreed = false := fun t l => by cases t <;> rfl
  have g5 : (zH5 t1 t2 h l1 l2).get? (zH4 t1 t2 h l1 l2).objs.size = some _ := Heap.get?_push_size _ rfl
  have g4 : (zH5 t1 t2 h l1 l2).get? (zH3 t1 t2 h l1 l2).objs.size = some _ := Heap.get?_push_of_some _ (Heap.get?_push_size _ rfl)
  have g3 : (zH5 t1 t2 h l1 l2).get? (zH2 t1 t2 h l1 l2).objs.size = some _ := Heap.get?_push_of_some _ (Heap.get?_push_of_some _ (Heap.get?_push_size _ rfl))
  have g2 : (zH5 t1 t2 h l1 l2).get? (zH1 t1 h l1).objs.size = some _ := Heap.get?_push_of_some _ (Heap.get?_push_of_some _ (Heap.get?_push_of_some _ (Heap.get?_push_size _ (fr t2 l2))))
  have g1 : (zH5 t1 t2 h l1 l2).get? h.objs.size = some _ := Heap.get?_push_of_some _ (Heap.get?_push_of_some _ (Heap.get?_push_of_some _ (Heap.get?_push_of_some _ (Heap.get?_push_size _ (fr t1 l1)))))
  rw [z4] at g5
  rw [z1, z2] at g3
  rw [z3] at g4
  rw [z1] at g2
  rw [z2, z3] at g5
  refine ⟨g5, g3, g4, ?_, ?_, fun c o x =>
    Heap.get?_push_of_some _ (Heap.get?_push_of_some _ (Heap.get?_push_of_some _ (Heap.get?_push_of_some _ (Heap.get?_push_of_some _ x)))), z4⟩
  · cases t1 <;> exact ⟨_, g1, rfl, rfl⟩
  · cases t2 <;> exact ⟨_, g2, rfl, rfl⟩
section
variable {prog : Program} {w : World} {A : Around} {E : Value → Shared → Prop} {s : Shared}
theorem call_zipK (t1 t2 : Bool) {l1 l2 : Addr} {xs ys : Array Value} {Q : Value → Shared → Prop} (hl1 : SqK t1 s.heap l1 xs) (hl2 : SqK t2 s.heap l2 ys)
    (h : ∀ h', ZipG h' (s.heap.objs.size + 4) (s.heap.objs.size + 2) (s.heap.objs.size + 3) .none false → IsPair h' (s.heap.objs.size + 2) (.ref s.heap.objs.size) (.ref (s.heap.objs.size + 1)) →
      IsPair h' (s.heap.objs.size + 3) .none .none → ItK t1 h' s.heap.objs.size l1 0 → ItK t2 h' (s.heap.objs.size + 1) l2 0 →
      (∀ c o, s.heap.get? c = some o → h'.get? c = some o) → Q (.ref (s.heap.objs.size + 4)) { s with heap := h' }) :
    wpAny (model prog w) A (call (.type "zip") [.ref l1, .ref l2]) Q E s := by
  cases t1 <;> cases t2
  · exact call_zip_2 hl1 hl2 fun h' a1 a2 a3 a4 a5 _ a7 => h h' a1 a2 a3 a4 a5 a7
  · refine callType_new F.called_zip (by decide) (F.typeCall_zip_2 _ _) (F.newCall_zip_2 _ _) (fun obj => F.args_object_init_3 obj _ _) F.entry_zip_new
      (meets_zipLT l1 l2 xs ys) ⟨hl1, hl2, ?_⟩
    obtain ⟨a1, a2, a3, a4, a5, a6, a7⟩ := zH_facts false true s.heap l1 l2
    show _ ∧ _
    rw [a7]
    exact ⟨⟨_, a1, rfl⟩, h _ a1 a2 a3 a4 a5 a6⟩
  · refine callType_new F.called_zip (by decide) (F.typeCall_zip_2 _ _) (F.newCall_zip_2 _ _) (fun obj => F.args_object_init_3 obj _ _) F.entry_zip_new
      (meets_zipTL l1 l2 xs ys) ⟨hl1, hl2, ?_⟩
    obtain ⟨a1, a2, a3, a4, a5, a6, a7⟩ := zH_facts true false s.heap l1 l2
    show _ ∧ _
    rw [a7]
    exact ⟨⟨_, a1, rfl⟩, h _ a1 a2 a3 a4 a5 a6⟩
  · exact RZ.call_zipT hl1 hl2 fun h' a1 a2 a3 a4 a5 _ a7 => h h' a1 a2 a3 a4 a5 a7
end
def iZipK (K : PySem.W.Frag) (ta : TA) : TI := fun σ H R => ta σ H fun vs H1 => ∃ t1 t2 a b xs ys, vs = [.ref a, .ref b] ∧ SK t1 K H1 a xs ∧ SK t2 K H1 b ys ∧ R (ItzK t1 t2 K a b) H1
theorem pi_zipK {X : Cx} {e e2 : Expr} {ta : TA} {p pos : Pos} {tg : Expr} (hg : Gl X "zip") (hm : X.mg "zip" = none) (ha : PA X [e, e2] ta)
    (hs : starEach [e, e2] X.env = (false, eval e X.env) :: starEach [e2] X.env := by rfl) (hpl : (backTo pos (starEach [e2] X.env)).any (·.1) = false := by rfl) :
    PI X tg (.Call (.Name "zip" p) [e, e2] [] pos) (iZipK X.K ta) := by
  refine ⟨fun pins s σ H R I h => ?_⟩
  refine Call_ (ld_blt I hg hm PyProof.Rows.boot_zip (PyProof.Rows.callWith_type1 (thn (ha.run pos pins s σ H _ I h) fun us s1 ⟨vs, H1, I1, r1, q1⟩ => ?_) hs hpl))
  obtain ⟨t1, t2, a, b, xs, ys, ex, hqx, hqy, q⟩ := q1
  subst ex
  cases r1 with
  | cons r rr =>
    cases rr with
    | cons r' rr =>
      cases rr
      cases r
      cases r'
      have fresh5 : ∀ c, c ∈ [s1.heap.objs.size + 4, s1.heap.objs.size + 2, s1.heap.objs.size + 3, s1.heap.objs.size, s1.heap.objs.size + 1] → FpOk X pins H1 c := fun c hcm => by
        have e' : c = s1.heap.objs.size + 4 ∨ c = s1.heap.objs.size + 2 ∨ c = s1.heap.objs.size + 3 ∨ c = s1.heap.objs.size ∨ c = s1.heap.objs.size + 1 := by simpa using hcm
        have hle : s1.heap.objs.size ≤ c := by
          rcases e' with z | z | z | z | z
          · rw [z]; exact Nat.le_add_right _ _
          · rw [z]; exact Nat.le_add_right _ _
          · rw [z]; exact Nat.le_add_right _ _
          · rw [z]; exact Nat.le_refl _
          · rw [z]; exact Nat.le_add_right _ _
        exact I1.fpOk hle (I1.hok.fresh hle)
      obtain ⟨its, rv, p1, p1l⟩ := inv_sk I1 hqx
      obtain ⟨its2, rv2, p2, p2l⟩ := inv_sk I1 hqy
      refine call_zipK t1 t2 p1 p2 fun h' hz hTI hTO h1 h2 hk => iter_zipG hz ?_
      have I2 : Inv X pins σ H1 { s1 with heap := h' } := I1.kept (t' := s1.toks) hk
      exact ⟨s1.heap.objs.size + 4, [s1.heap.objs.size + 4, s1.heap.objs.size + 2, s1.heap.objs.size + 3, s1.heap.objs.size, s1.heap.objs.size + 1], _, _, H1, rfl, I2, turn_zipK (PySem.W.ktu_apart s1.heap.objs.size a b p1l p2l), ⟨⟨_, _, hz, .inl rfl⟩, hTI, ⟨_, _, hTO⟩, h1, h2⟩, fresh5, q⟩
end EnT
namespace Mp
open PySem PySem.Spec PyProof.Rows L2
open Mp.T (Wc)
section
variable {G : Gf} {c : Ck} {sc : Scope} {X : Cx} {e : Expr} {x : Str} {p : Pos} {i : Nat} {Γ : Ga}
theorem count_at {X : Cx} {pins : List (Addr × Obj)} {σ : L2.St} {H : Hp} {s : Shared} {ds : List PyData} {d : PyData} {its : List Value} {as : List Addr} (hxs : PyData.canLayAll0 ds = true) (h4 : ReadsAll s.heap its ds as) :
    its.toArray.toList.countP (fun u => PyData.eqv (SeqAt.readOf s.heap u) d) = ds.countP fun z => PyData.eqv z d := by
  have hmap : its.map (SeqAt.readOf s.heap) = ds := SeqAt.readsAll_map ds its as hxs h4
  conv => rhs; rw [← hmap]
  rw [List.countP_map]
  rfl
theorem mtS_count (hu : X.A.units + 65 < cLine) : MtR X "list.count" (rM1 X.K (outV X.K) (lOnly (o2 .count))) := by
  intro pins s σ H x vs v us Q I rx rvs ⟨y, ey, W, b, p, q, r, S, rp, rq, e, h⟩
  subst ey
  cases p with
  | list xs =>
    obtain ⟨z, e1, e⟩ := bind_ret_inv e
    cases ret_inj e
    obtain ⟨⟨s1, s2⟩, e1⟩ := need_ret e1
    cases ret_inj e1
    obtain ⟨uy, rfl, ry⟩ := rvs.one
    obtain ⟨a, vs', rfl, ea, za, qa⟩ := rp.list S
    cases rx
    have hd := rq.dp S (SeqAt.canLay_of_shaped s1)
    have hxs : PyData.canLayAll0 xs = true := SeqAt.canLay_of_shaped s2
    obtain ⟨bs, r1⟩ := Dp.reads I q y uy hd ry
    obtain ⟨its, rv, ⟨⟨cls, dd, data, sls⟩, n, ho, hc, hdn, hdt⟩, hlen⟩ := I.list (SqL.of ea)
    simp only at hc hdt
    subst hc hdt
    obtain ⟨as, h4⟩ := Dp.readsAll I xs _ its (DvAll.dp xs hxs (DvAll.le S.f _ qa)) rv
    refine call_meets PySem.F.slot_list_count ⟨_, ho, rfl⟩ PySem.F.entry_list_count (PySem.F.args_list_count_2 _ _)
      (SeqAt.list_countAt a its.toArray n dd sls uy fun u => PyData.eqv (SeqAt.readOf s.heap u) q) ⟨ho, SeqAt.items_eqAt (vs := its.toArray) (show ReadsAll s.heap its.toArray.toList xs as from h4) r1 hxs (SeqAt.canLay_of_shaped s1) (room_in_shaped s1 hu), ?_⟩
    rw [count_at (X := X) (pins := pins) (σ := σ) (H := H) hxs h4]
    exact ⟨.int _, H, I.tok _, ⟨s.toks, rfl⟩, h W H _ (Ext.refl _ _) S (.d (.int _))⟩
  | _ => cases e
theorem mtS_countT (hu : X.A.units + 65 < cLine) : MtR X "tuple.count" (rM1 X.K (outV X.K) (tOnly (o2 .count))) := by
  intro pins s σ H x vs v us Q I rx rvs ⟨y, ey, W, b, p, q, r, S, rp, rq, e, h⟩
  subst ey
  cases p with
  | tuple xs =>
    have e : o2 .count (.tuple xs) q = T.ret r := e
    obtain ⟨z, e1, e⟩ := bind_ret_inv e
    cases ret_inj e
    obtain ⟨⟨s1, s2⟩, e1⟩ := need_ret e1
    cases ret_inj e1
    obtain ⟨uy, rfl, ry⟩ := rvs.one
    obtain ⟨a, vs', rfl, ea, ef, za, qa⟩ := rp.tup S
    cases rx
    have hd := rq.dp S (SeqAt.canLay_of_shaped s1)
    have hxs : PyData.canLayAll0 xs = true := SeqAt.canLay_of_shaped s2
    obtain ⟨bs, r1⟩ := Dp.reads I q y uy hd ry
    obtain ⟨its, rv, ⟨⟨cls, dd, data, sls⟩, ho, hc, n, hdt⟩, hlen⟩ := I.tuple ea
    simp only at hc hdt
    subst hc hdt
    obtain ⟨as, h4⟩ := Dp.readsAll I xs _ its (DvAll.dp xs hxs (DvAll.le S.f _ qa)) rv
    refine call_meets PySem.F.slot_tuple_count ⟨_, ho, rfl⟩ PySem.F.entry_tuple_count (PySem.F.args_tuple_count_2 _ _)
      (SeqAt.tuple_countAt a its.toArray n dd sls uy fun u => PyData.eqv (SeqAt.readOf s.heap u) q) ⟨ho, SeqAt.items_eqAt (vs := its.toArray) (show ReadsAll s.heap its.toArray.toList xs as from h4) r1 hxs (SeqAt.canLay_of_shaped s1) (room_in_shaped s1 hu), ?_⟩
    rw [count_at (X := X) (pins := pins) (σ := σ) (H := H) hxs h4]
    exact ⟨.int _, H, I.tok _, ⟨s.toks, rfl⟩, h W H _ (Ext.refl _ _) S (.d (.int _))⟩
  | _ => cases e
theorem s_mth (o : XOk G c sc X) (hK : Γ.K = X.K) {op : O2} {n : String} {a b : ME} {y z : Expr} {ap p2 : Pos} (h : m1 op = some n) (hs : notStar z = true) (hb : plainBase y = true) (hl : (ap.endLine == p2.line) = true)
    (ha : PE X y (TD Γ (mR Γ.K) (denE G.C a))) (hz : PE X z (TD Γ (mR Γ.K) (denE G.C b))) : PE X (.Call (.Attribute y (Str.ofString n) ap) [z] [] p2) (TD Γ (mV Γ.K) (denE G.C (.mth op a b))) := by
  have hbase : attributeBase y (Str.ofString n) X.env (eval y X.env) = eval y X.env := by cases y <;> first | rfl | cases hb
  have hu : X.A.units + 65 < cLine := by
    have := o.units
    omega
  have key : PE X (.Call (.Attribute y (Str.ofString n) ap) [z] [] p2) (tBML X.K (rM1 X.K (outV X.K) (lOnly (o2 op))) (rM1 X.K (outV X.K) (tOnly (o2 op))) (TD Γ (mR Γ.K) (denE G.C a)) (tCons (TD Γ (mR Γ.K) (denE G.C b)) tNil)) := by
    have hst := star1 hs [] X.env
    have hfew : ((backTo p2 (starEach [z] X.env)).all (fun x => !x.1) && (backToKw p2 (keywordEach [] X.env)).all (fun x => x.1.isSome) && decide (([z] : List Expr).length + ([] : List Keyword).length + (if ([] : List Keyword).isEmpty then 0 else 1) < 30)) = true := by
      rw [hst]
      rfl
    cases op <;> cases h
    · exact pe_bml F.plainAttrs_list F.slot_list_count F.type_list_count (mtS_count hu) F.plainAttrs_tuple F.slot_tuple_count F.type_tuple_count (mtS_countT hu) ha (pa_cons hz pa_nil hst) hbase hfew hl hst rfl
    · exact pe_bml F.plainAttrs_list F.slot_list_index F.type_list_index (mtS_index hu) F.plainAttrs_tuple F.slot_tuple_index F.type_tuple_index (mtS_indexT hu) ha (pa_cons hz pa_nil hst) hbase hfew hl hst rfl
  refine key.imp fun σ H Q q => ?_
  obtain ⟨W, b0, env, S, X0, r, k⟩ := q
  simp only [denE, T.assoc] at k
  refine Wc.step mono_mV S X0 r k fun b1 va W1 H1 xa e1 S1 ra k => ?_
  obtain ⟨da, ea, k⟩ := Wc_plain plain_asD k
  rw [asD_ret ea] at ra
  cases da with
  | list xs =>
    have k : Wc (postQ Γ (mV Γ.K) W1 H1 Q) (postE Γ σ W1 H1) b1 (denE G.C b env >>= fun v => asD v >>= fun y => o2 op (.list xs) y >>= fun z => T.ret (.d z)) := k
    obtain ⟨l, vs, rfl, el, zl, ql⟩ := RR.list S1 ra
    refine .inl ⟨.inl ⟨rfl, vs, SqL.of el⟩, ?_⟩
    refine Wc.step mono_mV S1 (X0.trans e1 S1) (r.ext e1) k fun b2 vb W2 H2 xb e2 S2 rb k => ?_
    obtain ⟨db, eb, k⟩ := Wc_plain plain_asD k
    rw [asD_ret eb] at rb
    obtain ⟨z, ez, k⟩ := Wc_plain plain_o2 k
    rw [← hK]
    exact ⟨xb, rfl, W2, b2, .list xs, db, z, S2, RR.ext e2 ra, rb, ez, fun W3 H3 v e3 S3 o3 => k W3 H3 v e3 S3 o3⟩
  | tuple xs =>
    have k : Wc (postQ Γ (mV Γ.K) W1 H1 Q) (postE Γ σ W1 H1) b1 (denE G.C b env >>= fun v => asD v >>= fun y => o2 op (.tuple xs) y >>= fun z => T.ret (.d z)) := k
    obtain ⟨l, vs, rfl, el, ef, zl, ql⟩ := RR.tup S1 ra
    refine .inr ⟨⟨l, vs, rfl, by rw [← hK]; exact el, by rw [← hK]; exact HLe.noD S1.f ef.2⟩, ?_⟩
    refine Wc.step mono_mV S1 (X0.trans e1 S1) (r.ext e1) k fun b2 vb W2 H2 xb e2 S2 rb k => ?_
    obtain ⟨db, eb, k⟩ := Wc_plain plain_asD k
    rw [asD_ret eb] at rb
    obtain ⟨z, ez, k⟩ := Wc_plain plain_o2 k
    rw [← hK]
    exact ⟨xb, rfl, W2, b2, .tuple xs, db, z, S2, RR.ext e2 ra, rb, ez, fun W3 H3 v e3 S3 o3 => k W3 H3 v e3 S3 o3⟩
  | _ => exact k.elim

/-- later: the heap may be written, or not -/
def Lt (fz : Bool) (W : Wd) (H : Hp) (W2 : Wd) (H2 : Hp) : Prop := match fz with
  | true => W.Le W2
  | false => Ext W H W2 H2
theorem Lt.le {fz : Bool} {W W2 : Wd} {H H2 : Hp} (h : Lt fz W H W2 H2) : W.Le W2 := by
  cases fz
  · exact Ext.le h
  · exact h
theorem Lt.of {fz : Bool} {W W2 : Wd} {H H2 : Hp} (h : Ext W H W2 H2) : Lt fz W H W2 H2 := by
  cases fz
  · exact h
  · exact h.le
/-- known to stand still, or to be read -/
def RM (fz : Bool) (K : PySem.W.Frag) (W : Wd) (H : Hp) (x : PV) (v : V) : Prop := match fz with
  | true => RV K W x v
  | false => RR K W H x v
theorem RM.rr {fz : Bool} {K : PySem.W.Frag} {W : Wd} {H : Hp} {x : PV} {v : V} (h : RM fz K W H x v) : RR K W H x v := by
  cases fz
  · exact h
  · exact .v h
theorem RM.ext {fz : Bool} {K : PySem.W.Frag} {W W1 : Wd} {H H1 : Hp} {x : PV} {v : V} (e : Ext W H W1 H1) (h : RM fz K W H x v) : RM fz K W1 H1 x v := by
  cases fz
  · exact RR.ext e h
  · exact RV.le e.le h
def mM (fz : Bool) (K : PySem.W.Frag) : Rel PV V := fun _ _ W' H' x v => RM fz K W' H' x v
/-- the walk of a list of data: from any later state the i-th is given -/
def mI (fz : Bool) (K : PySem.W.Frag) : Rel (List PyData) It := fun _ _ W' H' xs J => xs.length ≤ sizeLine ∧ ∃ Gd Y, Walk J xs.length Gd Y ∧ ∀ W2 b2 H2, Lt fz W' H' W2 H2 → SR K W2 b2 H2 → Gd H2 ∧
  ∀ i x H3, i < xs.length → Y i H2 x H3 → ∃ W3 d, Ext W2 H2 W3 H3 ∧ SR K W3 b2 H3 ∧ xs[i]? = some d ∧ RV K W3 (.d d) x
theorem mono_mI {fz : Bool} {K : PySem.W.Frag} : Mono (mI fz K) := fun _ _ _ _ _ _ _ _ _ _ h => h
section
variable {K : PySem.W.Frag} {W W1 : Wd} {H H1 : Hp} {b : Nat}
theorem list_stays {fz : Bool} {a : Addr} {xs : List PyData} (S : SR K W b H) (r : RM fz K W H (.d (.list xs)) (.ref a)) : ∃ vs, vs.length ≤ sizeLine ∧ DvAll K W.F vs xs ∧ ∀ W2 b2 H2, Lt fz W H W2 H2 → SR K W2 b2 H2 → SqL K H2 a vs := by
  obtain ⟨a', vs, e, el, zl, ql⟩ := r.rr.list S
  cases e
  refine ⟨vs, zl, ql, fun W2 b2 H2 e2 S2 => ?_⟩
  have frz : RV K W (.d (.list xs)) (.ref a) → SqL K H2 a vs := fun q => by
    cases q with
    | d q => cases q with
      | lst e z q =>
        have := S.f _ _ e
        rw [el] at this
        cases this
        exact SqL.of (S2.f _ _ (e2.le.f _ _ e))
  cases fz with
  | true => exact frz r
  | false =>
    have r' : RR K W H (.d (.list xs)) (.ref a) := r
    cases r' with
    | v q => exact frz q
    | own e n z q =>
      rw [el] at e
      cases e
      have e2' : Ext W H W2 H2 := e2
      exact SqL.of (e2'.keep el n).1
theorem mI_list {fz : Bool} {a : Addr} {xs : List PyData} (S : SR K W b H) (r : RM fz K W H (.d (.list xs)) (.ref a)) : mI fz K W1 H1 W H xs (Itl K a) := by
  obtain ⟨vs, zl, ql, st⟩ := list_stays S r
  have hlen : vs.length = xs.length := ql.length
  refine ⟨by rw [← hlen]; exact zl, (fun H => SqL K H a vs), YAt vs, by rw [← hlen]; exact walk_list, fun W2 b2 H2 e2 S2 => ⟨st W2 b2 H2 e2 S2, fun i x H3 hi y => ?_⟩⟩
  obtain ⟨rfl, hx⟩ := y
  obtain ⟨d, hd, rd⟩ := ql.get' hx
  exact ⟨W2, d, Ext.refl _ _, S2, hd, .d (rd.le e2.le.f)⟩
theorem mI_tup {fz : Bool} {a : Addr} {xs : List PyData} (S : SR K W b H) (r : RM fz K W H (.d (.tuple xs)) (.ref a)) : mI fz K W1 H1 W H xs (Itt K a) := by
  obtain ⟨a', vs, e, el, eF, zl, ql⟩ := r.rr.tup S
  cases e
  have hlen : vs.length = xs.length := ql.length
  refine ⟨by rw [← hlen]; exact zl, (fun H => SqT K H a vs), YAt vs, by rw [← hlen]; exact walk_tup, fun W2 b2 H2 e2 S2 => ⟨?_, fun i x H3 hi y => ?_⟩⟩
  · exact S2.f.sqT (e2.le.f.sqT eF.1)
  · obtain ⟨rfl, hx⟩ := y
    obtain ⟨d, hd, rd⟩ := ql.get' hx
    exact ⟨W2, d, Ext.refl _ _, S2, hd, .d (rd.le e2.le.f)⟩
/-- a new pair -/
theorem mI_pair {W2 : Wd} {H2 H3 : Hp} {b2 : Nat} {x y v : V} {T : Addr} {d e : PyData} (S2 : SR K W2 b2 H2) {o : Obj} (n : H2 T = none) (ho : o.dict = none) (h3 : H3 = upd H2 T (.frz o (.tup [x, y]))) (rd : Dv K W2.F x d) (re : Dv K W2.F y e) :
    ∃ W3, Ext W2 H2 W3 H3 ∧ SR K W3 b2 H3 ∧ RV K W3 (.d (.tuple [d, e])) (.ref T) := by
  subst h3
  exact new_tup ho S2 n (by rw [sizeLine_eq]; simp) (.cons rd (.cons re .nil))
theorem enumD_get : ∀ (xs : List PyData) (n i : Nat), (enumD n xs)[i]? = (xs[i]?).map fun d => .tuple [.int ((n + i : Nat) : Int), d]
  | [], n, i => by simp [enumD]
  | x :: xs, n, 0 => by simp [enumD]
  | x :: xs, n, i + 1 => by
    simp only [enumD, List.getElem?_cons_succ]
    rw [enumD_get xs (n + 1) i]
    have : n + 1 + i = n + (i + 1) := by omega
    rw [this]
theorem enumD_len : ∀ (xs : List PyData) (n : Nat), (enumD n xs).length = xs.length
  | [], n => rfl
  | x :: xs, n => by simp [enumD, enumD_len xs]
theorem zipD_get : ∀ (xs ys : List PyData) (i : Nat) (x y : PyData), xs[i]? = some x → ys[i]? = some y → (zipD xs ys)[i]? = some (.tuple [x, y])
  | [], _, i, x, y, h, _ => by simp at h
  | _ :: _, [], i, x, y, _, h => by simp at h
  | a :: xs, c :: ys, 0, x, y, h, h' => by
    simp at h h'
    simp [zipD, h, h']
  | a :: xs, c :: ys, i + 1, x, y, h, h' => by
    simp only [zipD, List.getElem?_cons_succ] at h h' ⊢
    exact zipD_get xs ys i x y h h'
theorem zipD_len : ∀ (xs ys : List PyData), (zipD xs ys).length = min xs.length ys.length
  | [], ys => by simp [zipD]
  | _ :: _, [] => by simp [zipD]
  | a :: xs, c :: ys => by
    simp only [zipD, List.length_cons, zipD_len xs ys]
    omega
/-- the pairs of a walk -/
def YPairF (xs ys : Nat → Option V) : Nat → Hp → V → Hp → Prop := fun i H v H' => ∃ T x y o, v = .ref T ∧ H T = none ∧ o.dict = none ∧ H' = upd H T (.frz o (.tup [x, y])) ∧ xs i = some x ∧ ys i = some y
theorem walk_enumL {a : Addr} {xs : List V} : Walk (EnT.IteL K a) xs.length (fun H => SqL K H a xs) (YPairF (fun i => some (.int (i : Nat))) (fun i => xs[i]?)) := by
  refine ⟨fun i _ hi q => ⟨xs, xs[i], q, by simp [hi]⟩, fun _ q => ⟨xs, q, Nat.le_refl _⟩, fun i H v H' _ q y => ?_⟩
  obtain ⟨T, x, o, h1, h2, h3, h4, h5⟩ := y
  exact ⟨T, _, x, o, h1, h2, h3, h4, rfl, h5 xs q⟩
theorem walk_zipK {t1 t2 : Bool} {a b : Addr} {xs ys : List V} {n : Nat} (hn : n = min xs.length ys.length) : Walk (EnT.ItzK t1 t2 K a b) n (fun H => EnT.SK t1 K H a xs ∧ EnT.SK t2 K H b ys) (YPairF (fun i => xs[i]?) (fun i => ys[i]?)) := by
  subst hn
  refine ⟨fun i _ hi q => ?_, fun _ q => ⟨xs, ys, q.1, q.2, by omega⟩, fun i H v H' _ q y => ?_⟩
  · have h1 : i < xs.length := by omega
    have h2 : i < ys.length := by omega
    exact ⟨xs, ys, xs[i], ys[i], q.1, q.2, by simp [h1], by simp [h2]⟩
  · obtain ⟨T, x, z, o, h1, h2, h3, h4, h5, h6⟩ := y
    exact ⟨T, x, z, o, h1, h2, h3, h4, h5 xs q.1, h6 ys q.2⟩
/-- the items of a list or a tuple as they stand in zipK -/
def seqT (t : Bool) (xs : List PyData) : PyData := match t with | true => .tuple xs | false => .list xs
theorem sk_stays {fz t : Bool} {a : Addr} {xs : List PyData} (S : SR K W b H) (r : RM fz K W H (.d (seqT t xs)) (.ref a)) : ∃ vs, vs.length ≤ sizeLine ∧ DvAll K W.F vs xs ∧ ∀ W2 b2 H2, Lt fz W H W2 H2 → SR K W2 b2 H2 → EnT.SK t K H2 a vs := by
  cases t with
  | false => exact list_stays S r
  | true =>
    obtain ⟨a1, vs, e, el, eF, zl, ql⟩ := (RM.rr r).tup S
    cases e
    exact ⟨vs, zl, ql, fun W2 b2 H2 e2 S2 => S2.f.sqT (e2.le.f.sqT eF.1)⟩
theorem sk_now {fz t : Bool} {x : V} {xs : List PyData} (S : SR K W b H) (r : RM fz K W H (.d (seqT t xs)) x) : ∃ a vs, x = .ref a ∧ EnT.SK t K H a vs := by
  cases t with
  | false =>
    obtain ⟨l, vs, e, el, _, _⟩ := (RM.rr r).list S
    exact ⟨l, vs, e, SqL.of el⟩
  | true =>
    obtain ⟨l, vs, e, el, _, _, _⟩ := (RM.rr r).tup S
    exact ⟨l, vs, e, el⟩
theorem mI_enum {fz : Bool} {a : Addr} {xs : List PyData} (S : SR K W b H) (r : RM fz K W H (.d (.list xs)) (.ref a)) : mI fz K W1 H1 W H (enumD 0 xs) (EnT.IteL K a) := by
  obtain ⟨vs, zl, ql, st⟩ := list_stays S r
  have hlen : vs.length = xs.length := ql.length
  refine ⟨by rw [enumD_len, ← hlen]; exact zl, (fun H => SqL K H a vs), _, by rw [enumD_len, ← hlen]; exact walk_enumL, fun W2 b2 H2 e2 S2 => ⟨st W2 b2 H2 e2 S2, fun i x H3 hi y => ?_⟩⟩
  obtain ⟨T, u, v, o, rfl, n, ho, h3, hu, hv⟩ := y
  cases hu
  obtain ⟨d, hd, rd⟩ := ql.get' hv
  obtain ⟨W3, g1, g2, g3⟩ := mI_pair (v := .non) S2 n ho h3 (.int _) (rd.le e2.le.f)
  exact ⟨W3, _, g1, g2, by rw [enumD_get, hd]; simp, g3⟩
theorem walk_enumT {a : Addr} {xs : List V} : Walk (EnT.IteT K a) xs.length (fun H => SqT K H a xs) (YPairF (fun i => some (.int (i : Nat))) (fun i => xs[i]?)) := by
  refine ⟨fun i _ hi q => ⟨xs, xs[i], q, by simp [hi]⟩, fun _ q => ⟨xs, q, Nat.le_refl _⟩, fun i H v H' _ q y => ?_⟩
  obtain ⟨T, x, o, h1, h2, h3, h4, h5⟩ := y
  exact ⟨T, _, x, o, h1, h2, h3, h4, rfl, h5 xs q⟩
theorem mI_enumT {fz : Bool} {a : Addr} {xs : List PyData} (S : SR K W b H) (r : RM fz K W H (.d (.tuple xs)) (.ref a)) : mI fz K W1 H1 W H (enumD 0 xs) (EnT.IteT K a) := by
  obtain ⟨a1, vs, e, el, eF, zl, ql⟩ := r.rr.tup S
  cases e
  have hlen : vs.length = xs.length := ql.length
  refine ⟨by rw [enumD_len, ← hlen]; exact zl, (fun H => SqT K H a vs), _, by rw [enumD_len, ← hlen]; exact walk_enumT, fun W2 b2 H2 e2 S2 => ⟨S2.f.sqT (e2.le.f.sqT eF.1), fun i x H3 hi y => ?_⟩⟩
  obtain ⟨T, u, v, o, rfl, n, ho, h3, hu, hv⟩ := y
  cases hu
  obtain ⟨d, hd, rd⟩ := ql.get' hv
  obtain ⟨W3, g1, g2, g3⟩ := mI_pair (v := .non) S2 n ho h3 (.int _) (rd.le e2.le.f)
  exact ⟨W3, _, g1, g2, by rw [enumD_get, hd]; simp, g3⟩
theorem mI_zipK {fz t1 t2 : Bool} {a a' : Addr} {xs ys : List PyData} (S : SR K W b H) (r : RM fz K W H (.d (seqT t1 xs)) (.ref a)) (r' : RM fz K W H (.d (seqT t2 ys)) (.ref a')) : mI fz K W1 H1 W H (zipD xs ys) (EnT.ItzK t1 t2 K a a') := by
  obtain ⟨vs, zl, ql, st⟩ := sk_stays S r
  obtain ⟨vs', zl', ql', st'⟩ := sk_stays S r'
  have hlen : vs.length = xs.length := ql.length
  have hlen' : vs'.length = ys.length := ql'.length
  refine ⟨by rw [zipD_len]; omega, (fun H => EnT.SK t1 K H a vs ∧ EnT.SK t2 K H a' vs'), _, walk_zipK (by rw [zipD_len, hlen, hlen']), fun W2 b2 H2 e2 S2 => ⟨⟨st W2 b2 H2 e2 S2, st' W2 b2 H2 e2 S2⟩, fun i x H3 hi y => ?_⟩⟩
  obtain ⟨T, u, v, o, rfl, n, ho, h3, hu, hv⟩ := y
  obtain ⟨d, hd, rd⟩ := ql.get' hu
  obtain ⟨d', hd', rd'⟩ := ql'.get' hv
  obtain ⟨W3, g1, g2, g3⟩ := mI_pair (v := .non) S2 n ho h3 (rd.le e2.le.f) (rd'.le e2.le.f)
  exact ⟨W3, _, g1, g2, zipD_get _ _ _ _ _ hd hd', g3⟩
theorem plain_zipK {x y : PyData} : Plain (zipK x y) := by cases x <;> cases y <;> first | exact plain_ret _ | exact plain_stuck
theorem zipK_of {x y : PyData} {p : List PyData × List PyData} (h : zipK x y = T.ret p) : ∃ t1 t2, x = seqT t1 p.1 ∧ y = seqT t2 p.2 := by
  cases x <;> cases y <;> first | (have h : (T.stuck : T (List PyData × List PyData)) = T.ret p := h; cases h; done) | (have h := ret_inj h; subst h)
  all_goals first | exact ⟨true, true, rfl, rfl⟩ | exact ⟨true, false, rfl, rfl⟩ | exact ⟨false, true, rfl, rfl⟩ | exact ⟨false, false, rfl, rfl⟩
theorem rangeD_ret {i j : Int} {xs : List PyData} (h : rangeD i j = T.ret xs) : (-(2 ^ 62) ≤ i ∧ i < 2 ^ 62 ∧ -(2 ^ 62) ≤ j ∧ j < 2 ^ 62 ∧ (j - i).toNat ≤ SL) ∧ xs = (List.range (j - i).toNat).map fun (k : Nat) => PyData.int (i + (k : Int)) := by
  obtain ⟨h1, h2⟩ := need_ret h
  exact ⟨⟨by omega, by omega, by omega, by omega, h1.2.2.2.2⟩, (ret_inj h2).symm⟩
theorem mI_range {fz : Bool} {i j : Int} {xs : List PyData} (h : rangeD i j = T.ret xs) : mI fz K W1 H1 W H xs (Itr i (j - i).toNat) := by
  obtain ⟨⟨_, _, _, _, hl⟩, rfl⟩ := rangeD_ret h
  refine ⟨by rw [List.length_map, List.length_range]; exact SL_le hl, (fun _ => True), YFn (fun k => .int (i + (k : Nat))), by rw [List.length_map, List.length_range]; exact walk_range, fun W2 b2 H2 e2 S2 => ⟨trivial, fun k x H3 hk y => ?_⟩⟩
  obtain ⟨rfl, rfl⟩ := y
  rw [List.length_map, List.length_range] at hk
  exact ⟨W2, .int (i + (k : Nat)), Ext.refl _ _, S2, by rw [List.getElem?_map, List.getElem?_range hk]; rfl, .d (.int _)⟩
end
/-- a list or a tuple, walked -/
def iAny (K : PySem.W.Frag) (tl : TE) : TI := fun σ H R => tl σ H fun x H1 => ∃ a, x = .ref a ∧ ((∃ xs, SqL K H1 a xs) ∧ R (Itl K a) H1 ∨ (∃ xs, SqT K H1 a xs) ∧ R (Itt K a) H1)
theorem pi_any {tg l : Expr} {tl : TE} (hl : PE X l tl) : PI X tg l (iAny X.K tl) := by
  refine ⟨fun pins s σ H R I h => ?_⟩
  refine thn (hl.run pins s σ H _ I h) fun v s1 ⟨x, H1, I1, r1, q1⟩ => ?_
  obtain ⟨a, e, q⟩ := q1
  subst e
  rcases q with ⟨⟨xs, hq⟩, q⟩ | ⟨⟨xs, hq⟩, q⟩
  · have pl := (pi_list (X := X) (tg := tg) (l := l) (tl := tl) hl)
    cases r1
    obtain ⟨its, rv, p, hz⟩ := I1.list hq
    refine wpAny_pyIter_list p.isList ?_
    refine ⟨s1.heap.objs.size, [s1.heap.objs.size], _, _, H1, rfl, I1.kept (t' := s1.toks) fun b o e => Heap.get?_push_of_some _ e, turn_list a _, ⟨_, Heap.get?_push_size _ rfl, rfl, rfl⟩, fun b hb => ?_, q⟩
    have e : b = s1.heap.objs.size := by simpa using hb
    subst e
    exact I1.fpOk (Nat.le_refl _) (I1.hok.fresh (Nat.le_refl _))
  · cases r1
    obtain ⟨its, rv, p, hz⟩ := I1.tuple hq
    refine wpAny_pyIter_tuple (show s1.heap.IsTuple a its.toArray from p) ?_
    refine ⟨s1.heap.objs.size, [s1.heap.objs.size], _, _, H1, rfl, I1.kept (t' := s1.toks) fun b o e => Heap.get?_push_of_some _ e, turn_tuple a _, ⟨_, Heap.get?_push_size _ rfl, rfl, rfl⟩, fun b hb => ?_, q⟩
    have e : b = s1.heap.objs.size := by simpa using hb
    subst e
    exact I1.fpOk (Nat.le_refl _) (I1.hok.fresh (Nat.le_refl _))
theorem s_iseq {fz : Bool} (hK : Γ.K = X.K) {tg : Expr} {m : ME} {y : Expr} (ha : PE X y (TD Γ (mM fz Γ.K) (denE G.C m))) : PI X tg y (TD Γ (mI fz Γ.K) (denI G.C (.seq m))) := by
  have z := pi_any (tg := tg) ha
  refine ⟨fun pins s σ H R I h => z.run pins s σ H R I ?_⟩
  obtain ⟨W, b0, env, S, X0, r, k⟩ := h
  simp only [denI, T.assoc] at k
  have k : Wc (postQ Γ (mI fz Γ.K) W H R) (postE Γ σ W H) b0 (denE G.C m env >>= fun v => asD v >>= fun d => asSeq d) := k
  refine Wc.step mono_mI S X0 r k fun b1 va W1 H1 xa e1 S1 ra k => ?_
  obtain ⟨da, ea, k⟩ := Wc_plain plain_asD k
  rw [asD_ret ea] at ra
  have ra : RM fz Γ.K W1 H1 (.d da) xa := ra
  rw [← hK]
  cases da with
  | list xs =>
    obtain ⟨l, vs, rfl, el, zl, ql⟩ := (RM.rr ra).list S1
    exact ⟨l, rfl, .inl ⟨⟨vs, SqL.of el⟩, k W1 H1 _ (Ext.refl _ _) S1 (mI_list S1 ra)⟩⟩
  | tuple xs =>
    obtain ⟨l, vs, rfl, el, eF, zl, ql⟩ := (RM.rr ra).tup S1
    exact ⟨l, rfl, .inr ⟨⟨vs, el⟩, k W1 H1 _ (Ext.refl _ _) S1 (mI_tup S1 ra)⟩⟩
  | _ => exact k.elim
theorem s_irange {fz : Bool} (GO : GOk G c) (o : XOk G c sc X) (hK : Γ.K = X.K) {tg : Expr} {a b : ME} {y z : Expr} {q : Pos} (hx : isB sc x "range" = true) (hs : notStar y = true) (hs2 : notStar z = true)
    (ha : PE X y (TD Γ (mR Γ.K) (denE G.C a))) (hb : PE X z (TD Γ (mR Γ.K) (denE G.C b))) : PI X tg (.Call (.Name x p) [y, z] [] q) (TD Γ (mI fz Γ.K) (denI G.C (.range a b))) := by
  obtain ⟨x1, x2, x3⟩ := isB_of hx
  subst x1
  have w := pi_range2 (tg := tg) (p := p) (pos := q) (o.gl x2) (by rw [o.hmg]; exact GO.blt "range" (by simp [bltNames])) (pa_cons ha (pa_cons hb pa_nil (star1 hs2 [] X.env)) (star1 hs [z] X.env)) (by rw [star1 hs [z] X.env, star1 hs2 [] X.env]; rfl) (by rw [star1 hs2 [] X.env]; rfl)
  refine ⟨fun pins s σ H R I h => w.run pins s σ H R I ?_⟩
  obtain ⟨W, b0, env, S, X0, r, k⟩ := h
  simp only [denI, T.assoc] at k
  refine Wc.step mono_mI S X0 r k fun b1 va W1 H1 xa e1 S1 ra k => ?_
  obtain ⟨da, ea, k⟩ := Wc_plain plain_asD k
  obtain ⟨ia, ei, k⟩ := Wc_plain plain_asInt k
  rw [asD_ret ea, asInt_ret ei] at ra
  refine Wc.step mono_mI S1 (X0.trans e1 S1) (r.ext e1) k fun b2 vb W2 H2 xb e2 S2 rb k => ?_
  obtain ⟨db, eb, k⟩ := Wc_plain plain_asD k
  obtain ⟨jb, ej, k⟩ := Wc_plain plain_asInt k
  rw [asD_ret eb, asInt_ret ej] at rb
  have k := (show Wc _ _ b2 (rangeD ia jb >>= T.ret) by rw [T.bind_ret]; exact k)
  obtain ⟨xs, ex, k⟩ := Wc_plain (plain_bind plain_need fun _ => plain_ret _) k
  obtain ⟨⟨q1, q2, q3, q4, _⟩, _⟩ := rangeD_ret ex
  rw [RR.int ra, RR.int rb]
  exact ⟨ia, jb, rfl, ⟨q1, q2, q3, q4⟩, k W2 H2 _ (Ext.refl _ _) S2 (mI_range ex)⟩
theorem s_irange1 {fz : Bool} (GO : GOk G c) (o : XOk G c sc X) (hK : Γ.K = X.K) {tg : Expr} {b : ME} {z : Expr} {q : Pos} (hx : isB sc x "range" = true) (hs2 : notStar z = true)
    (hb : PE X z (TD Γ (mR Γ.K) (denE G.C b))) : PI X tg (.Call (.Name x p) [z] [] q) (TD Γ (mI fz Γ.K) (denI G.C (.range1 b))) := by
  obtain ⟨x1, x2, x3⟩ := isB_of hx
  subst x1
  have w := pi_range1 (tg := tg) (p := p) (pos := q) (o.gl x2) (by rw [o.hmg]; exact GO.blt "range" (by simp [bltNames])) (pa_cons hb pa_nil (star1 hs2 [] X.env)) (by rw [star1 hs2 [] X.env]; rfl)
  refine ⟨fun pins s σ H R I h => w.run pins s σ H R I ?_⟩
  obtain ⟨W, b0, env, S, X0, r, k⟩ := h
  simp only [denI, T.assoc] at k
  refine Wc.step mono_mI S X0 r k fun b2 vb W2 H2 xb e2 S2 rb k => ?_
  obtain ⟨db, eb, k⟩ := Wc_plain plain_asD k
  obtain ⟨jb, ej, k⟩ := Wc_plain plain_asInt k
  rw [asD_ret eb, asInt_ret ej] at rb
  have k := (show Wc _ _ b2 (rangeD 0 jb >>= T.ret) by rw [T.bind_ret]; exact k)
  obtain ⟨xs, ex, k⟩ := Wc_plain (plain_bind plain_need fun _ => plain_ret _) k
  obtain ⟨⟨q1, q2, q3, q4, _⟩, _⟩ := rangeD_ret ex
  rw [RR.int rb]
  have z := mI_range (fz := fz) (K := Γ.K) (W1 := W2) (H1 := H2) (W := W2) (H := H2) ex
  rw [Int.sub_zero] at z
  exact ⟨jb, rfl, q3, q4, k W2 H2 _ (Ext.refl _ _) S2 z⟩
theorem s_ienum {fz : Bool} (GO : GOk G c) (o : XOk G c sc X) (hK : Γ.K = X.K) {els : List Expr} {kk : Nat} {tp : Pos} {m : ME} {y : Expr} {q : Pos} (hx : isB sc x "enumerate" = true) (hs : notStar y = true)
    (ha : PE X y (TD Γ (mM fz Γ.K) (denE G.C m))) : PI X (.Tuple els kk tp) (.Call (.Name x p) [y] [] q) (TD Γ (mI fz Γ.K) (denI G.C (.enum m))) := by
  obtain ⟨x1, x2, x3⟩ := isB_of hx
  subst x1
  have w := EnT.pi_enumA (elts := els) (kk := kk) (tpos := tp) (p := p) (pos := q) (o.gl x2) (by rw [o.hmg]; exact GO.blt "enumerate" (by simp [bltNames])) (pa_cons ha pa_nil (star1 hs [] X.env)) (by rw [star1 hs [] X.env]; rfl)
  refine ⟨fun pins s σ H R I h => w.run pins s σ H R I ?_⟩
  obtain ⟨W, b0, env, S, X0, r, k⟩ := h
  simp only [denI, T.assoc] at k
  refine Wc.step mono_mI S X0 r k fun b2 vb W2 H2 xb e2 S2 rb k => ?_
  obtain ⟨db, eb, k⟩ := Wc_plain plain_asD k
  rw [asD_ret eb] at rb
  have rb : RM fz Γ.K W2 H2 (.d db) xb := rb
  rw [← hK]
  cases db with
  | list xs =>
    obtain ⟨l, vs, rfl, el, zl, ql⟩ := (RM.rr rb).list S2
    exact ⟨l, vs, rfl, .inl ⟨SqL.of el, k W2 H2 _ (Ext.refl _ _) S2 (mI_enum S2 rb)⟩⟩
  | tuple xs =>
    obtain ⟨l, vs, rfl, el, eF, zl, ql⟩ := (RM.rr rb).tup S2
    exact ⟨l, vs, rfl, .inr ⟨el, k W2 H2 _ (Ext.refl _ _) S2 (mI_enumT S2 rb)⟩⟩
  | _ => exact k.elim
theorem s_izip {fz : Bool} (GO : GOk G c) (o : XOk G c sc X) (hK : Γ.K = X.K) {tg : Expr} {a b : ME} {y z : Expr} {q : Pos} (hx : isB sc x "zip" = true) (hs : notStar y = true) (hs2 : notStar z = true)
    (ha : PE X y (TD Γ (mM fz Γ.K) (denE G.C a))) (hb : PE X z (TD Γ (mM fz Γ.K) (denE G.C b))) : PI X tg (.Call (.Name x p) [y, z] [] q) (TD Γ (mI fz Γ.K) (denI G.C (.zip a b))) := by
  obtain ⟨x1, x2, x3⟩ := isB_of hx
  subst x1
  have w := EnT.pi_zipK (tg := tg) (p := p) (pos := q) (o.gl x2) (by rw [o.hmg]; exact GO.blt "zip" (by simp [bltNames])) (pa_cons ha (pa_cons hb pa_nil (star1 hs2 [] X.env)) (star1 hs [z] X.env)) (star1 hs [z] X.env) (by rw [star1 hs2 [] X.env]; rfl)
  refine ⟨fun pins s σ H R I h => w.run pins s σ H R I ?_⟩
  obtain ⟨W, b0, env, S, X0, r, k⟩ := h
  simp only [denI, T.assoc] at k
  refine Wc.step mono_mI S X0 r k fun b1 va W1 H1 xa e1 S1 ra k => ?_
  obtain ⟨da, ea, k⟩ := Wc_plain plain_asD k
  rw [asD_ret ea] at ra
  have ra : RM fz Γ.K W1 H1 (.d da) xa := ra
  refine Wc.step mono_mI S1 (X0.trans e1 S1) (r.ext e1) k fun b2 vb W2 H2 xb e2 S2 rb k => ?_
  obtain ⟨db, eb, k⟩ := Wc_plain plain_asD k
  rw [asD_ret eb] at rb
  have rb : RM fz Γ.K W2 H2 (.d db) xb := rb
  have ra := RM.ext e2 ra
  rw [← hK]
  obtain ⟨⟨xs, ys⟩, ep, k2⟩ := Wc_plain plain_zipK k
  obtain ⟨t1, t2, rfl, rfl⟩ := zipK_of ep
  obtain ⟨l, vs, rfl, q1⟩ := sk_now S2 ra
  obtain ⟨l', vs', rfl, q2⟩ := sk_now S2 rb
  exact ⟨t1, t2, l, l', vs, vs', rfl, q1, q2, k2 W2 H2 _ (Ext.refl _ _) S2 (mI_zipK S2 ra rb)⟩
end
end Mp
namespace Mp
open PySem PySem.Spec PyProof.Rows L2
open Mp.T (Wc)
def gNs : List Nat → TGs
  | [] => gNil
  | i :: is => gCons (gName i) (gNs is)
def tgG (K : PySem.W.Frag) : MT → TG
  | .nm i => gName i
  | .tp is => fun v σ H Q => gTup K is.length (gNs is) v σ H Q ∨ gUnl K is.length (gNs is) v σ H Q
theorem pg_or {X : Cx} {e : Expr} {t1 t2 : TG} (h1 : PG X e t1) (h2 : PG X e t2) : PG X e (fun v σ H Q => t1 v σ H Q ∨ t2 v σ H Q) := by
  refine ⟨fun pins s σ H v u Q I r hw => ?_⟩
  rcases hw with hw | hw
  · exact h1.run pins s σ H v u Q I r hw
  · exact h2.run pins s σ H v u Q I r hw
theorem locF_of {sc : Scope} {fb : Str → Bool} {x : Str} {X : Cx} (hsc : X.env.scope = sc) (hfb : ∀ x, fb x = true → X.fn x = true) (h : locF sc fb x = true) : Loc X.env.scope x ∧ (X.fn x = true ∨ X.env.scope.names.lookup x = some .local) := by
  rw [hsc]
  unfold locF at h
  simp only [Bool.or_eq_true, Bool.and_eq_true] at h
  rcases h with h | ⟨h, h'⟩
  · exact ⟨.inl (kd_of h), .inr (kd_of h)⟩
  · exact ⟨.inr (kd_of h), .inl (hfb x h')⟩
section
variable {X : Cx} {N : List Str} {sc : Scope} {fb : Str → Bool}
theorem pgs_names (hN : X.N.Nodup) (hNN : X.N = N) (hsc : X.env.scope = sc) (hfb : ∀ x, fb x = true → X.fn x = true) : ∀ (is : List Nat) (es : List Expr), chkNames N sc fb is es = true →
    PGs X es (gNs is) ∧ (assignEach es X.env).length = is.length ∧ (assignEach es X.env).findIdx? (·.1) = none
  | [], [], _ => ⟨pgs_nil, rfl, rfl⟩
  | i :: is, e :: es, h => by
    unfold chkNames at h
    simp only [Bool.and_eq_true] at h
    obtain ⟨h1, h2⟩ := h
    split at h1
    · rename_i x hx
      obtain ⟨p, rfl⟩ := xName_inv hx
      simp only [Bool.and_eq_true, decide_eq_true_eq] at h1
      obtain ⟨l1, l2⟩ := locF_of hsc hfb h1.2
      obtain ⟨q1, q2, q3⟩ := pgs_names hN hNN hsc hfb is es h2
      refine ⟨pgs_cons (pg_name hN (by rw [hNN]; exact h1.1) l1 l2) q1 rfl, ?_, ?_⟩
      · show (assignEach es X.env).length + 1 = _
        rw [q2]
        rfl
      · show List.findIdx? _ ((false, _) :: assignEach es X.env) = none
        rw [List.findIdx?_cons, q3]
        rfl
    · cases h1
  | [], _ :: _, h => by cases h
  | _ :: _, [], h => by cases h
theorem pg_tgt (hN : X.N.Nodup) (hNN : X.N = N) (hsc : X.env.scope = sc) (hfb : ∀ x, fb x = true → X.fn x = true) (hc : X.calm = true) {tg : MT} {e : Expr} (h : chkT N sc fb tg e = true) : PG X e (tgG X.K tg) := by
  cases tg with
  | nm i =>
    have h1 : (match xName e with | some x => decide (N[i]? = some x) && locF sc fb x | none => false) = true := h
    cases hx : xName e with
    | none =>
      rw [hx] at h1
      cases h1
    | some x =>
      rw [hx] at h1
      obtain ⟨p, rfl⟩ := xName_inv hx
      have h2 : (decide (N[i]? = some x) && locF sc fb x) = true := h1
      rw [Bool.and_eq_true] at h2
      obtain ⟨l1, l2⟩ := locF_of hsc hfb h2.2
      exact pg_name hN (by rw [hNN]; exact of_decide_eq_true h2.1) l1 l2
  | tp is =>
    have h1 : (match xTup e with | some es => chkNames N sc fb is es | none => false) = true := h
    cases hx : xTup e with
    | none =>
      rw [hx] at h1
      cases h1
    | some es =>
      rw [hx] at h1
      obtain ⟨k, p, rfl⟩ := xTup_inv hx
      obtain ⟨q1, q2, q3⟩ := pgs_names hN hNN hsc hfb is es h1
      exact pg_or (pg_tup hc q1 q2 q3) (pg_unl hc q1 q2 q3)
end
theorem wipe_get (σ : L2.St) (j : Nat) : ∀ vs : List Nat, (wipe σ vs)[j]? = if j ∈ vs then (σ[j]?).map (fun _ => none) else σ[j]?
  | [] => by simp [wipe]
  | v :: vs => by
    unfold wipe
    rw [List.getElem?_set, wipe_length]
    by_cases h : v = j
    · subst h
      rw [if_pos rfl, if_pos List.mem_cons_self]
      by_cases hl : v < σ.length
      · rw [if_pos hl, List.getElem?_eq_getElem hl]
        rfl
      · rw [if_neg hl, List.getElem?_eq_none (by omega)]
        rfl
    · rw [if_neg h, wipe_get σ j vs]
      by_cases hm : j ∈ vs
      · rw [if_pos hm, if_pos (List.mem_cons_of_mem _ hm)]
      · rw [if_neg hm, if_neg fun q => (List.mem_cons.mp q).elim (fun e => h e.symm) hm]
theorem wipe_set {σ : L2.St} {i : Nat} {o : Option V} {vs : List Nat} (h : i ∈ vs) : wipe (σ.set i o) vs = wipe σ vs := by
  refine List.ext_getElem? fun j => ?_
  rw [wipe_get, wipe_get]
  by_cases hj : j ∈ vs
  · rw [if_pos hj, if_pos hj, List.getElem?_set]
    split
    · rename_i e
      subst e
      split
      · rename_i hl
        rw [List.getElem?_eq_getElem hl]
        rfl
      · rename_i hl
        rw [List.getElem?_eq_none (by omega)]
    · rfl
  · rw [if_neg hj, if_neg hj, List.getElem?_set_ne]
    rintro rfl
    exact hj h
theorem wipe_wipe (σ : L2.St) (vs : List Nat) : wipe (wipe σ vs) vs = wipe σ vs := by
  refine List.ext_getElem? fun j => ?_
  rw [wipe_get, wipe_get]
  by_cases hj : j ∈ vs
  · rw [if_pos hj, if_pos hj]
    cases σ[j]? <;> rfl
  · rw [if_neg hj, if_neg hj]
def wipeE (env : Ev) : List Nat → Ev
  | [] => env
  | v :: vs => (wipeE env vs).set v .un
theorem wipeE_length (env : Ev) : ∀ vs : List Nat, (wipeE env vs).length = env.length
  | [] => rfl
  | v :: vs => by
    show ((wipeE env vs).set v .un).length = env.length
    rw [List.length_set, wipeE_length env vs]
theorem wipeE_out (env : Ev) (j : Nat) : ∀ vs : List Nat, j ∉ vs → (wipeE env vs)[j]? = env[j]?
  | [], _ => rfl
  | v :: vs, h => by
    unfold wipeE
    rw [List.getElem?_set_ne fun e => h (by rw [e]; exact List.mem_cons_self), wipeE_out env j vs fun m => h (List.mem_cons_of_mem _ m)]
section
variable {K : PySem.W.Frag} {H0 : Hp} {W W1 W' : Wd} {σ : L2.St} {H H1 H' : Hp} {env : Ev} {b : Nat}
theorem ER.putV' {i : Nat} {x : PV} {v : V} (r : ER K H0 W σ H env) (h : RV K W x v) : ER K H0 W (σ.set i (some v)) H (env.set i (.v x)) := by
  by_cases hi : i < env.length
  · exact r.putV hi h
  · rw [List.set_eq_of_length_le (by have := r.len; omega), List.set_eq_of_length_le (by omega)]
    exact r
theorem ER.putU' {i : Nat} {o : Option V} (r : ER K H0 W σ H env) : ER K H0 W (σ.set i o) H (env.set i .un) := by
  by_cases hi : i < env.length
  · exact r.putU hi
  · rw [List.set_eq_of_length_le (by have := r.len; omega), List.set_eq_of_length_le (by omega)]
    exact r
theorem ER.wipe (r : ER K H0 W σ H env) : ∀ vs : List Nat, ER K H0 W (L2.wipe σ vs) H (wipeE env vs)
  | [] => r
  | v :: vs => (ER.wipe r vs).putU'
theorem setAll_agree : ∀ (is : List Nat) (xs : List PyData) (e1 e2 : Ev), is.length = xs.length → e1.length = e2.length → (∀ j, j ∉ is → e1[j]? = e2[j]?) → setAll is xs e1 = setAll is xs e2
  | [], [], e1, e2, _, hl, h => List.ext_getElem? fun j => h j (by simp)
  | i :: is, x :: xs, e1, e2, hz, hl, h => by
    unfold setAll
    refine setAll_agree is xs _ _ (by simpa using hz) (by simpa using hl) fun j hj => ?_
    by_cases e : i = j
    · subst e
      rw [List.getElem?_set, List.getElem?_set, hl, if_pos rfl, if_pos rfl]
    · rw [List.getElem?_set_ne e, List.getElem?_set_ne e]
      exact h j fun m => (List.mem_cons.mp m).elim (fun q => e q.symm) hj
  | [], _ :: _, _, _, hz, _, _ => by simp at hz
  | _ :: _, [], _, _, hz, _, _ => by simp at hz
theorem asgT_agree {tg : MT} {x : PyData} {e1 e2 e' : Ev} (hl : e1.length = e2.length) (h : ∀ j, j ∉ slotsT tg → e1[j]? = e2[j]?) (ha : asgT tg x e1 = T.ret e') : asgT tg x e2 = T.ret e' := by
  cases tg with
  | nm i =>
    cases ret_inj ha
    show T.ret _ = T.ret _
    congr 1
    refine List.ext_getElem? fun j => ?_
    rw [List.getElem?_set, List.getElem?_set, hl]
    split
    · rfl
    · rename_i e
      exact (h j (by simp [slotsT]; exact fun q => e q.symm)).symm
  | tp is =>
    obtain ⟨xs, hx, ha⟩ := bind_ret_inv ha
    obtain ⟨hz, ha⟩ := need_ret ha
    show (asTup x >>= fun xs => need (xs.length = is.length) >>= fun _ => T.ret (setAll is xs e2)) = T.ret e'
    rw [hx]
    show (need (xs.length = is.length) >>= fun _ => T.ret (setAll is xs e2)) = T.ret e'
    rw [need_pos hz]
    show T.ret (setAll is xs e2) = T.ret e'
    rw [← ha, setAll_agree is xs e1 e2 hz.symm hl h]
theorem asgT_len {tg : MT} {x : PyData} {e1 e' : Ev} (ha : asgT tg x e1 = T.ret e') : e'.length = e1.length := by
  have sl : ∀ (is : List Nat) (xs : List PyData) (e : Ev), (setAll is xs e).length = e.length := by
    intro is
    induction is with
    | nil => intro xs e; cases xs <;> rfl
    | cons i is ih =>
      intro xs e
      cases xs with
      | nil => rfl
      | cons x xs =>
        unfold setAll
        rw [ih, List.length_set]
  cases tg with
  | nm i =>
    cases ret_inj ha
    rw [List.length_set]
  | tp is =>
    obtain ⟨xs, hx, ha⟩ := bind_ret_inv ha
    obtain ⟨hz, ha⟩ := need_ret ha
    rw [← ret_inj ha, sl]
theorem plain_asgT {tg : MT} {x : PyData} {e1 : Ev} : Plain (asgT tg x e1) := by
  cases tg with
  | nm i => exact plain_ret _
  | tp is =>
    refine plain_bind ?_ fun xs => plain_bind plain_need fun _ => plain_ret _
    cases x <;> first | exact plain_ret _ | exact plain_stuck
theorem gNs_run {Q : L2.St → Hp → Prop} : ∀ (is : List Nat) (xs : List PyData) (vs : List V) (σ : L2.St) (env : Ev), ER K H0 W σ H env → DvAll K W.F vs xs → xs.length = is.length →
    (∀ σ', ER K H0 W σ' H (setAll is xs env) → (∀ ws, (∀ i ∈ is, i ∈ ws) → wipe σ' ws = wipe σ ws) → Q σ' H) → gNs is vs σ H Q
  | [], [], _, σ, env, r, q, _, hQ => by
    cases q
    exact ⟨rfl, hQ σ r fun _ _ => rfl⟩
  | i :: is, x :: xs, _, σ, env, r, q, hz, hQ => by
    cases q with
    | cons a b =>
      refine ⟨_, _, rfl, ?_⟩
      refine gNs_run is xs _ _ (env.set i (.v (.d x))) (r.putV' (.d a)) b (by simpa using hz) fun σ' r' hw => hQ σ' r' fun ws hm => ?_
      rw [hw ws fun j hj => hm j (List.mem_cons_of_mem _ hj), wipe_set (hm i List.mem_cons_self)]
  | [], _ :: _, _, _, _, _, _, hz, _ => by simp at hz
  | _ :: _, [], _, _, _, _, _, hz, _ => by simp at hz
theorem tg_run {tg : MT} {v : V} {d : PyData} {env' : Ev} {Q : L2.St → Hp → Prop} (S : SR K W b H) (r : ER K H0 W σ H env) (hv : RV K W (.d d) v) (h : asgT tg d env = T.ret env')
    (hQ : ∀ σ', ER K H0 W σ' H env' → (∀ ws, (∀ i ∈ slotsT tg, i ∈ ws) → wipe σ' ws = wipe σ ws) → Q σ' H) : tgG K tg v σ H Q := by
  cases tg with
  | nm i =>
    cases ret_inj h
    exact hQ _ (r.putV' hv) fun ws hm => wipe_set (hm i (by simp [slotsT]))
  | tp is =>
    obtain ⟨xs, hx, h1⟩ := bind_ret_inv h
    obtain ⟨hz, h2⟩ := need_ret h1
    have h3 := ret_inj h2
    subst h3
    cases d with
    | tuple ys =>
      have h4 : ys = xs := ret_inj hx
      subst h4
      cases hv with
      | d hv =>
        cases hv with
        | tup e z q =>
          exact .inl ⟨_, _, rfl, S.f.sqT e.1, q.length.trans hz, gNs_run is _ _ σ env r q hz hQ⟩
    | list ys =>
      have h4 : ys = xs := ret_inj hx
      subst h4
      cases hv with
      | d hv =>
        cases hv with
        | lst e z q =>
          exact .inr ⟨_, _, rfl, SqL.of (S.f _ _ e), q.length.trans hz, gNs_run is _ _ σ env r q hz hQ⟩
    | _ => cases hx
end
section
variable {G : Gf} {c : Ck} {sc : Scope} {X : Cx} {Γ : Ga} {pos : Pos}
def Ga.nx (Γ : Ga) : Ga := { Γ with wx := fun _ _ _ _ => False }
/-- one item of a comprehension -/
def lcF (C : Ctx) (tg : MT) (tst : Ev → T Bool) (m : ME) (env : Ev) : PyData → T (Option PyData) := fun x => nox (asgT tg x env >>= fun env' => tst env' >>= fun p => if p then denE C m env' >>= fun v => asD v >>= fun y => T.ret (some y) else T.ret none)
theorem td_lcC {own : List (Str × Nat)} {tg : MT} {it : MI} {g : Bool} {tst : Ev → T Bool} {m : ME} {tt' : TT} {tm : Ev → T PV} {σ : L2.St} {H : Hp} {Q : VK} (hK : Γ.K = X.K) (hv : own.map (·.2) = slotsT tg) (htt : ∀ σ H Q, TD Γ.nx mB tst σ H Q → tt' σ H Q)
    (hd : ∀ env, tm env = denI G.C it env >>= fun xs => guardL g xs >>= fun _ => filT (lcF G.C tg tst m env) xs >>= fun ys => T.ret (.d (.list ys)))
    (q : TD Γ (mN Γ.K) tm σ H Q) : tLc (TD Γ (mI false Γ.K) (denI G.C it)) (tgG X.K tg) tt' (TD Γ.nx (mV Γ.K) (denE G.C m)) (own.map (·.2)) σ H Q := by
  obtain ⟨W, b0, env, S, X0, r, k⟩ := q
  rw [hd] at k
  refine Wc.step mono_mN S X0 r k fun b1 xs W1 H1 J e1 S1 ⟨hz, Gd, Y, wk, later⟩ k => ?_
  have k : Wc (postQ Γ (mN Γ.K) W1 H1 Q) (postE Γ σ W1 H1) b1 (filT (lcF G.C tg tst m env) xs >>= fun ys => T.ret (.d (.list ys))) := by
    unfold guardL at k
    split at k
    · exact (need_Wc k).2
    · exact k
  intro D hD
  have X1 := X0.trans e1 S1
  have r1 := r.ext e1
  refine lc_it wk (fun i H2 => ∃ W2 b2 acc ys, Ext W1 H1 W2 H2 ∧ SR Γ.K W2 b2 H2 ∧ H2 D = some (.lst acc) ∧ W2.F D = none ∧ ¬ W2.isG D ∧ acc.length ≤ i ∧ DvAll Γ.K W2.F acc ys ∧
    Wc (postQ Γ (mN Γ.K) W1 H1 Q) (postE Γ σ W1 H1) b2 (filT (lcF G.C tg tst m env) (xs.drop i) >>= fun zs => T.ret (.d (.list (ys ++ zs))))) ?_ (fun i H2 hi ⟨W2, b2, acc, ys, e2, S2, _⟩ => (later W2 b2 H2 e2 S2).1) (fun i x H2 H3 hi ⟨W2, b2, acc, ys, e2, S2, hl, hF, hG, ha, hq, k⟩ y => ?_) fun H2 ⟨W2, b2, acc, ys, e2, S2, hl, hF, hG, ha, hq, k⟩ => ?_
  · exact ⟨W1, b1, [], [], Ext.laid hD, S1.laid hD, upd_same, S1.noF hD, S1.notG hD, Nat.le_refl _, .nil, by rw [List.drop_zero]; simpa using k⟩
  · obtain ⟨W3, d, e3, S3, hdx, rv⟩ := (later W2 b2 H2 e2 S2).2 i x H3 hi y
    have hdr : xs.drop i = d :: xs.drop (i + 1) := by
      rw [List.drop_eq_getElem_cons hi]
      rw [List.getElem?_eq_getElem hi] at hdx
      cases hdx
      rfl
    rw [hdr] at k
    have k := (show Wc (postQ Γ (mN Γ.K) W1 H1 Q) (postE Γ σ W1 H1) b2 ((lcF G.C tg tst m env d >>= fun y => filT (lcF G.C tg tst m env) (xs.drop (i + 1)) >>= fun ys => T.ret (optC y ys)) >>= fun zs => T.ret (.d (.list (ys ++ zs)))) from k)
    rw [T.assoc] at k
    have k := (T.Wc_bind _ _).mp k
    obtain ⟨env', ea, k⟩ := Wc_plain plain_asgT (Wc_nox (E' := fun _ _ => False) _ _ k)
    have X3 := (X1.trans e2 S2).trans e3 S3
    have r3 := ((r1.ext e2).ext e3).wipe (own.map (·.2))
    have ea' : asgT tg d (wipeE env (own.map (·.2))) = T.ret env' := asgT_agree (by rw [wipeE_length]) (fun j hj => by rw [wipeE_out _ _ _ (by rw [hv]; exact hj)]) ea
    rw [← hK]
    refine tg_run S3 r3 rv ea' fun σ2 r4 hw => ⟨(hw (own.map (·.2)) fun j hj => by rw [hv]; exact hj).trans (wipe_wipe _ _), ?_⟩
    refine htt σ2 H3 _ ⟨W3, b2, env', S3, X3, r4, ?_⟩
    refine T.Wc.mono (fun b3 p hp W4 H4 p' e4 S4 ep => ?_) (fun _ _ z => z.elim) _ _ ((T.Wc_bind _ _).mp k)
    obtain rfl : p = p' := ep
    have e24 := e3.trans e4 S4
    cases p with
    | false =>
      have hp := (show Wc _ _ b3 (filT (lcF G.C tg tst m env) (xs.drop (i + 1)) >>= fun zs => T.ret (PV.d (.list (ys ++ zs)))) by
        have z : Wc (postQ Γ (mN Γ.K) W1 H1 Q) (postE Γ σ W1 H1) b3 ((filT (lcF G.C tg tst m env) (xs.drop (i + 1)) >>= fun ys => T.ret ys) >>= fun zs => T.ret (.d (.list (ys ++ zs)))) := hp
        rw [T.assoc] at z
        exact z)
      exact ⟨W4, b3, acc, ys, e2.trans e24 S4, S4, (e24.keep hl hG).1, e24.unf hl hF, (e24.keep hl hG).2, by omega, hq.le e24.le.f, hp⟩
    | true =>
      refine ⟨W4, b3, env', S4, X3.trans e4 S4, r4.ext e4, ?_⟩
      have hp : Wc (fun b y => Wc (postQ Γ (mN Γ.K) W1 H1 Q) (postE Γ σ W1 H1) b ((filT (lcF G.C tg tst m env) (xs.drop (i + 1)) >>= fun ys => T.ret (optC y ys)) >>= fun zs => T.ret (.d (.list (ys ++ zs))))) (fun _ _ => False) b3
        (denE G.C m env' >>= fun v => asD v >>= fun y => T.ret (some y)) := hp
      refine T.Wc.mono (fun b4 v hv4 W5 H5 u e5 S5 q5 => ?_) (fun _ _ z => z.elim) _ _ ((T.Wc_bind _ _).mp hp)
      obtain ⟨yd, ey, hv4⟩ := Wc_plain plain_asD hv4
      rw [asD_ret ey] at q5
      have q5' : RV Γ.K W5 (.d yd) u := q5
      have e25 := e24.trans e5 S5
      have kp := e25.keep hl hG
      refine ⟨acc, kp.1, Nat.lt_of_lt_of_le (Nat.lt_of_le_of_lt ha hi) hz, W5, b4, acc ++ [u], ys ++ [yd], (e2.trans e25 S5).write hD, S5.write (e25.unf hl hF) kp.2, upd_same, e25.unf hl hF, kp.2, by rw [List.length_append]; simp; omega, ?_, ?_⟩
      · cases q5' with
        | d q5 => exact (hq.le e25.le.f).append (.cons q5 .nil)
      · have z : Wc (postQ Γ (mN Γ.K) W1 H1 Q) (postE Γ σ W1 H1) b4 ((filT (lcF G.C tg tst m env) (xs.drop (i + 1)) >>= fun zs => T.ret (yd :: zs)) >>= fun zs => T.ret (.d (.list (ys ++ zs)))) := hv4
        rw [T.assoc] at z
        simpa using z
  · rw [List.drop_length] at k
    have k : Wc (postQ Γ (mN Γ.K) W1 H1 Q) (postE Γ σ W1 H1) b2 (T.ret (.d (.list (ys ++ [])))) := k
    rw [List.append_nil] at k
    exact k W2 H2 (.ref D) e2 S2 ⟨D, acc, ys, rfl, rfl, hD, hl, hF, hG, by omega, hq⟩
theorem s_lcC {s : Scope} {own : List (Str × Nat)} {t iter elt : Expr} {ifs : List Expr} {tg : MT} {it : MI} {g : Bool} {tst : Ev → T Bool} {m : ME} {tt' : TT} {tm : Ev → T PV} (o : XOk G c sc X) (hot : c.hot = false) (hK : Γ.K = X.K) (hi : PI X t iter (TD Γ (mI false Γ.K) (denI G.C it)))
    (ok : BlkOk X.N X.env.scope s own) (hv : own.map (·.2) = slotsT tg)
    (hg : ∀ (s' : Shared) (H : Hp) (C : Addr) (cl : List (Str × Addr)) (fp : List Addr), PG (X.blk s' H s (compEnvC s cl C X.env) fp) t (tgG X.K tg))
    (ht : ∀ (s' : Shared) (H : Hp) (C : Addr) (cl : List (Str × Addr)) (fp : List Addr), PTs (X.blk s' H s (compEnvC s cl C X.env) fp) ifs tt') (htt : ∀ σ H Q, TD Γ.nx mB tst σ H Q → tt' σ H Q)
    (he : ∀ (s' : Shared) (H : Hp) (C : Addr) (cl : List (Str × Addr)) (fp : List Addr), PE (X.blk s' H s (compEnvC s cl C X.env) fp) elt (TD Γ.nx (mV Γ.K) (denE G.C m)))
    (hs : ∀ x, foldedSetIterable iter X.env x = pure x)
    (hd : ∀ env, tm env = denI G.C it env >>= fun xs => guardL g xs >>= fun _ => filT (lcF G.C tg tst m env) xs >>= fun ys => T.ret (.d (.list ys))) :
    PE X (.ListComp elt [⟨t, iter, ifs, 0⟩] s pos) (TD Γ (mN Γ.K) tm) := by
  exact (pe_lc (o.calm hot) (by rw [o.hN]; exact o.nd) hi ok hg ht he hs).imp fun σ H Q q => td_lcC hK hv htt hd q
theorem ps_lcC {i : Nat} {y : Str} {py spos : Pos} {s : Scope} {own : List (Str × Nat)} {t iter elt : Expr} {ifs : List Expr} {tg : MT} {it : MI} {g : Bool} {tst : Ev → T Bool} {m : ME} {tt' : TT} {tm : Ev → T PV} (o : XOk G c sc X) (hot : c.hot = false) (hy : X.N[i]? = some y) (hyl : X.env.scope.names.lookup y = some .local) (hsw : swapsWith (.ListComp elt [⟨t, iter, ifs, 0⟩] s pos) (some (.Name y py)) spos.line X.env = pure true) (hK : Γ.K = X.K) (hi : PI X t iter (TD Γ (mI false Γ.K) (denI G.C it)))
    (ok : BlkOk X.N X.env.scope s own) (hv : own.map (·.2) = slotsT tg)
    (hg : ∀ (s' : Shared) (H : Hp) (C : Addr) (cl : List (Str × Addr)) (fp : List Addr), PG (X.blk s' H s (compEnvC s cl C X.env) fp) t (tgG X.K tg))
    (ht : ∀ (s' : Shared) (H : Hp) (C : Addr) (cl : List (Str × Addr)) (fp : List Addr), PTs (X.blk s' H s (compEnvC s cl C X.env) fp) ifs tt') (htt : ∀ σ H Q, TD Γ.nx mB tst σ H Q → tt' σ H Q)
    (he : ∀ (s' : Shared) (H : Hp) (C : Addr) (cl : List (Str × Addr)) (fp : List Addr), PE (X.blk s' H s (compEnvC s cl C X.env) fp) elt (TD Γ.nx (mV Γ.K) (denE G.C m)))
    (hs : ∀ x, foldedSetIterable iter X.env x = pure x)
    (hd : ∀ env, tm env = denI G.C it env >>= fun xs => guardL g xs >>= fun _ => filT (lcF G.C tg tst m env) xs >>= fun ys => T.ret (.d (.list ys))) :
    PS X (.Assign [.Name y py] (.ListComp elt [⟨t, iter, ifs, 0⟩] s pos) spos) (tAsg (TD Γ (mN Γ.K) tm) (gName i)) := by
  exact (ps_setLc (o.calm hot) (by rw [o.hN]; exact o.nd) hy hyl hsw hi ok hg ht he hs).imp fun D σ H q => td_lcC hK hv htt hd q
end
end Mp
namespace Mp
open PySem PySem.Spec PyProof.Rows L2
open Mp.T (Wc)
theorem it_gen {J : It} {n : Nat} {Gd : Hp → Prop} {Y : Nat → Hp → V → Hp → Prop} (w : Walk J n Gd Y) {H0 : Hp} {Qd : Hp → Prop} {B : V → Hp → (Hp → Prop) → Prop} (Pv : Nat → Hp → Prop) (h0 : Pv 0 H0) (hG : ∀ i H, i ≤ n → Pv i H → Gd H)
    (hs : ∀ i x H H', i < n → Pv i H → Y i H x H' → B x H' (Pv (i + 1))) (hd : ∀ H, Pv n H → Qd H) :
    ∃ W : Nat → Nat → Hp → Prop, (∃ m, W 0 m H0) ∧ ∀ i m H, W i m H → (J.stop i H ∧ Qd H) ∨ (J.go i H ∧ ∃ Nx : Hp → Prop, (∀ H', Nx H' → ∃ m', m' < m ∧ W (i + 1) m' H') ∧ ∀ x H', J.yld i H x H' → B x H' Nx) := by
  refine ⟨fun i m H => m = n - i ∧ i ≤ n ∧ Pv i H, ⟨n, by simp, Nat.zero_le _, h0⟩, ?_⟩
  rintro i m H ⟨rfl, hi, p⟩
  have q := hG i H hi p
  by_cases hlt : i < n
  · exact .inr ⟨w.goes i H hlt q, Pv (i + 1), fun H' p' => ⟨n - (i + 1), by omega, rfl, hlt, p'⟩, fun x H' y => hs i x H H' hlt p (w.yields i H x H' hlt q y)⟩
  · have e : i = n := by omega
    subst e
    exact .inl ⟨w.stops H q, hd H p⟩
section
variable {G : Gf} {c : Ck} {sc : Scope} {X : Cx} {Γ : Ga} {pos : Pos}
def lcF2 (C : Ctx) (t1 t2 : MT) (i2 : MI) (m : ME) (env : Ev) : PyData → T (List PyData) := fun x => nox (asgT t1 x (unT t2 (env.map noOwn)) >>= fun env' => denI C i2 env' >>= fun ys => need (ys.length ≤ 4096) >>= fun _ => mapT (fun y => asgT t2 y env' >>= fun env'' => denE C m env'' >>= asD) ys)
theorem unT_length (tg : MT) (env : Ev) : (unT tg env).length = env.length := by
  cases tg with
  | nm i => exact List.length_set
  | tp is =>
    show (is.foldl (fun e i => e.set i .un) env).length = env.length
    induction is generalizing env with
    | nil => rfl
    | cons i is ih => rw [List.foldl_cons, ih, List.length_set]
theorem unT_out (tg : MT) (env : Ev) (j : Nat) (h : j ∉ slotsT tg) : (unT tg env)[j]? = env[j]? := by
  cases tg with
  | nm i =>
    show (env.set i .un)[j]? = env[j]?
    rw [List.getElem?_set_ne fun e => h (by rw [e]; simp [slotsT])]
  | tp is =>
    have h : j ∉ is := h
    show (is.foldl (fun e i => e.set i .un) env)[j]? = env[j]?
    induction is generalizing env with
    | nil => rfl
    | cons i is ih =>
      have h1 : j ∉ is := fun m => h (List.mem_cons_of_mem _ m)
      rw [List.foldl_cons, ih _ h1 h1, List.getElem?_set_ne fun e => h (by rw [e]; exact List.mem_cons_self)]
theorem unT_in (tg : MT) (env : Ev) (j : Nat) (h : j ∈ slotsT tg) : (unT tg env)[j]? = (env[j]?).map fun _ => Slot.un := by
  have one : ∀ (env : Ev) (i : Nat), (env.set i Slot.un)[i]? = (env[i]?).map fun _ => Slot.un := fun env i => by
    rw [List.getElem?_set]
    by_cases hl : i < env.length
    · rw [if_pos rfl, if_pos hl, List.getElem?_eq_getElem hl]
      rfl
    · rw [if_pos rfl, if_neg hl, List.getElem?_eq_none (by omega)]
      rfl
  cases tg with
  | nm i =>
    have e : j = i := by simpa [slotsT] using h
    subst e
    exact one env j
  | tp is =>
    have h : j ∈ is := h
    show (is.foldl (fun e i => e.set i .un) env)[j]? = _
    induction is generalizing env with
    | nil => cases h
    | cons i is ih =>
      rw [List.foldl_cons]
      by_cases hm : j ∈ is
      · rw [ih _ hm hm]
        by_cases e : i = j
        · subst e
          rw [one]
          cases env[i]? <;> rfl
        · rw [List.getElem?_set_ne e]
      · have e : j = i := (List.mem_cons.mp h).resolve_right hm
        subst e
        have z := unT_out (.tp is) (env.set j .un) j hm
        have z : (is.foldl (fun e i => e.set i .un) (env.set j .un))[j]? = (env.set j .un)[j]? := z
        rw [z, one]
theorem wipeE_in (env : Ev) (j : Nat) : ∀ vs : List Nat, j ∈ vs → (wipeE env vs)[j]? = (env[j]?).map fun _ => Slot.un
  | v :: vs, h => by
    unfold wipeE
    by_cases e : v = j
    · subst e
      rw [List.getElem?_set, wipeE_length]
      by_cases hl : v < env.length
      · rw [if_pos rfl, if_pos hl, List.getElem?_eq_getElem hl]
        rfl
      · rw [if_pos rfl, if_neg hl, List.getElem?_eq_none (by omega)]
        rfl
    · rw [List.getElem?_set_ne e]
      exact wipeE_in env j vs ((List.mem_cons.mp h).resolve_left fun q => e q.symm)
theorem map_noOwn (env : Ev) : (env.map noOwn).map noOwn = env.map noOwn := by
  rw [List.map_map]
  refine List.map_congr_left fun s _ => ?_
  cases s <;> rfl
theorem unT_noOwn {tg : MT} {env : Ev} (h : env.map noOwn = env) : (unT tg env).map noOwn = unT tg env := by
  cases tg with
  | nm i =>
    show (env.set i .un).map noOwn = env.set i .un
    rw [List.map_set, h]
    rfl
  | tp is =>
    show (is.foldl (fun e i => e.set i .un) env).map noOwn = is.foldl (fun e i => e.set i .un) env
    induction is generalizing env with
    | nil => exact h
    | cons i is ih =>
      rw [List.foldl_cons]
      exact ih (by rw [List.map_set, h]; rfl)
theorem asgT_noOwn {tg : MT} {x : PyData} {env env' : Ev} (h : env.map noOwn = env) (ha : asgT tg x env = T.ret env') : env'.map noOwn = env' := by
  have sl : ∀ (is : List Nat) (xs : List PyData) (e : Ev), e.map noOwn = e → (setAll is xs e).map noOwn = setAll is xs e := by
    intro is
    induction is with
    | nil => intro xs e h; cases xs <;> exact h
    | cons i is ih =>
      intro xs e h
      cases xs with
      | nil => exact h
      | cons x xs => exact ih xs _ (by rw [List.map_set, h]; rfl)
  cases tg with
  | nm i =>
    cases ret_inj ha
    rw [List.map_set, h]
    rfl
  | tp is =>
    obtain ⟨xs, hx, ha⟩ := bind_ret_inv ha
    obtain ⟨hz, ha⟩ := need_ret ha
    rw [← ret_inj ha]
    exact sl _ _ _ h
theorem _root_.Mp.ER.noOwn {K : PySem.W.Frag} {H0 H : Hp} {W : Wd} {σ : L2.St} {env : Ev} (r : ER K H0 W σ H env) : ER K H0 W σ H (env.map noOwn) := by
  obtain ⟨hl, fp, h1, h2, h3, h4⟩ := r
  refine ⟨hl.trans (List.length_map _).symm, fun _ => [], fun i => ?_, fun i a ha => (by cases ha), fun _ => .nil, fun i j a ha => (by cases ha)⟩
  rw [at_map _ rfl]
  have s := h1 i
  generalize env.at i = si at s
  generalize fp i = fi at s
  generalize σ[i]? = oi at s
  cases s with
  | un => exact .un
  | v q => exact .v q
  | own _ _ _ => exact .un
  | own2 _ _ _ => exact .un
theorem _root_.Mp.ER.leV {K : PySem.W.Frag} {H0 H H' : Hp} {W W' : Wd} {σ : L2.St} {env : Ev} (r : ER K H0 W σ H env) (h : env.map noOwn = env) (l : W.Le W') : ER K H0 W' σ H' env := by
  obtain ⟨hl, fp, h1, h2, h3, h4⟩ := r
  refine ⟨hl, fun _ => [], fun i => ?_, fun i a ha => (by cases ha), fun _ => .nil, fun i j a ha => (by cases ha)⟩
  have e : env.at i = noOwn (env.at i) := by
    rw [← at_map noOwn rfl, h]
  have s := h1 i
  generalize env.at i = si at s e
  generalize fp i = fi at s
  generalize σ[i]? = oi at s
  cases s with
  | un => exact .un
  | v q => exact .v (q.le l)
  | own _ _ _ => cases e
  | own2 _ _ _ => cases e
theorem td_lc2C {own : List (Str × Nat)} {tg tg2 : MT} {it it2 : MI} {m : ME} {g : Bool} {σ : L2.St} {H : Hp} {Q : VK} (hK : Γ.K = X.K) (hv : own.map (·.2) = slotsT tg ++ slotsT tg2) (q : TD Γ (mN Γ.K) (denE G.C (.lc2 g tg it tg2 it2 m)) σ H Q) :
    tLc2 (TD Γ (mI false Γ.K) (denI G.C it)) (tgG X.K tg) tYes (TD Γ.nx (mI true Γ.K) (denI G.C it2)) (tgG X.K tg2) tYes (TD Γ.nx (mV Γ.K) (denE G.C m)) (own.map (·.2)) (slotsT tg2) σ H Q := by
  obtain ⟨W, b0, env, S, X0, r, k⟩ := q
  have hd : denE G.C (.lc2 g tg it tg2 it2 m) env = denI G.C it env >>= fun xs => need (xs.length ≤ 4096) >>= fun _ => appT (lcF2 G.C tg tg2 it2 m env) xs >>= fun ys => T.ret (.d (.list ys)) := by rw [denE]; rfl
  rw [hd] at k
  refine Wc.step mono_mN S X0 r k fun b1 xs W1 H1 J e1 S1 ⟨hz, Gd, Y, wk, later⟩ k => ?_
  obtain ⟨hxs, k⟩ := need_Wc k
  intro D hD
  have X1 := X0.trans e1 S1
  have r1 := r.ext e1
  refine it_gen wk (fun i H2 => ∃ W2 b2 acc ys, Ext W1 H1 W2 H2 ∧ SR Γ.K W2 b2 H2 ∧ H2 D = some (.lst acc) ∧ W2.F D = none ∧ ¬ W2.isG D ∧ acc.length ≤ i * 4096 ∧ DvAll Γ.K W2.F acc ys ∧
    Wc (postQ Γ (mN Γ.K) W1 H1 Q) (postE Γ σ W1 H1) b2 (appT (lcF2 G.C tg tg2 it2 m env) (xs.drop i) >>= fun zs => T.ret (.d (.list (ys ++ zs))))) ?_ (fun i H2 hi ⟨W2, b2, acc, ys, e2, S2, _⟩ => (later W2 b2 H2 e2 S2).1) (fun i x H2 H3 hi ⟨W2, b2, acc, ys, e2, S2, hl, hF, hG, ha, hq, k⟩ y => ?_) fun H2 ⟨W2, b2, acc, ys, e2, S2, hl, hF, hG, ha, hq, k⟩ => ?_
  · exact ⟨W1, b1, [], [], Ext.laid hD, S1.laid hD, upd_same, S1.noF hD, S1.notG hD, Nat.zero_le _, .nil, by rw [List.drop_zero]; simpa using k⟩
  · obtain ⟨W3, d, e3, S3, hdx, rv⟩ := (later W2 b2 H2 e2 S2).2 i x H3 hi y
    have hdr : xs.drop i = d :: xs.drop (i + 1) := by
      rw [List.drop_eq_getElem_cons hi]
      rw [List.getElem?_eq_getElem hi] at hdx
      cases hdx
      rfl
    rw [hdr] at k
    have k := (show Wc (postQ Γ (mN Γ.K) W1 H1 Q) (postE Γ σ W1 H1) b2 ((lcF2 G.C tg tg2 it2 m env d >>= fun y => appT (lcF2 G.C tg tg2 it2 m env) (xs.drop (i + 1)) >>= fun ys => T.ret (y ++ ys)) >>= fun zs => T.ret (.d (.list (ys ++ zs)))) from k)
    rw [T.assoc] at k
    have k := (T.Wc_bind _ _).mp k
    obtain ⟨env', ea, k⟩ := Wc_plain plain_asgT (Wc_nox (E' := fun _ _ => False) _ _ k)
    have X3 := (X1.trans e2 S2).trans e3 S3
    have r3 := ((r1.ext e2).ext e3).noOwn.wipe (own.map (·.2))
    have ea' : asgT tg d (wipeE (env.map noOwn) (own.map (·.2))) = T.ret env' := asgT_agree (by rw [wipeE_length, unT_length]) (fun j hj => by
      by_cases h2 : j ∈ slotsT tg2
      · rw [unT_in _ _ _ h2, wipeE_in _ _ _ (by rw [hv]; exact List.mem_append_right _ h2)]
      · rw [unT_out _ _ _ h2, wipeE_out _ _ _ (by rw [hv]; exact fun h => (List.mem_append.mp h).elim hj h2)]) ea
    rw [← hK]
    refine tg_run S3 r3 rv ea' fun σ2 r4 hw => ⟨(hw (own.map (·.2)) fun j hj => by rw [hv]; exact List.mem_append_left _ hj).trans (wipe_wipe _ _), ?_⟩
    show TD Γ.nx (mI true Γ.K) (denI G.C it2) σ2 H3 _
    refine ⟨W3, b2, env', S3, X3, r4, ?_⟩
    refine T.Wc.mono (fun b3 zs hp W4 H4 J4 e4 S4 ⟨hz4, Gd4, Y4, wk4, later4⟩ => ?_) (fun _ _ z => z.elim) _ _ ((T.Wc_bind _ _).mp k)
    obtain ⟨hzs, hp⟩ := need_Wc hp
    have e24 := e3.trans e4 S4
    have X4 := X3.trans e4 S4
    have r5 := r4.ext e4
    have hno : env'.map noOwn = env' := asgT_noOwn (unT_noOwn (map_noOwn env)) ea
    have kp := e24.keep hl hG
    refine it_gen wk4 (fun j H5 => ∃ W5 b5 acc' ws, W4.Le W5 ∧ SR Γ.K W5 b5 H5 ∧ Ext W1 H1 W5 H5 ∧ H5 D = some (.lst acc') ∧ W5.F D = none ∧ ¬ W5.isG D ∧ acc'.length ≤ i * 4096 + j ∧ DvAll Γ.K W5.F acc' (ys ++ ws) ∧
      Wc (fun b us => Wc (postQ Γ (mN Γ.K) W1 H1 Q) (postE Γ σ W1 H1) b (appT (lcF2 G.C tg tg2 it2 m env) (xs.drop (i + 1)) >>= fun zs => T.ret (.d (.list (ys ++ (ws ++ us ++ zs)))))) (fun _ _ => False) b5
        (mapT (fun y => asgT tg2 y env' >>= fun env'' => denE G.C m env'' >>= asD) (zs.drop j))) ?_ (fun j H5 hj ⟨W5, b5, acc', ws, e5, S5, _⟩ => (later4 W5 b5 H5 e5 S5).1) (fun j x5 H5 H6 hj ⟨W5, b5, acc', ws, e5, S5, e15, hl5, hF5, hG5, ha5, hq5, k5⟩ y5 => ?_) fun H5 ⟨W5, b5, acc', ws, e5, S5, e15, hl5, hF5, hG5, ha5, hq5, k5⟩ => ?_
    · refine ⟨W4, b3, acc, [], Wd.Le.refl _, S4, e2.trans e24 S4, kp.1, e24.unf hl hF, kp.2, by omega, by rw [List.append_nil]; exact hq.le e24.le.f, ?_⟩
      rw [List.drop_zero]
      refine T.Wc.mono (fun b us hu => ?_) (fun _ _ z => z) _ _ hp
      have z : Wc (postQ Γ (mN Γ.K) W1 H1 Q) (postE Γ σ W1 H1) b ((appT (lcF2 G.C tg tg2 it2 m env) (xs.drop (i + 1)) >>= fun ys => T.ret (us ++ ys)) >>= fun zs => T.ret (.d (.list (ys ++ zs)))) := hu
      rw [T.assoc] at z
      simpa using z
    · obtain ⟨W6, d6, e6, S6, hd6, rv6⟩ := (later4 W5 b5 H5 e5 S5).2 j x5 H6 hj y5
      have hdr6 : zs.drop j = d6 :: zs.drop (j + 1) := by
        rw [List.drop_eq_getElem_cons hj]
        rw [List.getElem?_eq_getElem hj] at hd6
        cases hd6
        rfl
      rw [hdr6] at k5
      have k5 := (show Wc _ (fun _ _ => False) b5 ((asgT tg2 d6 env' >>= fun env'' => denE G.C m env'' >>= asD) >>= fun y => mapT (fun y => asgT tg2 y env' >>= fun env'' => denE G.C m env'' >>= asD) (zs.drop (j + 1)) >>= fun ys => T.ret (y :: ys)) from k5)
      rw [T.assoc] at k5
      obtain ⟨env'', ea6, k5⟩ := Wc_plain plain_asgT k5
      rw [T.assoc] at k5
      have X6 := (X1.trans e15 S5).trans e6 S6
      have r6 := ((r5.leV hno e5 (H' := H5)).ext e6).wipe (slotsT tg2)
      refine tg_run S6 r6 rv6 (asgT_agree (by rw [wipeE_length]) (fun l hl => by rw [wipeE_out _ _ _ hl]) ea6) fun σ3 r7 hw3 => ⟨(hw3 (slotsT tg2) fun l hl => hl).trans (wipe_wipe _ _), ?_⟩
      show TD Γ.nx (mV Γ.K) (denE G.C m) σ3 H6 _
      refine ⟨W6, b5, env'', S6, X6, r7, ?_⟩
      refine T.Wc.mono (fun b7 v hv7 W7 H7 u e7 S7 q7 => ?_) (fun _ _ z => z.elim) _ _ ((T.Wc_bind _ _).mp k5)
      obtain ⟨yd, ey, hv7⟩ := Wc_plain plain_asD hv7
      rw [asD_ret ey] at q7
      have q7' : RV Γ.K W7 (.d yd) u := q7
      have e57 := e6.trans e7 S7
      have kp7 := e57.keep hl5 hG5
      have nD : H4 D ≠ none := by rw [kp.1]; simp
      have hlt : acc'.length < sizeLine := by
        have h1 : i < 4096 := by omega
        have h2 : j < 4096 := by omega
        rw [sizeLine_eq]
        omega
      have lst4 : H4 D = some (.lst acc) := kp.1
      refine ⟨acc', kp7.1, hlt, W7, b7, acc' ++ [u], ws ++ [yd], e5.trans e57.le, S7.write (e57.unf hl5 hF5) kp7.2, (e15.trans e57 S7).write hD, upd_same, e57.unf hl5 hF5, kp7.2, by rw [List.length_append]; simp; omega, ?_, ?_⟩
      · cases q7' with
        | d q7 =>
          rw [← List.append_assoc]
          exact (hq5.le e57.le.f).append (.cons q7 .nil)
      · have z := (T.Wc_bind _ _).mp hv7
        refine T.Wc.mono (fun b us hu => ?_) (fun _ _ z => z) _ _ z
        have hu : Wc (postQ Γ (mN Γ.K) W1 H1 Q) (postE Γ σ W1 H1) b (appT (lcF2 G.C tg tg2 it2 m env) (xs.drop (i + 1)) >>= fun zs => T.ret (.d (.list (ys ++ (ws ++ (yd :: us) ++ zs))))) := hu
        simpa using hu
    · rw [List.drop_length] at k5
      have k5 : Wc (postQ Γ (mN Γ.K) W1 H1 Q) (postE Γ σ W1 H1) b5 (appT (lcF2 G.C tg tg2 it2 m env) (xs.drop (i + 1)) >>= fun zs' => T.ret (.d (.list (ys ++ (ws ++ [] ++ zs'))))) := k5
      refine ⟨W5, b5, acc', ys ++ ws, e15, S5, hl5, hF5, hG5, by rw [Nat.succ_mul]; omega, hq5, by simpa using k5⟩
  · rw [List.drop_length] at k
    have k : Wc (postQ Γ (mN Γ.K) W1 H1 Q) (postE Γ σ W1 H1) b2 (T.ret (.d (.list (ys ++ [])))) := k
    rw [List.append_nil] at k
    exact k W2 H2 (.ref D) e2 S2 ⟨D, acc, ys, rfl, rfl, hD, hl, hF, hG, by rw [sizeLine_eq]; omega, hq⟩
theorem s_lc2C {s : Scope} {own : List (Str × Nat)} {t iter elt t' iter' : Expr} {tg tg2 : MT} {it it2 : MI} {m : ME} {g : Bool} (o : XOk G c sc X) (hot : c.hot = false) (hK : Γ.K = X.K) (hi : PI X t iter (TD Γ (mI false Γ.K) (denI G.C it)))
    (ok : BlkOk X.N X.env.scope s own) (hv : own.map (·.2) = slotsT tg ++ slotsT tg2)
    (hg : ∀ (s' : Shared) (H : Hp) (C : Addr) (cl : List (Str × Addr)) (fp : List Addr), PG (X.blk s' H s (compEnvC s cl C X.env) fp) t (tgG X.K tg))
    (hi' : ∀ (s' : Shared) (H : Hp) (C : Addr) (cl : List (Str × Addr)) (fp : List Addr), PI (X.blk s' H s (compEnvC s cl C X.env) fp) t' iter' (TD Γ.nx (mI true Γ.K) (denI G.C it2)))
    (hg' : ∀ (s' : Shared) (H : Hp) (C : Addr) (cl : List (Str × Addr)) (fp : List Addr), PG (X.blk s' H s (compEnvC s cl C X.env) fp) t' (tgG X.K tg2))
    (he : ∀ (s' : Shared) (H : Hp) (C : Addr) (cl : List (Str × Addr)) (fp : List Addr), PE (X.blk s' H s (compEnvC s cl C X.env) fp) elt (TD Γ.nx (mV Γ.K) (denE G.C m)))
    (hs : ∀ x, foldedSetIterable iter X.env x = pure x) (hs' : ∀ env x, foldedSetIterable iter' env x = pure x) :
    PE X (.ListComp elt [⟨t, iter, [], 0⟩, ⟨t', iter', [], 0⟩] s pos) (TD Γ (mN Γ.K) (denE G.C (.lc2 g tg it tg2 it2 m))) := by
  exact (pe_lc2 (vs1 := slotsT tg2) (o.calm hot) (by rw [o.hN]; exact o.nd) hi ok (fun i h => by rw [hv]; exact List.mem_append_right _ h) hg (fun _ _ _ _ _ => pts_nil) hi' hg' (fun _ _ _ _ _ => pts_nil) he hs hs').imp fun σ H Q q => td_lc2C hK hv q
theorem ps_lc2C {i : Nat} {y : Str} {py spos : Pos} {s : Scope} {own : List (Str × Nat)} {t iter elt t' iter' : Expr} {tg tg2 : MT} {it it2 : MI} {m : ME} {g : Bool} (o : XOk G c sc X) (hot : c.hot = false) (hy : X.N[i]? = some y) (hyl : X.env.scope.names.lookup y = some .local) (hsw : swapsWith (.ListComp elt [⟨t, iter, [], 0⟩, ⟨t', iter', [], 0⟩] s pos) (some (.Name y py)) spos.line X.env = pure true) (hK : Γ.K = X.K) (hi : PI X t iter (TD Γ (mI false Γ.K) (denI G.C it)))
    (ok : BlkOk X.N X.env.scope s own) (hv : own.map (·.2) = slotsT tg ++ slotsT tg2)
    (hg : ∀ (s' : Shared) (H : Hp) (C : Addr) (cl : List (Str × Addr)) (fp : List Addr), PG (X.blk s' H s (compEnvC s cl C X.env) fp) t (tgG X.K tg))
    (hi' : ∀ (s' : Shared) (H : Hp) (C : Addr) (cl : List (Str × Addr)) (fp : List Addr), PI (X.blk s' H s (compEnvC s cl C X.env) fp) t' iter' (TD Γ.nx (mI true Γ.K) (denI G.C it2)))
    (hg' : ∀ (s' : Shared) (H : Hp) (C : Addr) (cl : List (Str × Addr)) (fp : List Addr), PG (X.blk s' H s (compEnvC s cl C X.env) fp) t' (tgG X.K tg2))
    (he : ∀ (s' : Shared) (H : Hp) (C : Addr) (cl : List (Str × Addr)) (fp : List Addr), PE (X.blk s' H s (compEnvC s cl C X.env) fp) elt (TD Γ.nx (mV Γ.K) (denE G.C m)))
    (hs : ∀ x, foldedSetIterable iter X.env x = pure x) (hs' : ∀ env x, foldedSetIterable iter' env x = pure x) :
    PS X (.Assign [.Name y py] (.ListComp elt [⟨t, iter, [], 0⟩, ⟨t', iter', [], 0⟩] s pos) spos) (tAsg (TD Γ (mN Γ.K) (denE G.C (.lc2 g tg it tg2 it2 m))) (gName i)) := by
  exact (ps_setLc2 (vs1 := slotsT tg2) (o.calm hot) (by rw [o.hN]; exact o.nd) hy hyl hsw hi ok (fun i h => by rw [hv]; exact List.mem_append_right _ h) hg (fun _ _ _ _ _ => pts_nil) hi' hg' (fun _ _ _ _ _ => pts_nil) he hs hs').imp fun D σ H q => td_lc2C hK hv q
end
end Mp
namespace Mp
open PySem PySem.Spec PyProof.Rows L2
open Mp.T (Wc)
variable {G : Gf} {c : Ck}
structure SE (G : Gf) (c : Ck) (m : ME) : Prop where
  pe : ∀ {X : Cx} {sc : Scope} {Γ : Ga} {e : Expr}, XOk G c sc X → Γ.K = G.K → XrOk Γ G → Takes X Γ.wx → chkE c sc m e = true → PE X e (TD Γ (md Γ.K m) (denE G.C m))
  pt : ∀ {X : Cx} {sc : Scope} {Γ : Ga} {e : Expr}, XOk G c sc X → Γ.K = G.K → XrOk Γ G → Takes X Γ.wx → chkE c sc m e = true → rdO m = false → PT X e (TD Γ mB (tt (denE G.C m)))
  pw : ∀ {X : Cx} {sc : Scope} {Γ : Ga} {e : Expr}, XOk G c sc X → Γ.K = G.K → XrOk Γ G → Takes X Γ.wx → chkE c sc m e = true → isAO m = true → PW X e (TD Γ mB (tt (denE G.C m)))
theorem SE.v {m : ME} (s : SE G c m) {X : Cx} {sc : Scope} {Γ : Ga} {e : Expr} (o : XOk G c sc X) (hK : Γ.K = G.K) (hx : XrOk Γ G) (tk : Takes X Γ.wx) (h : chkE c sc m e = true) (hr : rdO m = false) : PE X e (TD Γ (mV Γ.K) (denE G.C m)) :=
  (s.pe o hK hx tk h).imp fun _ _ _ => td_mdV hr
theorem SE.r {m : ME} (s : SE G c m) {X : Cx} {sc : Scope} {Γ : Ga} {e : Expr} (o : XOk G c sc X) (hK : Γ.K = G.K) (hx : XrOk Γ G) (tk : Takes X Γ.wx) (h : chkE c sc m e = true) : PE X e (TD Γ (mR Γ.K) (denE G.C m)) :=
  (s.pe o hK hx tk h).imp fun _ _ _ => td_md
theorem SE.of {m : ME} (ho : isAO m = false) (hp : ∀ {sc : Scope} {e : Expr}, chkE c sc m e = true → plainT e = true)
    (h : ∀ {X : Cx} {sc : Scope} {Γ : Ga} {e : Expr}, XOk G c sc X → Γ.K = G.K → XrOk Γ G → Takes X Γ.wx → chkE c sc m e = true → PE X e (TD Γ (md Γ.K m) (denE G.C m))) : SE G c m :=
  ⟨h, fun o hK hx tk hc hr => pt_of ((h o hK hx tk hc).imp fun _ _ _ => td_mdV hr) (hp hc), fun _ _ _ _ _ z => by rw [ho] at z; cases z⟩
def SEs (G : Gf) (c : Ck) (m : MEs) : Prop := ∀ {X : Cx} {sc : Scope} {Γ : Ga} {es : List Expr}, XOk G c sc X → Γ.K = G.K → XrOk Γ G → Takes X Γ.wx → (chkEs c sc m es = true → PA X es (TD Γ (mDs Γ.K) (denEs G.C m))) ∧ (chkA c sc m es = true → PA X es (TD Γ (mAs Γ.K) (denAs G.C m)))
def SI (G : Gf) (c : Ck) (m : MI) : Prop := ∀ {X : Cx} {sc : Scope} {Γ : Ga} {t e : Expr} {r : Bool}, XOk G c sc X → Γ.K = G.K → XrOk Γ G → Takes X Γ.wx → chkI c sc m t e r = true → PI X t e (TD Γ (mI (!r) Γ.K) (denI G.C m))
theorem XOk.KK {sc : Scope} {X : Cx} {Γ : Ga} (o : XOk G c sc X) (h : Γ.K = G.K) : Γ.K = X.K := h.trans o.hK.symm
theorem XOk.u65 {sc : Scope} {X : Cx} (o : XOk G c sc X) : X.A.units + 65 < cLine := by
  have := o.units
  omega
theorem XOk.blk {sc : Scope} {X : Cx} (o : XOk G c sc X) (hot : c.hot = false) (s : Scope) (s' : Shared) (H : Hp) (C : Addr) (cl : List (Str × Addr)) (fp : List Addr) : XOk G c (relS s sc) (X.blk s' H s (compEnvC s cl C X.env) fp) :=
  ⟨o.hP, o.hw, o.hK, o.hmg, o.hbase, o.hN, o.nd, by rw [← o.hsc]; rfl, o.calm, o.gd, o.room, o.un, o.hx0, fun h => (Bool.noConfusion (hot.symm.trans h)), o.roomH⟩
theorem se_var (i : Nat) : SE G c (.var i) := by
  refine SE.of rfl (fun {sc e} h => ?_) fun {X sc Γ e} o hK hx tk h => ?_
  · rw [chkE] at h
    cases hx : xName e with
    | none => rw [hx] at h; cases h
    | some x => obtain ⟨p, rfl⟩ := xName_inv hx; rfl
  · rw [chkE] at h
    cases hx : xName e with
    | none => rw [hx] at h; cases h
    | some x =>
      rw [hx] at h
      obtain ⟨p, rfl⟩ := xName_inv hx
      simp only [Bool.and_eq_true, decide_eq_true_eq] at h
      obtain ⟨v1, v2, v3⟩ := vis_of h.2
      exact s_var o h.1 v1 v2 v3
theorem se_rd (i : Nat) : SE G c (.rd i) := by
  refine SE.of rfl (fun {sc e} h => ?_) fun {X sc Γ e} o hK hx tk h => ?_
  · rw [chkE] at h
    cases hx : xName e with
    | none => rw [hx] at h; cases h
    | some x => obtain ⟨p, rfl⟩ := xName_inv hx; rfl
  · rw [chkE] at h
    cases hx : xName e with
    | none => rw [hx] at h; cases h
    | some x =>
      rw [hx] at h
      obtain ⟨p, rfl⟩ := xName_inv hx
      simp only [Bool.and_eq_true, decide_eq_true_eq] at h
      obtain ⟨v1, v2, v3⟩ := vis_of h.2
      exact s_rd o h.1 v1 v2 v3
theorem se_gl (GO : GOk G c) (k : Nat) : SE G c (.gl k) := by
  refine SE.of rfl (fun {sc e} h => ?_) fun {X sc Γ e} o hK hx tk h => ?_
  · rw [chkE] at h
    cases hx : xName e with
    | none => rw [hx] at h; cases h
    | some x => obtain ⟨p, rfl⟩ := xName_inv hx; rfl
  · rw [chkE] at h
    cases hx : xName e with
    | none => rw [hx] at h; cases h
    | some x =>
      rw [hx] at h
      obtain ⟨p, rfl⟩ := xName_inv hx
      simp only [Bool.and_eq_true, decide_eq_true_eq] at h
      obtain ⟨g1, g2⟩ := glb_of h.1.2
      exact s_gl GO o hK h.2 h.1.1 g1 g2
theorem se_k (v : PyData) : SE G c (.k v) := by
  refine SE.of rfl (fun {sc e} h => ?_) fun {X sc Γ e} o hK hx tk h => ?_
  · rw [chkE] at h
    cases hx : xConst e with
    | none => rw [hx] at h; cases h
    | some x => obtain ⟨k, p, rfl⟩ := xConst_inv hx; rfl
  · rw [chkE] at h
    cases hx : xConst e with
    | none => rw [hx] at h; cases h
    | some x =>
      rw [hx] at h
      obtain ⟨k, p, rfl⟩ := xConst_inv hx
      exact s_k h
theorem se_tup {es : MEs} (i : SEs G c es) : SE G c (.tup es) := by
  refine SE.of rfl (fun {sc e} h => ?_) fun {X sc Γ e} o hK hx tk h => ?_
  · rw [chkE] at h
    cases hx : xTup e with
    | none => rw [hx] at h; cases h
    | some x => obtain ⟨k, p, rfl⟩ := xTup_inv hx; rfl
  · rw [chkE] at h
    cases hx' : xTup e with
    | none => rw [hx'] at h; cases h
    | some xs =>
      rw [hx'] at h
      obtain ⟨k, p, rfl⟩ := xTup_inv hx'
      exact s_tup ((i o hK hx tk).1 h)
theorem se_lst {es : MEs} (i : SEs G c es) : SE G c (.lst es) := by
  refine SE.of rfl (fun {sc e} h => ?_) fun {X sc Γ e} o hK hx tk h => ?_
  · rw [chkE] at h
    cases hx : xLst e with
    | none => rw [hx] at h; cases h
    | some x => obtain ⟨p, rfl⟩ := xLst_inv hx; rfl
  · rw [chkE] at h
    cases hx' : xLst e with
    | none => rw [hx'] at h; cases h
    | some xs =>
      rw [hx'] at h
      obtain ⟨p, rfl⟩ := xLst_inv hx'
      exact s_lst ((i o hK hx tk).1 h)
theorem s_dict0 {X : Cx} {Γ : Ga} {p : Pos} : PE X (.Dict [] [] p) (TD Γ (mV Γ.K) (denE G.C .dict0)) := by
  refine pe_dnewK.imp fun σ H Q ⟨W, b, env, S, X0, r, k⟩ => ?_
  rw [denE] at k
  intro a n
  have nF := S.noF n
  exact k (W.frz a (.dK [])) _ _ ((Ext.laid n).frz n nF) ((S.laid n).frz upd_same nF (S.notG n)) (.d (.dct (show upd W.F a _ a = _ from upd_same)))
theorem xDict0_inv {e : Expr} (h : xDict0 e = true) : ∃ p, e = .Dict [] [] p := by
  unfold xDict0 at h
  split at h
  · exact ⟨_, rfl⟩
  · cases h
theorem se_dict0 : SE G c .dict0 := by
  refine SE.of rfl (fun {sc e} h => ?_) fun {X sc Γ e} o hK hx tk h => ?_
  · rw [chkE] at h
    obtain ⟨p, rfl⟩ := xDict0_inv h
    rfl
  · rw [chkE] at h
    obtain ⟨p, rfl⟩ := xDict0_inv h
    exact s_dict0
theorem tt_brw {m : ME} (env : Ev) : tt (denE G.C (.brw m)) env = nox (denE G.C m (env.map Slot.fz)) >>= fun v => asD v >>= fun x => asBool x := by
  simp only [tt, denE, T.assoc]
  congr
  funext v
  congr
  funext d
  cases d <;> simp [flat, need, asBool, asD]
theorem pt_brw {X : Cx} {Γ : Ga} {e : Expr} {m : ME} (he : PT X e (TD Γ mB (tt (denE G.C m)))) : PT X e (TD Γ mB (tt (denE G.C (.brw m)))) := by
  refine he.imp fun σ H Q ⟨W, b, env, S, X0, r, k⟩ => ?_
  rw [tt_brw] at k
  obtain ⟨F', le, S', X', r'⟩ := r.freeze (env' := env.map Slot.fz) X0 S (fun _ => True) (by simp) (fun i _ => at_map _ rfl env i) fun i h => absurd trivial h
  refine ⟨⟨F', W.g, W.x⟩, b, env.map Slot.fz, S', X', r', ?_⟩
  show Wc _ _ b (denE G.C m (env.map Slot.fz) >>= asD >>= asBool)
  rw [T.assoc]
  refine (T.Wc_bind _ _).mpr ?_
  have k := (T.Wc_bind _ _).mp k
  refine T.Wc.mono (fun b1 v hv => ?_) (fun _ _ z => z.elim) _ _ (Wc_nox (E' := fun _ _ => False) _ _ k)
  obtain ⟨d, ed, hv⟩ := Wc_plain plain_asD hv
  have hv := (show Wc _ _ b1 (asBool d >>= T.ret) by rw [T.bind_ret]; exact hv)
  obtain ⟨t, et, hv⟩ := Wc_plain plain_asBool hv
  show Wc _ _ b1 (asD v >>= asBool)
  rw [ed]
  show Wc _ _ b1 (asBool d)
  rw [et]
  intro W1 H1 u e1 S1 eu
  have nG : ∀ a, ¬ W.isG a → ¬ Wd.isG ⟨F', W.g, W.x⟩ a := fun a h => h
  refine hv W H1 u ⟨Wd.Le.refl W, fun a o e n => (e1.keep e (nG a n)).1, fun a h h' => absurd h' h, fun r e e' => by rw [e'] at e; cases e⟩ ⟨(le.trans e1.le.f).trans S1.f, fun g e => ?_⟩ eu
  obtain ⟨z1, z2, z3, z4⟩ := S.g g e
  exact ⟨(S1.g g (e1.le.g g e)).1, z2, z3, z4⟩
theorem se_brw {m : ME} (i : SE G c m) : SE G c (.brw m) := by
  refine ⟨fun {X sc Γ e} o hK hx tk h => ?_, fun {X sc Γ e} o hK hx tk h hr => ?_, fun {X sc Γ e} o hK hx tk h z => by cases z⟩
  · rw [chkE] at h
    exact s_brw (rel := mR Γ.K) (fun _ _ _ _ _ _ q => q) (i.r o hK hx tk h)
  · rw [chkE] at h
    cases hr : rdO m with
    | false => exact pt_brw (i.pt o hK hx tk h hr)
    | true =>
      cases m with
      | rd j =>
        refine pt_of (s_brw (rel := mR Γ.K) (fun _ _ _ _ _ _ q => q) (i.r o hK hx tk h)) ?_
        rw [chkE] at h
        cases hx : xName e with
        | none => rw [hx] at h; cases h
        | some x => obtain ⟨p, rfl⟩ := xName_inv hx; rfl
      | _ => cases hr

/-- the shape of a checked o1 -/
theorem mem_o1 (GO : GOk G c) {op : O1} {a : ME} (i : SE G c a) : SE G c (.o1 op a) := by
  cases hb : b1 op with
  | some nb =>
    obtain ⟨n, b⟩ := nb
    have inv : ∀ {sc : Scope} {e : Expr}, chkE c sc (.o1 op a) e = true → ∃ f x p q, e = .Call (.Name f p) [x] [] q ∧ isB sc f n = true ∧ notStar x = true ∧ chkE c sc a x = true ∧ (!c.hot || cool1 op) = true := fun {sc e} h => by
      unfold chkE at h
      rw [hb] at h
      cases hx : xCall e with
      | none => rw [hx] at h; cases h
      | some fa =>
        obtain ⟨f, as⟩ := fa
        rw [hx] at h
        obtain ⟨p, q, rfl⟩ := xCall_inv hx
        match as, h with
        | [x], h =>
          have h : ((!c.hot || cool1 op) && isB sc f n && notStar x && chkE c sc a x) = true := h
          simp only [Bool.and_eq_true] at h
          exact ⟨f, x, p, q, rfl, h.1.1.2, h.1.2, h.2, h.1.1.1⟩
        | [], h => cases h
        | _ :: _ :: _, h => cases h
    refine SE.of rfl (fun {sc e} h => ?_) fun {X sc Γ e} o hK hx tk h => ?_
    · obtain ⟨f, x, p, q, rfl, _⟩ := inv h
      rfl
    · obtain ⟨f, x, p, q, rfl, h1, h2, h3, hh⟩ := inv h
      obtain ⟨x1, x2, x3⟩ := isB_of h1
      exact s_b1 GO o (o.KK hK) hh hb x1 x2 x3 h2 (i.r o hK hx tk h3)
  | none =>
    cases op with
    | not =>
      have inv : ∀ {sc : Scope} {e : Expr}, chkE c sc (.o1 .not a) e = true → ∃ x p, e = .UnaryOp .Not x p ∧ chkE c sc a x = true ∧ rdO a = false := fun {sc e} h => by
        rw [chkE] at h
        cases hx : xUn e with
        | none => simp [b1, hx] at h
        | some ox =>
          obtain ⟨u, x⟩ := ox
          obtain ⟨p, rfl⟩ := xUn_inv hx
          cases u <;> simp [b1, hx] at h
          exact ⟨x, p, rfl, h.1, h.2⟩
      refine ⟨fun {X sc Γ e} o hK hx tk h => ?_, fun {X sc Γ e} o hK hx tk h hr => ?_, fun {X sc Γ e} o hK hx tk h z => by cases z⟩
      · obtain ⟨x, p, rfl, h1, h2⟩ := inv h
        exact s_not (i.v o hK hx tk h1 h2)
      · obtain ⟨x, p, rfl, h1, h2⟩ := inv h
        exact pt_not' (i.pt o hK hx tk h1 h2)
    | neg =>
      have inv : ∀ {sc : Scope} {e : Expr}, chkE c sc (.o1 .neg a) e = true → ∃ x p, e = .UnaryOp .USub x p ∧ chkE c sc a x = true := fun {sc e} h => by
        rw [chkE] at h
        cases hx : xUn e with
        | none => simp [b1, hx] at h
        | some ox =>
          obtain ⟨u, x⟩ := ox
          obtain ⟨p, rfl⟩ := xUn_inv hx
          cases u <;> simp [b1, hx] at h
          exact ⟨x, p, rfl, h⟩
      refine SE.of rfl (fun {sc e} h => ?_) fun {X sc Γ e} o hK hx tk h => ?_
      · obtain ⟨x, p, rfl, _⟩ := inv h
        rfl
      · obtain ⟨x, p, rfl, h1⟩ := inv h
        exact s_neg (o.KK hK) (i.r o hK hx tk h1)
    | isNone =>
      have inv : ∀ {sc : Scope} {e : Expr}, chkE c sc (.o1 .isNone a) e = true → ∃ x j q p, e = .Compare x [.Is] [.Constant .none j q] p ∧ chkE c sc a x = true := fun {sc e} h => by
        rw [chkE] at h
        simp only [b1] at h
        split at h
        · rename_i x j q hx
          obtain ⟨p, rfl⟩ := xCmp_inv hx
          exact ⟨_, _, _, _, rfl, h⟩
        · cases h
      refine ⟨fun {X sc Γ e} o hK hx tk h => ?_, fun {X sc Γ e} o hK hx tk h hr => ?_, fun {X sc Γ e} o hK hx tk h z => by cases z⟩
      · obtain ⟨x, j, q, p, rfl, h1⟩ := inv h
        exact s_isNone (i.r o hK hx tk h1)
      · obtain ⟨x, j, q, p, rfl, h1⟩ := inv h
        exact pt_isNone (i.r o hK hx tk h1)
    | notNone =>
      have inv : ∀ {sc : Scope} {e : Expr}, chkE c sc (.o1 .notNone a) e = true → ∃ x j q p, e = .Compare x [.IsNot] [.Constant .none j q] p ∧ chkE c sc a x = true := fun {sc e} h => by
        rw [chkE] at h
        simp only [b1] at h
        split at h
        · rename_i x j q hx
          obtain ⟨p, rfl⟩ := xCmp_inv hx
          exact ⟨_, _, _, _, rfl, h⟩
        · cases h
      refine ⟨fun {X sc Γ e} o hK hx tk h => ?_, fun {X sc Γ e} o hK hx tk h hr => ?_, fun {X sc Γ e} o hK hx tk h z => by cases z⟩
      · obtain ⟨x, j, q, p, rfl, h1⟩ := inv h
        exact s_notNone (i.r o hK hx tk h1)
      · obtain ⟨x, j, q, p, rfl, h1⟩ := inv h
        exact pt_notNone (i.r o hK hx tk h1)
    | rev =>
      have inv : ∀ {sc : Scope} {e : Expr}, chkE c sc (.o1 .rev a) e = true → ∃ x, xRev e = some x ∧ chkE c sc a x = true := fun {sc e} h => by
        rw [chkE] at h
        simp only [b1] at h
        split at h
        · exact ⟨_, by assumption, h⟩
        · cases h
      refine SE.of rfl (fun {sc e} h => ?_) fun {X sc Γ e} o hK hx tk h => ?_
      · obtain ⟨x, h0, _⟩ := inv h
        obtain ⟨k, p1, p2, p3, p, rfl⟩ := xRev_inv h0
        rfl
      · obtain ⟨x, h0, h1⟩ := inv h
        obtain ⟨k, p1, p2, p3, p, rfl⟩ := xRev_inv h0
        exact s_rev (o.KK hK) (i.r o hK hx tk h1)
    | sortedSet =>
      have inv : ∀ {sc : Scope} {e : Expr}, chkE c sc (.o1 .sortedSet a) e = true → ∃ f g x p1 q1 p2 q2, e = .Call (.Name f p1) [.Call (.Name g p2) [x] [] q2] [] q1 ∧ isB sc f "sorted" = true ∧ isB sc g "set" = true ∧ notStar x = true ∧ chkE c sc a x = true ∧ c.hot = false := fun {sc e} h => by
        rw [chkE] at h
        simp only [b1] at h
        split at h
        · rename_i f y hx
          obtain ⟨p1, q1, rfl⟩ := xCall_inv hx
          rw [Bool.and_eq_true, Bool.and_eq_true, Bool.not_eq_true'] at h
          obtain ⟨⟨hot, h0⟩, h⟩ := h
          split at h
          · rename_i g x hy
            obtain ⟨p2, q2, rfl⟩ := xCall_inv hy
            simp only [Bool.and_eq_true] at h
            exact ⟨f, g, x, p1, q1, p2, q2, rfl, h0, h.1.1, h.1.2, h.2, hot⟩
          · cases h
        · cases h
      refine SE.of rfl (fun {sc e} h => ?_) fun {X sc Γ e} o hK hx tk h => ?_
      · obtain ⟨f, g, x, p1, q1, p2, q2, rfl, _⟩ := inv h
        rfl
      · obtain ⟨f, g, x, p1, q1, p2, q2, rfl, h1, h2, h3, h4, hot⟩ := inv h
        exact s_sortedSet GO o hot (o.KK hK) h1 h2 h3 (i.r o hK hx tk h4)
    | lenSet =>
      have inv : ∀ {sc : Scope} {e : Expr}, chkE c sc (.o1 .lenSet a) e = true → ∃ f g x p1 q1 p2 q2, e = .Call (.Name f p1) [.Call (.Name g p2) [x] [] q2] [] q1 ∧ isB sc f "len" = true ∧ isB sc g "set" = true ∧ notStar x = true ∧ chkE c sc a x = true ∧ c.hot = false := fun {sc e} h => by
        rw [chkE] at h
        simp only [b1] at h
        split at h
        · rename_i f y hx
          obtain ⟨p1, q1, rfl⟩ := xCall_inv hx
          rw [Bool.and_eq_true, Bool.and_eq_true, Bool.not_eq_true'] at h
          obtain ⟨⟨hot, h0⟩, h⟩ := h
          split at h
          · rename_i g x hy
            obtain ⟨p2, q2, rfl⟩ := xCall_inv hy
            simp only [Bool.and_eq_true] at h
            exact ⟨f, g, x, p1, q1, p2, q2, rfl, h0, h.1.1, h.1.2, h.2, hot⟩
          · cases h
        · cases h
      refine SE.of rfl (fun {sc e} h => ?_) fun {X sc Γ e} o hK hx tk h => ?_
      · obtain ⟨f, g, x, p1, q1, p2, q2, rfl, _⟩ := inv h
        rfl
      · obtain ⟨f, g, x, p1, q1, p2, q2, rfl, h1, h2, h3, h4, hot⟩ := inv h
        exact s_lenSet GO o hot (o.KK hK) h1 h2 h3 (i.r o hK hx tk h4)
    | _ => cases hb
theorem md_bin {Γ : Ga} {op : O2} {o : Operator} {a b : ME} (h : binOf op = some o) : md Γ.K (.o2 op a b) = mN Γ.K := by
  have e : mk (.o2 op a b) = true := by
    show (binOf op).isSome = true
    rw [h]
    rfl
  unfold md
  rw [if_neg (by simp [rdO]), if_pos e]
theorem md_nb {Γ : Ga} {op : O2} {a b : ME} (h : binOf op = none) : md Γ.K (.o2 op a b) = mV Γ.K := by
  have e : mk (.o2 op a b) = false := by
    show (binOf op).isSome = false
    rw [h]
    rfl
  unfold md
  rw [if_neg (by simp [rdO]), if_neg (by rw [e]; simp)]
theorem mem_o2 (GO : GOk G c) {op : O2} {a b : ME} (ia : SE G c a) (ib : SE G c b) : SE G c (.o2 op a b) := by
  cases h1 : binOf op with
  | some u =>
    have inv : ∀ {sc : Scope} {e : Expr}, chkE c sc (.o2 op a b) e = true → ∃ x y p, e = .BinOp x u y p ∧ chkE c sc a x = true ∧ chkE c sc b y = true := fun {sc e} h => by
      unfold chkE at h
      rw [h1] at h
      cases hx : xBin e with
      | none => rw [hx] at h; cases h
      | some t =>
        obtain ⟨x, u', y⟩ := t
        rw [hx] at h
        obtain ⟨p, rfl⟩ := xBin_inv hx
        have h : (decide (u = u') && chkE c sc a x && chkE c sc b y) = true := h
        simp only [Bool.and_eq_true, decide_eq_true_eq] at h
        obtain ⟨⟨rfl, h2⟩, h3⟩ := h
        exact ⟨x, y, p, rfl, h2, h3⟩
    refine SE.of rfl (fun {sc e} h => ?_) fun {X sc Γ e} o hK hx tk h => ?_
    · obtain ⟨x, y, p, rfl, _⟩ := inv h
      rfl
    · obtain ⟨x, y, p, rfl, h2, h3⟩ := inv h
      rw [md_bin h1]
      exact s_bin (o.KK hK) h1 (ia.r o hK hx tk h2) (ib.r o hK hx tk h3)
  | none =>
    cases h2 : cmpOf op with
    | some u =>
      have inv : ∀ {sc : Scope} {e : Expr}, chkE c sc (.o2 op a b) e = true → ∃ x y p, e = .Compare x [u] [y] p ∧ chkE c sc a x = true ∧ chkE c sc b y = true ∧ notSet y = true := fun {sc e} h => by
        unfold chkE at h
        rw [h1, h2] at h
        cases hx : xCmp e with
        | none => rw [hx] at h; cases h
        | some t =>
          obtain ⟨x, u', y⟩ := t
          rw [hx] at h
          obtain ⟨p, rfl⟩ := xCmp_inv hx
          have h : (decide (u = u') && chkE c sc a x && chkE c sc b y && notSet y) = true := h
          simp only [Bool.and_eq_true, decide_eq_true_eq] at h
          obtain ⟨⟨⟨rfl, h2⟩, h3⟩, h4⟩ := h
          exact ⟨x, y, p, rfl, h2, h3, h4⟩
      refine ⟨fun {X sc Γ e} o hK hx tk h => ?_, fun {X sc Γ e} o hK hx tk h hr => ?_, fun {X sc Γ e} o hK hx tk h z => by cases z⟩
      · obtain ⟨x, y, p, rfl, h3, h4, h5⟩ := inv h
        rw [md_nb h1]
        exact s_cmp (o.KK hK) o.u65 h2 (ia.r o hK hx tk h3) (ib.r o hK hx tk h4) h5
      · obtain ⟨x, y, p, rfl, h3, h4, h5⟩ := inv h
        exact pt_cmp' (o.KK hK) o.u65 h2 (ia.r o hK hx tk h3) (ib.r o hK hx tk h4) h5
    | none =>
      cases h3 : b2 op with
      | some n =>
        have inv : ∀ {sc : Scope} {e : Expr}, chkE c sc (.o2 op a b) e = true → ∃ f x y p q, e = .Call (.Name f p) [x, y] [] q ∧ isB sc f n = true ∧ notStar x = true ∧ notStar y = true ∧ chkE c sc a x = true ∧ chkE c sc b y = true ∧ c.hot = false := fun {sc e} h => by
          unfold chkE at h
          rw [h1, h2, h3] at h
          cases hx : xCall e with
          | none => rw [hx] at h; cases h
          | some fa =>
            obtain ⟨f, as⟩ := fa
            rw [hx] at h
            obtain ⟨p, q, rfl⟩ := xCall_inv hx
            match as, h with
            | [x, y], h =>
              have h : (!c.hot && isB sc f n && notStar x && notStar y && chkE c sc a x && chkE c sc b y) = true := h
              simp only [Bool.and_eq_true, Bool.not_eq_true'] at h
              exact ⟨f, x, y, p, q, rfl, h.1.1.1.1.2, h.1.1.1.2, h.1.1.2, h.1.2, h.2, h.1.1.1.1.1⟩
            | [], h => cases h
            | [_], h => cases h
            | _ :: _ :: _ :: _, h => cases h
        refine SE.of rfl (fun {sc e} h => ?_) fun {X sc Γ e} o hK hx tk h => ?_
        · obtain ⟨f, x, y, p, q, rfl, _⟩ := inv h
          rfl
        · obtain ⟨f, x, y, p, q, rfl, k1, k2, k3, k4, k5, hot⟩ := inv h
          rw [md_nb h1]
          exact s_b2 GO o hot (o.KK hK) h3 k1 k2 k3 (ia.r o hK hx tk k4) (ib.r o hK hx tk k5)
      | none =>
        cases op with
        | ix =>
          have inv : ∀ {sc : Scope} {e : Expr}, chkE c sc (.o2 .ix a b) e = true → ∃ x y p, e = .Subscript x y p ∧ chkE c sc a x = true ∧ chkE c sc b y = true ∧ notSlice y = true := fun {sc e} h => by
            rw [chkE] at h
            simp only [binOf, cmpOf, b2] at h
            split at h
            · rename_i x y hx
              obtain ⟨p, rfl⟩ := xSub_inv hx
              simp only [Bool.and_eq_true] at h
              exact ⟨x, y, p, rfl, h.1.1, h.1.2, h.2⟩
            · cases h
          refine SE.of rfl (fun {sc e} h => ?_) fun {X sc Γ e} o hK hx tk h => ?_
          · obtain ⟨x, y, p, rfl, _⟩ := inv h
            rfl
          · obtain ⟨x, y, p, rfl, k1, k2, k3⟩ := inv h
            rw [md_nb rfl]
            exact s_ix (o.KK hK) (ia.r o hK hx tk k1) (ib.r o hK hx tk k2) k3
        | _ =>
          refine SE.of rfl (fun {sc e} h => ?_) fun {X sc Γ e} o hK hx tk h => ?_
          · unfold chkE at h; rw [h1, h2, h3] at h; cases h
          · unfold chkE at h; rw [h1, h2, h3] at h; cases h
end Mp
namespace Mp
open PySem PySem.Spec PyProof.Rows L2 PySem.XM
open Mp.T (Wc)
theorem rr_exc {K : PySem.W.Frag} {W : Wd} {H : Hp} {k : Nat} {fs : List (Str × PyData)} {v : V} (r : RR K W H (.exc k fs) v) : ∃ a d, v = .ref a ∧ W.x = some (a, d, k) ∧ XFs K W.F d k fs := by
  cases r with
  | v q =>
    cases q with
    | exc e1 e2 => exact ⟨_, _, rfl, e1, e2⟩
theorem XMk_no {K : PySem.W.Frag} {C : Addr} {bmB : List Value} {nw : String} {f : Str} : ∀ {fs : List Str}, XMk K C bmB nw fs → f ∈ fs → PySem.W.findIn K (.ref C) f = some none
  | [], _, h => by cases h
  | [g], m, h => by
    simp at h
    subst h
    exact m.2.1
  | [g, g2], m, h => by
    simp at h
    rcases h with rfl | rfl
    · exact m.2.2.2.1
    · exact m.2.2.2.2.1
  | _ :: _ :: _ :: _, m, _ => m.elim
variable {G : Gf} {c : Ck}
theorem xAttr_inv {e x : Expr} {f : Str} (h : xAttr e = some (x, f)) : ∃ q, e = .Attribute x f q := by
  unfold xAttr at h
  split at h
  · cases h
    exact ⟨_, rfl⟩
  · cases h
theorem s_fld (GO : GOk G c) {X : Cx} {sc : Scope} {Γ : Ga} (o : XOk G c sc X) (hot : c.hot = true) (hK : Γ.K = X.K) (hx : XrOk Γ G) {a : ME} {f : String} {y : Str} {p q : Pos} (ha : PE X (.Name y p) (TD Γ (mR Γ.K) (denE G.C a))) :
    PE X (.Attribute (.Name y p) (Str.ofString f) q) (TD Γ (mV Γ.K) (denE G.C (.fld a f))) := by
  obtain ⟨x, C, oe, d, k, e1, e2, hpn, e4, e5, e6⟩ := o.hx1 hot
  obtain ⟨M, kn, _⟩ := GO.xs
  obtain ⟨C', q1⟩ := kn k e2
  have eC := q1.2.2.1.gC
  rw [e4] at eC
  cases eC
  have T := q1.2.2.1
  have hKK : X.K = G.K := o.hK
  refine ⟨fun pins s σ H Q I h => ?_⟩
  obtain ⟨W, b0, env, S, X0, r, h⟩ := h
  simp only [denE] at h
  refine attr_of (by rfl) (thn (ha.run pins s σ H (fun v H1 => v = .ref x ∧ ∃ dd fv u, d = some dd ∧ H1 dd = some (.xd fv) ∧ fv.lookup (Str.ofString f) = some u ∧ Str.ofString f ∈ fsX k ∧ Q u H1) I ?_) fun u s1 hh => ?_)
  · refine Wc.step mono_mV S X0 r h fun b1 va W1 H1 xa x1 S1 ra h => ?_
    cases va with
    | exc k2 fs =>
      obtain ⟨a2, d2, rfl, g1, g2⟩ := rr_exc ra
      have gx : W1.x = some (x, d, k) := x1.le.x.trans (X0.le.x.trans (hx.2.trans e1))
      rw [gx] at g1
      cases g1
      obtain ⟨z, ez, h⟩ := Wc_plain plain_opt h
      have ez : fs.lookup (Str.ofString f) = some z := by
        cases hl : fs.lookup (Str.ofString f) with
        | none => rw [hl] at ez; cases ez
        | some z' => rw [hl] at ez; cases ez; rfl
      obtain ⟨g0, dd, fv, v, h1, h2, h3, h4⟩ := g2.2 _ _ ez
      exact ⟨rfl, dd, fv, v, h1, S1.f _ _ h2, h3, g0, h W1 H1 v (Ext.refl _ _) S1 (.d h4)⟩
    | d _ => exact h.elim
    | rng => exact h.elim
    | scr => exact h.elim
  · obtain ⟨v, H1, I1, rx, ev, dd, fv, w, ed, ea, l, ff, q⟩ := hh
    subst ev
    obtain rfl : u = Value.ref x := rx
    subst ed
    obtain ⟨hget, _⟩ := I1.pin (x, oe) (List.mem_append_left _ hpn)
    obtain ⟨vs, hd⟩ := e6
    obtain ⟨mA, hns, hr⟩ := (show ObjOk _ _ H1 s1.heap dd (.xd fv) from I1.hok dd _ ea)
    obtain ⟨od, ho, hl⟩ := lookIn_ns hns
    obtain ⟨u2, hu, ru⟩ := RelO.some_of (v := w) (o := mA (Str.ofString f)) (by rw [← l]; exact hr (Str.ofString f))
    have J : PySem.W.InstAt s1.heap x oe C (some od) := ⟨hget, e5.1, by unfold PySem.W.notCls; rw [hd] <;> rfl, by rw [e5.2]; exact ho⟩
    have hno : PySem.W.findIn G.K (.ref C) (Str.ofString f) = some none := XMk_no q1.2.2.2 ff
    rw [← hKK] at hno
    have T1 := T.ga
    have T2 := T.gg
    have T3 := T.exC
    have T4 := T.hd
    rw [← hKK] at T1 T2 T3 T4
    exact HandSPX.exc_get I1.kIn J T1 T2 T3 (PySem.W.findObj_own T4 hno rfl (by rw [hl, hu])) (handed_of ru) ⟨w, H1, I1.tok _, ru, q⟩

def rXis (K : PySem.W.Frag) (x C : Addr) (d : Option Addr) : List V → Hp → VK → Prop := fun xs H Q => ∃ (c : V) (b : Bool), xs = [.ref x, c] ∧ (d = none ∨ ∃ dd fv, d = some dd ∧ H dd = some (.xd fv)) ∧
      ((∃ u, ClsV c u ∧ PySem.W.kitOne K (.ref C) u = some b) ∨ ∃ (tp : Addr) (cs : List V) (us : List Value), c = .ref tp ∧ H tp = some (.tup cs) ∧ Paired ClsV cs us ∧ PySem.W.kitAny K (.ref C) us = some b) ∧ Q (.bl b) H
/-- isinstance(e, C), isinstance(e, (C, ..)), e the exception that the suite holds -/
theorem call_xis {Y : Cx} {x C M : Addr} {oe : Obj} (hpn : (x, oe) ∈ Y.pn) {d : Option Addr} {mg : Str → Option Value} {xn : Str} {bm bmB : List Value} {nw : String} (T : XTxt Y.K mg xn C bm bmB nw) (hz : Zc (.ref C) d oe) (hf : ∃ vs, oe.data = .fields vs) :
    CallR Y (.builtin "isinstance") (rXis Y.K x C d) := by
  intro pins s σ H xs us Q I r h
  obtain ⟨c, b, rfl, hd, hk, q⟩ := h
  obtain ⟨u1, u2, rfl, r1, r2⟩ := vals2 r
  cases (show u1 = Value.ref x from r1)
  obtain ⟨hget, _⟩ := I.pin (x, oe) (List.mem_append_left _ hpn)
  obtain ⟨vs, hv⟩ := hf
  have hnc : PySem.W.notCls oe = true := by unfold PySem.W.notCls; rw [hv] <;> rfl
  obtain ⟨od, J⟩ : ∃ od, PySem.W.InstAt s.heap x oe C od := by
    rcases hd with hd | ⟨dd, fv, hd, hx⟩
    · subst hd
      exact ⟨none, hget, hz.1, hnc, by rw [hz.2]; trivial⟩
    · subst hd
      obtain ⟨mA, hns, hr⟩ := (show ObjOk _ _ H s.heap dd (.xd fv) from I.hok dd _ hx)
      obtain ⟨od, ho, hl⟩ := lookIn_ns hns
      exact ⟨some od, hget, hz.1, hnc, by rw [hz.2]; exact ho⟩
  obtain ⟨cd, hc, _⟩ := T.cl
  have Z := PySem.W.kitx_exc (x := x) (ox := oe) (od := od) (show (PySem.W.clsIn Y.K C).isSome = true by rw [hc]; rfl) T.ga T.gg T.exC T.ca T.cn T.ct T.cm
  rcases hk with ⟨u, k, e⟩ | ⟨tp, cs, ws, rfl, hT, k, e⟩
  · have e2 := k.eq r2
    subst e2
    exact PySem.W.kia_one Z I.kIn J e (fun z => nomatch z) fun tk => ⟨.bl b, H, I.tok tk, rfl, q⟩
  · cases (show u2 = Value.ref tp from r2)
    obtain ⟨_, its, rv, o, h1, h2, n, h3⟩ := (show ObjOk _ _ H s.heap tp (.tup cs) from I.hok tp _ hT)
    have e3 := ClsV.all k rv
    subst e3
    obtain ⟨oc, od', dt, sl⟩ := o
    simp only at h2 h3
    subst h2 h3
    exact PySem.W.kia_tup Z I.kIn J h1 e (fun z => nomatch z) fun tk => ⟨.bl b, H, I.tok tk, rfl, q⟩
/-- a class's value -/
theorem pe_cl1 (GO : GOk G c) {X : Cx} {sc : Scope} (o : XOk G c sc X) {k : Nat} {e : Expr} (h : chkC1 c sc k e = true) : ∃ (v : V) (u : Value), PE X e (tC v) ∧ ClsV v u ∧ notStar e = true ∧ ((k = 0 ∨ k = 1) ∧ u = .type (nmX k) ∨ ∃ D, u = .ref D ∧ k ∈ c.cs ∧ G.mg (Str.ofString (nmX k)) = some (.ref D)) := by
  unfold chkC1 at h
  cases hx : xName e with
  | none => rw [hx] at h; cases h
  | some z =>
    rw [hx] at h
    obtain ⟨p, rfl⟩ := xName_inv hx
    simp only [Bool.and_eq_true, Bool.or_eq_true, decide_eq_true_eq] at h
    obtain ⟨hb, hk⟩ := h
    obtain ⟨b1, b2, b3⟩ := isB_of hb
    subst b1
    rcases hk with hk | hk
    · have hz : nmX k ∈ bltNames := by rcases hk with rfl | rfl <;> simp [nmX, bltNames]
      refine ⟨.ty (nmX k), .type (nmX k), ?_, .ty _, rfl, .inl ⟨hk, rfl⟩⟩
      refine pe_bltn (o.gl b2) (by rw [o.hmg]; exact GO.blt _ hz) ?_ rfl ?_ b3
      · rcases hk with rfl | rfl <;> decide +kernel
      · rcases hk with rfl | rfl <;> decide +kernel
    · obtain ⟨M, kn, _⟩ := GO.xs
      obtain ⟨D, q1⟩ := kn k hk
      exact ⟨.ref D, .ref D, pe_glob (o.gl b2) (by rw [o.hmg]; exact q1.2.2.1.gC) rfl b3, .own D, rfl, .inr ⟨D, rfl, hk, q1.2.2.1.gC⟩⟩
theorem pa_cls (GO : GOk G c) {X : Cx} {sc : Scope} (o : XOk G c sc X) : ∀ {ks : List Nat} {es : List Expr}, chkCs c sc ks es = true → ∃ (vs : List V) (us : List Value), PA X es (fun _ H Q => Q vs H) ∧ Paired ClsV vs us ∧ vs.length = ks.length ∧ Paired (fun k u => (k = 0 ∨ k = 1) ∧ u = .type (nmX k) ∨ ∃ D, u = .ref D ∧ k ∈ c.cs ∧ G.mg (Str.ofString (nmX k)) = some (.ref D)) ks us
  | [], [], _ => ⟨[], [], pa_nil, .nil, rfl, .nil⟩
  | [], _ :: _, h => by simp [chkCs] at h
  | _ :: _, [], h => by simp [chkCs] at h
  | k :: ks, e :: es, h => by
    rw [chkCs, Bool.and_eq_true] at h
    obtain ⟨v, u, h1, h2, h3, h4⟩ := pe_cl1 GO o h.1
    obtain ⟨vs, us, g1, g2, g3, g4⟩ := pa_cls GO o h.2
    exact ⟨v :: vs, u :: us, (pa_cons h1 g1 (star1 h3 es X.env)), .cons h2 g2, by simp [g3], .cons h4 g4⟩
theorem kit_all {K : PySem.W.Frag} {mg : Str → Option Value} {M k : Nat} {C : Addr} {cs : List Nat} (h : XKn K mg M k C) (hM : XKn K mg M 2 M ∨ 27 ≤ k) (kn : ∀ j ∈ cs, ∃ D, XKn K mg M j D) {j : Nat} {u : Value}
    (hj : (j = 0 ∨ j = 1) ∧ u = .type (nmX j) ∨ ∃ D, u = .ref D ∧ j ∈ cs ∧ mg (Str.ofString (nmX j)) = some (.ref D)) : PySem.W.kitOne K (.ref C) u = some (subX k j) := by
  rcases hj with ⟨hj, rfl⟩ | ⟨D, rfl, hj, hD⟩
  · exact h.kitB hj
  · obtain ⟨D', q⟩ := kn j hj
    have e := q.2.2.1.gC
    rw [hD] at e
    cases e
    exact h.kit q hM
theorem kit_any {K : PySem.W.Frag} {mg : Str → Option Value} {M k : Nat} {C : Addr} {cs : List Nat} (h : XKn K mg M k C) (hM : XKn K mg M 2 M ∨ 27 ≤ k) (kn : ∀ j ∈ cs, ∃ D, XKn K mg M j D) :
    ∀ {ks : List Nat} {us : List Value}, Paired (fun j u => (j = 0 ∨ j = 1) ∧ u = .type (nmX j) ∨ ∃ D, u = .ref D ∧ j ∈ cs ∧ mg (Str.ofString (nmX j)) = some (.ref D)) ks us → PySem.W.kitAny K (.ref C) us = some (ks.any fun j => subX k j)
  | _, _, .nil => rfl
  | _, _, .cons a b => by
    rw [List.any_cons]
    refine kitAny_cons (kit_all h hM kn a) (fun z => ?_) fun z => ?_
    · rw [z, Bool.false_or]
      exact kit_any h hM kn b
    · rw [z, Bool.true_or]
theorem s_isx (GO : GOk G c) {X : Cx} {sc : Scope} {Γ : Ga} (o : XOk G c sc X) (hot : c.hot = true) (hK : Γ.K = X.K) (hx : XrOk Γ G) {a : ME} {ks : List Nat} {f : Str} {y t : Expr} {p q : Pos} (hf : isB sc f "isinstance" = true) (hs : notStar y = true)
    (ha : PE X y (TD Γ (mR Γ.K) (denE G.C a))) (ht : chkCl c sc ks t = true) (hz : ks.length ≤ 1000) : PE X (.Call (.Name f p) [y, t] [] q) (TD Γ (mV Γ.K) (denE G.C (.isx ks a))) := by
  obtain ⟨b1, b2, b3⟩ := isB_of hf
  subst b1
  have HT : ∃ (tc : TE), PE X t tc ∧ notStar t = true ∧ ∀ σ H (Q : V → Hp → Prop), (∀ cv H', (∀ a o, H a = some o → H' a = some o) → (H' = H ∨ ∃ p o, H p = none ∧ H' = upd H p o) → ((∃ u k, ks = [k] ∧ ClsV cv u ∧ ((k = 0 ∨ k = 1) ∧ u = .type (nmX k) ∨ ∃ D, u = .ref D ∧ k ∈ c.cs ∧ G.mg (Str.ofString (nmX k)) = some (.ref D))) ∨
      ∃ tp cs us, cv = .ref tp ∧ H' tp = some (.tup cs) ∧ Paired ClsV cs us ∧ Paired (fun k u => (k = 0 ∨ k = 1) ∧ u = .type (nmX k) ∨ ∃ D, u = .ref D ∧ k ∈ c.cs ∧ G.mg (Str.ofString (nmX k)) = some (.ref D)) ks us) → Q cv H') → ks.length ≤ sizeLine → tc σ H Q := by
    unfold chkCl at ht
    cases hx2 : xTup t with
    | some es =>
      rw [hx2] at ht
      obtain ⟨k, tp, rfl⟩ := xTup_inv hx2
      obtain ⟨vs, us, h1, h2, h3, h4⟩ := pa_cls GO o ht
      refine ⟨_, pe_tup h1, rfl, fun σ H Q hq hz => ?_⟩
      refine ⟨by rw [h3]; exact hz, fun p' hn => hq (.ref p') _ (fun a o e => by rw [upd_ne (ne_of_none e hn)]; exact e) (.inr ⟨p', _, hn, rfl⟩) (.inr ⟨p', vs, us, rfl, upd_same, h2, h4⟩)⟩
    | none =>
      rw [hx2] at ht
      match ks, ht with
      | [k], ht =>
        obtain ⟨v, u, h1, h2, h3, h4⟩ := pe_cl1 GO o ht
        exact ⟨_, h1, h3, fun σ H Q hq _ => hq v H (fun _ _ e => e) (.inl rfl) (.inl ⟨u, k, rfl, h2, h4⟩)⟩
      | [], ht => cases ht
      | _ :: _ :: _, ht => cases ht
  obtain ⟨tc, ht, hst, hTC⟩ := HT
  obtain ⟨x, C, oe, d, k, e1, e2, hpn, e4, e5, e6⟩ := o.hx1 hot
  obtain ⟨M, kn, hMM⟩ := GO.xs
  obtain ⟨C', q1⟩ := kn k e2
  have eC := q1.2.2.1.gC
  rw [e4] at eC
  cases eC
  have hKK : X.K = G.K := o.hK
  have T := q1.2.2.1
  have hcl : CallR X (.builtin "isinstance") (rXis X.K x C d) := by
    rw [← hKK] at T
    exact call_xis (M := M) hpn T e5 e6
  refine (pe_callB hcl (o.gl b2) (by rw [o.hmg]; exact GO.blt "isinstance" (by simp [bltNames])) (by decide +kernel) (pa_cons ha (pa_cons ht pa_nil (star1 hst [] X.env)) (star1 hs [t] X.env)) (by decide +kernel) b3 (star1 hs [t] X.env) (by rw [star1 hst [] X.env]; rfl)).imp fun σ H Q h => ?_
  obtain ⟨W, b0, env, S, X0, r, h⟩ := h
  simp only [denE] at h
  refine Wc.step mono_mV S X0 r h fun b1 va W1 H1 xa x1 S1 ra h => ?_
  cases va with
  | exc k2 fs =>
    obtain ⟨a2, d2, rfl, g1, g2⟩ := rr_exc ra
    have gx : W1.x = some (x, d, k) := x1.le.x.trans (X0.le.x.trans (hx.2.trans e1))
    rw [gx] at g1
    cases g1
    refine hTC _ _ _ (fun cv H' hk hH' hc => ?_) ?_
    · have S' : SR Γ.K W1 b1 H' := by
        rcases hH' with rfl | ⟨p', o', hn, rfl⟩
        · exact S1
        · exact S1.laid hn
      have X' : Ext W1 H1 W1 H' := by
        rcases hH' with rfl | ⟨p', o', hn, rfl⟩
        · exact Ext.refl _ _
        · exact Ext.laid hn
      refine ⟨cv, ks.any fun j => subX k j, rfl, ?_, ?_, h W1 H' _ X' S' (.d (.bl _))⟩
      · rcases g2.1 with g | ⟨dd, fv, g, g'⟩
        · exact .inl g
        · exact .inr ⟨dd, fv, g, hk _ _ (S1.f _ _ g')⟩
      · have eK : X.K = G.K := hKK
        rcases hc with ⟨u, j, rfl, h1, h2⟩ | ⟨tp, cs, us, rfl, h1, h2, h3⟩
        · refine .inl ⟨u, h1, ?_⟩
          rw [eK, kit_all q1 (hMM k e2) kn h2]
          simp
        · refine .inr ⟨tp, cs, us, rfl, h1, h2, ?_⟩
          rw [eK]
          exact kit_any q1 (hMM k e2) kn h3
    · rw [sizeLine_eq]
      omega
  | d _ => exact h.elim
  | rng => exact h.elim
  | scr => exact h.elim
theorem se_fld (GO : GOk G c) {a : ME} {f : String} (i : SE G c a) : SE G c (.fld a f) := by
  have inv : ∀ {sc : Scope} {e : Expr}, chkE c sc (.fld a f) e = true → ∃ y p q, e = .Attribute (.Name y p) (Str.ofString f) q ∧ c.hot = true ∧ chkE c sc a (.Name y p) = true := fun {sc e} h => by
    unfold chkE at h
    split at h
    · rename_i x g hx
      obtain ⟨q, rfl⟩ := xAttr_inv hx
      simp only [Bool.and_eq_true, decide_eq_true_eq] at h
      obtain ⟨⟨⟨⟨h1, h2⟩, h3⟩, h4⟩, h5⟩ := h
      cases hn : xName x with
      | none => rw [hn] at h5; cases h5
      | some y =>
        obtain ⟨p, rfl⟩ := xName_inv hn
        subst h2
        exact ⟨y, p, q, rfl, h1, h3⟩
    · cases h
  refine SE.of rfl (fun {sc e} h => ?_) fun {X sc Γ e} o hK hx tk h => ?_
  · obtain ⟨y, p, q, rfl, _⟩ := inv h
    rfl
  · obtain ⟨y, p, q, rfl, h1, h2⟩ := inv h
    exact s_fld GO o h1 (o.KK hK) hx (i.r o hK hx tk h2)
theorem se_isx (GO : GOk G c) {a : ME} {ks : List Nat} (i : SE G c a) : SE G c (.isx ks a) := by
  have inv : ∀ {sc : Scope} {e : Expr}, chkE c sc (.isx ks a) e = true → ∃ f x t p q, e = .Call (.Name f p) [x, t] [] q ∧ c.hot = true ∧ isB sc f "isinstance" = true ∧ notStar x = true ∧ chkE c sc a x = true ∧ chkCl c sc ks t = true ∧ ks.length ≤ 1000 := fun {sc e} h => by
    unfold chkE at h
    split at h
    · rename_i f x t hx
      obtain ⟨p, q, rfl⟩ := xCall_inv hx
      simp only [Bool.and_eq_true, decide_eq_true_eq] at h
      exact ⟨f, x, t, p, q, rfl, h.1.1.1.1.1.1, h.1.1.1.1.1.2, h.1.1.1.1.2, h.1.1.1.2, h.1.2, h.2⟩
    · cases h
  refine SE.of rfl (fun {sc e} h => ?_) fun {X sc Γ e} o hK hx tk h => ?_
  · obtain ⟨f, x, t, p, q, rfl, _⟩ := inv h
    rfl
  · obtain ⟨f, x, t, p, q, rfl, h1, h2, h3, h4, h5, h6⟩ := inv h
    exact s_isx GO o h1 (o.KK hK) hx h2 h3 (i.r o hK hx tk h4) h5 h6
end Mp
namespace L2
open PySem PySem.Spec PyProof.Rows EnT
def tTupRgF (te : St → Hp → (Int → Int → Hp → Prop) → Prop) : TE := fun σ H Q => te σ H fun a b H1 => RgOk a b ∧ ∀ q o, H1 q = none → o.dict = none → Q (.ref q) (upd H1 q (.frz o (.tup (rgV a b))))
theorem pe_tupRgF {X : Cx} {e : Expr} {te : St → Hp → (Int → Int → Hp → Prop) → Prop} {p pos : Pos} (hc : X.calm = true) (hg : Gl X "tuple") (hm : X.mg "tuple" = none) (he : PRg X e te) (na : starEach [e] X.env = (false, eval e X.env) :: starEach [] X.env := by rfl) : PE X (.Call (.Name "tuple" p) [e] [] pos) (tTupRgF te) := by
  refine ⟨fun pins s σ H Q I h => ?_⟩
  refine Call_ (ld_blt I hg hm boot_tuple (PyProof.Rows.callWith_type1 (args_cons (thn (he pins s σ H _ I h) fun x s1 ⟨r, a, b, t, u, v, H1, ex, hr, I1, ok, q⟩ => args_nil ?_) na) na))
  subst ex
  obtain ⟨b1, b2, b3, b4, b5⟩ := ok
  refine call_tuple_range (n := (b - a).toNat) (I1.ok.hd hc) hr (small_one b1 b2 b3 b4) (rangeSize_nat a b) b5 fun h' tk acc hk hi => ?_
  have I2 : Inv X pins σ H1 { s1 with heap := h', toks := tk } := I1.kept hk
  refine ⟨.ref h'.objs.size, upd H1 h'.objs.size (.frz (PobF acc) (.tup (rgV a b))), I2.laid (t' := tk) (fun c o e => Heap.get?_push_of_some _ e) (Nat.le_refl _) (show ObjOk X.prog X.w _ _ _ (.frz (PobF acc) (.tup (rgV a b))) from ⟨Heap.get?_push_size _ rfl, ?_, acc.toList, vals_rg hi, ?_⟩), rfl, q _ _ (I2.hok.fresh (Nat.le_refl _)) rfl⟩
  · rw [rgV_length, sizeLine_eq]; omega
  · rw [Array.toArray_toList]; exact IsTup.new _ _
end L2
namespace Mp
open PySem PySem.Spec PyProof.Rows L2
open Mp.T (Wc)
variable {G : Gf} {c : Ck}
theorem se_slL {a lo : ME} (ia : SE G c a) (il : SE G c lo) : SE G c (.slL a lo) := by
  have inv : ∀ {sc : Scope} {e : Expr}, chkE c sc (.slL a lo) e = true → ∃ x l p p2, e = .Subscript x (.Slice (some l) none none p2) p ∧ chkE c sc a x = true ∧ chkE c sc lo l = true := fun {sc e} h => by
    unfold chkE at h
    split at h
    · rename_i x s hx
      obtain ⟨p, rfl⟩ := xSub_inv hx
      split at h
      · rename_i l hs
        obtain ⟨p2, rfl⟩ := xSlice_inv hs
        rw [Bool.and_eq_true] at h
        exact ⟨x, l, p, p2, rfl, h.1, h.2⟩
      · cases h
    · cases h
  refine SE.of rfl (fun {sc e} h => ?_) fun {X sc Γ e} o hK hx tk h => ?_
  · obtain ⟨x, l, p, p2, rfl, _⟩ := inv h
    rfl
  · obtain ⟨x, l, p, p2, rfl, h1, h2⟩ := inv h
    exact s_slL (o.KK hK) (ia.r o hK hx tk h1) (il.r o hK hx tk h2)
theorem se_slU {a hi : ME} (ia : SE G c a) (il : SE G c hi) : SE G c (.slU a hi) := by
  have inv : ∀ {sc : Scope} {e : Expr}, chkE c sc (.slU a hi) e = true → ∃ x l p p2, e = .Subscript x (.Slice none (some l) none p2) p ∧ chkE c sc a x = true ∧ chkE c sc hi l = true := fun {sc e} h => by
    unfold chkE at h
    split at h
    · rename_i x s hx
      obtain ⟨p, rfl⟩ := xSub_inv hx
      split at h
      · rename_i l hs
        obtain ⟨p2, rfl⟩ := xSlice_inv hs
        rw [Bool.and_eq_true] at h
        exact ⟨x, l, p, p2, rfl, h.1, h.2⟩
      · cases h
    · cases h
  refine SE.of rfl (fun {sc e} h => ?_) fun {X sc Γ e} o hK hx tk h => ?_
  · obtain ⟨x, l, p, p2, rfl, _⟩ := inv h
    rfl
  · obtain ⟨x, l, p, p2, rfl, h1, h2⟩ := inv h
    exact s_slU (o.KK hK) (ia.r o hK hx tk h1) (il.r o hK hx tk h2)
theorem se_slLU {a lo hi : ME} (ia : SE G c a) (il : SE G c lo) (ih : SE G c hi) : SE G c (.slLU a lo hi) := by
  have inv : ∀ {sc : Scope} {e : Expr}, chkE c sc (.slLU a lo hi) e = true → ∃ x l m p p2, e = .Subscript x (.Slice (some l) (some m) none p2) p ∧ chkE c sc a x = true ∧ chkE c sc lo l = true ∧ chkE c sc hi m = true := fun {sc e} h => by
    unfold chkE at h
    split at h
    · rename_i x s hx
      obtain ⟨p, rfl⟩ := xSub_inv hx
      split at h
      · rename_i l m hs
        obtain ⟨p2, rfl⟩ := xSlice_inv hs
        rw [Bool.and_eq_true, Bool.and_eq_true] at h
        exact ⟨x, l, m, p, p2, rfl, h.1.1, h.1.2, h.2⟩
      · cases h
    · cases h
  refine SE.of rfl (fun {sc e} h => ?_) fun {X sc Γ e} o hK hx tk h => ?_
  · obtain ⟨x, l, m, p, p2, rfl, _⟩ := inv h
    rfl
  · obtain ⟨x, l, m, p, p2, rfl, h1, h2, h3⟩ := inv h
    exact s_slLU (o.KK hK) (ia.r o hK hx tk h1) (il.r o hK hx tk h2) (ih.r o hK hx tk h3)
theorem rest_cases {op : BoolOp} {y : Expr} {xs : List Expr} {p : Pos} {b : ME} {X : Cx} {Γ : Ga} {sc : Scope} (ib : SE G c b) (o : XOk G c sc X) (hK : Γ.K = G.K) (hx : XrOk Γ G) (tk : Takes X Γ.wx) (hop : op = .And ∨ op = .Or)
    (h : chkE c sc b (restB op (y :: xs) p) = true) (hr : rdO b = false) (ha : xs.isEmpty = true ∨ isAO b = true) : PE X (.BoolOp op (y :: xs) p) (TD Γ (mV Γ.K) (denE G.C b)) ∧ PW X (.BoolOp op (y :: xs) p) (TD Γ mB (tt (denE G.C b))) := by
  cases xs with
  | nil =>
    refine ⟨pe_one (ib.v o hK hx tk h hr), ?_⟩
    rcases hop with rfl | rfl
    · exact pw_and1 (ib.pt o hK hx tk h hr)
    · exact pw_or1 (ib.pt o hK hx tk h hr)
  | cons z zs =>
    have h : chkE c sc b (.BoolOp op (y :: z :: zs) p) = true := h
    exact ⟨ib.v o hK hx tk h hr, ib.pw o hK hx tk h (ha.resolve_left (by simp))⟩
theorem se_and {a b : ME} (ia : SE G c a) (ib : SE G c b) : SE G c (.and a b) := by
  have inv : ∀ {sc : Scope} {e : Expr}, chkE c sc (.and a b) e = true → ∃ x y xs p, e = .BoolOp .And (x :: y :: xs) p ∧ chkE c sc a x = true ∧ rdO a = false ∧ chkE c sc b (restB .And (y :: xs) p) = true ∧ rdO b = false ∧ (xs.isEmpty = true ∨ isAO b = true) := fun {sc e} h => by
    unfold chkE at h
    split at h
    · rename_i x y xs p hx
      obtain rfl := xBool_inv hx
      simp only [Bool.and_eq_true, Bool.not_eq_true', Bool.or_eq_true] at h
      exact ⟨x, y, xs, p, rfl, h.1.1.1.1, h.1.1.1.2, h.1.1.2, h.1.2, h.2⟩
    · cases h
  refine ⟨fun {X sc Γ e} o hK hx tk h => ?_, fun {X sc Γ e} o hK hx tk h hr => ?_, fun {X sc Γ e} o hK hx tk h z => ?_⟩
  · obtain ⟨x, y, xs, p, rfl, h1, h2, h3, h4, h5⟩ := inv h
    exact s_and (p2 := p) (ia.v o hK hx tk h1 h2) (rest_cases ib o hK hx tk (.inl rfl) h3 h4 h5).1
  · obtain ⟨x, y, xs, p, rfl, h1, h2, h3, h4, h5⟩ := inv h
    exact (pw_and' (ia.pt o hK hx tk h1 h2) (rest_cases ib o hK hx tk (.inl rfl) h3 h4 h5).2).pt
  · obtain ⟨x, y, xs, p, rfl, h1, h2, h3, h4, h5⟩ := inv h
    exact pw_and' (ia.pt o hK hx tk h1 h2) (rest_cases ib o hK hx tk (.inl rfl) h3 h4 h5).2
theorem se_or {a b : ME} (ia : SE G c a) (ib : SE G c b) : SE G c (.or a b) := by
  have inv : ∀ {sc : Scope} {e : Expr}, chkE c sc (.or a b) e = true → ∃ x y xs p, e = .BoolOp .Or (x :: y :: xs) p ∧ chkE c sc a x = true ∧ rdO a = false ∧ chkE c sc b (restB .Or (y :: xs) p) = true ∧ rdO b = false ∧ (xs.isEmpty = true ∨ isAO b = true) := fun {sc e} h => by
    unfold chkE at h
    split at h
    · rename_i x y xs p hx
      obtain rfl := xBool_inv hx
      simp only [Bool.and_eq_true, Bool.not_eq_true', Bool.or_eq_true] at h
      exact ⟨x, y, xs, p, rfl, h.1.1.1.1, h.1.1.1.2, h.1.1.2, h.1.2, h.2⟩
    · cases h
  refine ⟨fun {X sc Γ e} o hK hx tk h => ?_, fun {X sc Γ e} o hK hx tk h hr => ?_, fun {X sc Γ e} o hK hx tk h z => ?_⟩
  · obtain ⟨x, y, xs, p, rfl, h1, h2, h3, h4, h5⟩ := inv h
    exact s_or (p2 := p) (ia.v o hK hx tk h1 h2) (rest_cases ib o hK hx tk (.inr rfl) h3 h4 h5).1
  · obtain ⟨x, y, xs, p, rfl, h1, h2, h3, h4, h5⟩ := inv h
    exact (pw_or' (ia.pt o hK hx tk h1 h2) (rest_cases ib o hK hx tk (.inr rfl) h3 h4 h5).2).pt
  · obtain ⟨x, y, xs, p, rfl, h1, h2, h3, h4, h5⟩ := inv h
    exact pw_or' (ia.pt o hK hx tk h1 h2) (rest_cases ib o hK hx tk (.inr rfl) h3 h4 h5).2
theorem se_ife {d a b : ME} (id : SE G c d) (ia : SE G c a) (ib : SE G c b) : SE G c (.ife d a b) := by
  have inv : ∀ {sc : Scope} {e : Expr}, chkE c sc (.ife d a b) e = true → ∃ y x z p, e = .IfExp y x z p ∧ chkE c sc d y = true ∧ rdO d = false ∧ chkE c sc a x = true ∧ rdO a = false ∧ chkE c sc b z = true ∧ rdO b = false := fun {sc e} h => by
    unfold chkE at h
    split at h
    · rename_i y x z hx
      obtain ⟨p, rfl⟩ := xIf_inv hx
      simp only [Bool.and_eq_true, Bool.not_eq_true'] at h
      exact ⟨y, x, z, p, rfl, h.1.1.1.1.1, h.1.1.1.1.2, h.1.1.1.2, h.1.1.2, h.1.2, h.2⟩
    · cases h
  refine ⟨fun {X sc Γ e} o hK hx tk h => ?_, fun {X sc Γ e} o hK hx tk h hr => ?_, fun {X sc Γ e} o hK hx tk h z => by cases z⟩
  · obtain ⟨y, x, z, p, rfl, h1, h2, h3, h4, h5, h6⟩ := inv h
    exact s_ife (id.pt o hK hx tk h1 h2) (ia.v o hK hx tk h3 h4) (ib.v o hK hx tk h5 h6)
  · obtain ⟨y, x, z, p, rfl, h1, h2, h3, h4, h5, h6⟩ := inv h
    exact pt_ife (id.pt o hK hx tk h1 h2) (ia.pt o hK hx tk h3 h4) (ib.pt o hK hx tk h5 h6)
theorem se_chain {p q : O2} {a b d : ME} (ia : SE G c a) (ib : SE G c b) (id : SE G c d) : SE G c (.chain p q a b d) := by
  have inv : ∀ {sc : Scope} {e : Expr}, chkE c sc (.chain p q a b d) e = true → ∃ x o1 y o2 z ps, e = .Compare x [o1, o2] [y, z] ps ∧ cmpOf p = some o1 ∧ cmpOf q = some o2 ∧ chkE c sc a x = true ∧ chkE c sc b y = true ∧ chkE c sc d z = true ∧ notSet y = true ∧ notSet z = true := fun {sc e} h => by
    unfold chkE at h
    split at h
    · rename_i x o1 y o2 z hx
      obtain ⟨ps, rfl⟩ := xCmp2_inv hx
      simp only [Bool.and_eq_true, decide_eq_true_eq] at h
      exact ⟨x, o1, y, o2, z, ps, rfl, h.1.1.1.1.1.1, h.1.1.1.1.1.2, h.1.1.1.1.2, h.1.1.1.2, h.1.1.2, h.1.2, h.2⟩
    · cases h
  refine ⟨fun {X sc Γ e} o hK hx tk h => ?_, fun {X sc Γ e} o hK hx tk h hr => ?_, fun {X sc Γ e} o hK hx tk h z => by cases z⟩
  · obtain ⟨x, o1, y, o2, z, ps, rfl, h1, h2, h3, h4, h5, h6, h7⟩ := inv h
    exact s_chain (o.KK hK) o.u65 h1 h2 (ia.r o hK hx tk h3) (ib.r o hK hx tk h4) (id.r o hK hx tk h5) h6 h7
  · obtain ⟨x, o1, y, o2, z, ps, rfl, h1, h2, h3, h4, h5, h6, h7⟩ := inv h
    exact pt_chain' (o.KK hK) o.u65 h1 h2 (ia.r o hK hx tk h3) (ib.r o hK hx tk h4) (id.r o hK hx tk h5) h6 h7
theorem se_call (GO : GOk G c) {f : Nat} {as : MEs} (i : SEs G c as) : SE G c (.call f as) := by
  have inv : ∀ {sc : Scope} {e : Expr}, chkE c sc (.call f as) e = true → ∃ x y ys p q, e = .Call (.Name x p) (y :: ys) [] q ∧ (if c.hot then decide (c.hm f = some x) else decide (c.nm f = some x)) = true ∧ glb sc x = true ∧ chkA c sc as (y :: ys) = true ∧ notStar y = true := fun {sc e} h => by
    unfold chkE at h
    split at h
    · rename_i x y ys hx
      obtain ⟨p, q, rfl⟩ := xCall_inv hx
      rw [Bool.and_eq_true, Bool.and_eq_true, Bool.and_eq_true] at h
      exact ⟨x, y, ys, p, q, rfl, h.1.1.1, h.1.1.2, h.1.2, h.2⟩
    · cases h
  refine SE.of rfl (fun {sc e} h => ?_) fun {X sc Γ e} o hK hx tk h => ?_
  · obtain ⟨x, y, ys, p, q, rfl, _⟩ := inv h
    rfl
  · obtain ⟨x, y, ys, p, q, rfl, h1, h2, h3, h4⟩ := inv h
    cases hot : c.hot with
    | false =>
      rw [hot] at h1
      exact s_call GO o hot hK hx tk (of_decide_eq_true h1) h2 h4 ((i o hK hx tk).2 h3)
    | true =>
      rw [hot] at h1
      exact s_callH GO o hot hK hx tk (of_decide_eq_true h1) h2 h4 ((i o hK hx tk).2 h3)
theorem se_draw (GO : GOk G c) {j : Nat} {m : ME} (i : SE G c m) : SE G c (.draw j m) := by
  have inv : ∀ {sc : Scope} {e : Expr}, chkE c sc (.draw j m) e = true → ∃ x z zp y p q, e = .Call (.Name x p) [.Name z zp, y] [] q ∧ isB sc x "_law_next" = true ∧ c.N[j]? = some z ∧ vis sc z = true ∧ notStar y = true ∧ chkE c sc m y = true ∧ rdO m = false ∧ c.hot = false := fun {sc e} h => by
    unfold chkE at h
    split at h
    · rename_i x g y hx
      obtain ⟨p, q, rfl⟩ := xCall_inv hx
      cases hg : xName g with
      | none => rw [hg] at h; simp at h
      | some z =>
        obtain ⟨zp, rfl⟩ := xName_inv hg
        rw [hg] at h
        simp only [Bool.and_eq_true, Bool.not_eq_true', decide_eq_true_eq] at h
        exact ⟨x, z, zp, y, p, q, rfl, h.1.1.1.1.2, h.1.1.1.2.1, h.1.1.1.2.2, h.1.1.2, h.1.2, h.2, h.1.1.1.1.1⟩
    · cases h
  refine SE.of rfl (fun {sc e} h => ?_) fun {X sc Γ e} o hK hx tk h => ?_
  · obtain ⟨x, z, zp, y, p, q, rfl, _⟩ := inv h
    rfl
  · obtain ⟨x, z, zp, y, p, q, rfl, h1, h2, h3, h4, h5, h6, hot⟩ := inv h
    obtain ⟨v1, v2, v3⟩ := vis_of h3
    unfold isB at h1
    rw [Bool.and_eq_true] at h1
    exact s_draw GO o hot hK tk (of_decide_eq_true h1.1) h1.2 rfl h4 (s_var o h2 v1 v2 v3) (i.v o hK hx tk h5 h6)
theorem se_isi (GO : GOk G c) {ts : List Ty} {a : ME} (i : SE G c a) : SE G c (.isi ts a) := by
  have inv : ∀ {sc : Scope} {e : Expr}, chkE c sc (.isi ts a) e = true → ∃ f x z zp p q u, e = .Call (.Name f p) [x, .Name z zp] [] q ∧ ts = [u] ∧ isB sc f "isinstance" = true ∧ notStar x = true ∧ chkE c sc a x = true ∧ rdO a = false ∧ isB sc z (tyName u) = true := fun {sc e} h => by
    unfold chkE at h
    split at h
    · rename_i f x t hx
      obtain ⟨p, q, rfl⟩ := xCall_inv hx
      match ts, h with
      | [u], h =>
        cases hg : xName t with
        | none => simp [hg] at h
        | some z =>
          obtain ⟨zp, rfl⟩ := xName_inv hg
          simp only [hg, Bool.and_eq_true, Bool.not_eq_true'] at h
          exact ⟨f, x, z, zp, p, q, u, rfl, rfl, h.1.1.1.1, h.1.1.1.2, h.1.1.2, h.1.2, h.2⟩
      | [], h => simp at h
      | _ :: _ :: _, h => simp at h
    · cases h
  refine SE.of rfl (fun {sc e} h => ?_) fun {X sc Γ e} o hK hx tk h => ?_
  · obtain ⟨f, x, z, zp, p, q, u, rfl, _⟩ := inv h
    rfl
  · obtain ⟨f, x, z, zp, p, q, u, rfl, rfl, h1, h2, h3, h4, h5⟩ := inv h
    unfold isB at h1 h5
    rw [Bool.and_eq_true] at h1 h5
    exact s_isi GO o (o.KK hK) (of_decide_eq_true h1.1) h1.2 h2 (of_decide_eq_true h5.1) h5.2 (i.r o hK hx tk h3)
theorem se_mth {op : O2} {a b : ME} (ia : SE G c a) (ib : SE G c b) : SE G c (.mth op a b) := by
  have inv : ∀ {sc : Scope} {e : Expr}, chkE c sc (.mth op a b) e = true → ∃ n x y p q, m1 op = some n ∧ e = .Call (.Attribute x (Str.ofString n) p) [y] [] q ∧ (p.endLine == q.line) = true ∧ notStar y = true ∧ chkE c sc a x = true ∧ chkE c sc b y = true ∧ plainBase x = true := fun {sc e} h => by
    unfold chkE at h
    split at h
    · rename_i n hn
      split at h
      · rename_i x m y hx
        obtain ⟨p, q, rfl, hl⟩ := xMeth_inv hx
        simp only [Bool.and_eq_true, decide_eq_true_eq] at h
        obtain ⟨⟨⟨⟨rfl, h1⟩, h2⟩, h3⟩, h4⟩ := h
        exact ⟨n, x, y, p, q, hn, rfl, hl, h1, h2, h3, h4⟩
      · cases h
    · cases h
  refine SE.of rfl (fun {sc e} h => ?_) fun {X sc Γ e} o hK hx tk h => ?_
  · obtain ⟨n, x, y, p, q, hn, rfl, _⟩ := inv h
    rfl
  · obtain ⟨n, x, y, p, q, hn, rfl, h1, h2, h3, h4, h5⟩ := inv h
    exact s_mth o (o.KK hK) hn h2 h5 h1 (ia.r o hK hx tk h3) (ib.r o hK hx tk h4)
theorem folded {i : Expr} (h : notSet i = true) (env : PySem.Env) (x : Value) : foldedSetIterable i env x = pure x := by
  cases i <;> first | rfl | cases h
theorem fnB_blk {X : Cx} {s : Scope} {s' : Shared} {H : Hp} {cl : List (Str × Addr)} {C : Addr} {fp : List Addr} : ∀ x, fnB s x = true → (X.blk s' H s (compEnvC s cl C X.env) fp).fn x = true := fun x h => h
theorem nox_some {α : Type} (x : T α) : nox (x >>= fun y => T.ret (some y)) = nox x >>= fun y => T.ret (some y) := nox_bind x _
theorem filT_map {α β : Type} {F : α → T (Option β)} {f : α → T β} (h : ∀ x, F x = f x >>= fun y => T.ret (some y)) : ∀ xs : List α, filT F xs = mapT f xs
  | [] => rfl
  | x :: xs => by
    rw [filT, mapT, h x, T.assoc, filT_map h xs]
    rfl
theorem se_lc {g : Bool} {tg : MT} {it : MI} {m : ME} (ii : SI G c it) (im : SE G c m) : SE G c (.lc g tg it m) := by
  have inv : ∀ {sc : Scope} {e : Expr}, chkE c sc (.lc g tg it m) e = true → ∃ elt t i s p, e = .ListComp elt [⟨t, i, [], 0⟩] s p ∧ notSet i = true ∧ chkI c sc it t i true = true ∧ chkT c.N (relS s sc) (fnB s) tg t = true ∧ chkE c (relS s sc) m elt = true ∧ rdO m = false ∧ blkC c.N sc s (ownOf c.N s) = true ∧ (ownOf c.N s).map (·.2) = slotsT tg ∧ c.hot = false := fun {sc e} h => by
    unfold chkE at h
    split at h
    · rename_i elt t i s hx
      obtain ⟨p, rfl⟩ := xLc_inv hx
      simp only [Bool.and_eq_true, decide_eq_true_eq, Bool.not_eq_true'] at h
      exact ⟨elt, t, i, s, p, rfl, h.1.1.1.1.1.1.2, h.1.1.1.1.1.2, h.1.1.1.1.2, h.1.1.1.2, h.1.1.2, h.1.2, h.2, h.1.1.1.1.1.1.1⟩
    · cases h
  refine SE.of rfl (fun {sc e} h => ?_) fun {X sc Γ e} o hK hx tk h => ?_
  · obtain ⟨elt, t, i, s, p, rfl, _⟩ := inv h
    rfl
  · obtain ⟨elt, t, i, s, p, rfl, h0, h1, h2, h3, h4, h5, h6, hot⟩ := inv h
    have ob := fun s' H C cl fp => o.blk hot s s' H C cl fp
    refine s_lcC (m := m) (tst := fun _ => T.ret true) (tt' := tYes) (g := g) o hot (o.KK hK) (ii o hK hx tk h1) (by rw [o.hN, o.hsc]; exact blkOk_by h5) h6 (fun s' H C cl fp => ?_) (fun _ _ _ _ _ => pts_nil) (fun σ H Q q => td_ret q) (fun s' H C cl fp => ?_) (folded h0 _) fun env => ?_
    · exact pg_tgt (by rw [o.hN]; exact o.nd) (ob s' H C cl fp).hN (ob s' H C cl fp).hsc fnB_blk (o.calm hot) h2
    · exact im.v (ob s' H C cl fp) hK hx takes0 h3 h4
    · rw [denE]
      congr
      funext xs
      congr
      funext _
      rw [filT_map (f := fun x => nox (asgT tg x env >>= fun env' => denE G.C m env' >>= asD)) fun x => ?_]
      show nox _ = _
      rw [← nox_some]
      congr 1
      rw [T.assoc]
      congr
      funext env'
      rw [T.assoc]
      rfl
theorem se_lcIf {g : Bool} {tg : MT} {it : MI} {d m : ME} (ii : SI G c it) (id : SE G c d) (im : SE G c m) : SE G c (.lcIf g tg it d m) := by
  have inv : ∀ {sc : Scope} {e : Expr}, chkE c sc (.lcIf g tg it d m) e = true → ∃ elt t i q s p, e = .ListComp elt [⟨t, i, [q], 0⟩] s p ∧ notSet i = true ∧ chkI c sc it t i true = true ∧ chkT c.N (relS s sc) (fnB s) tg t = true ∧ chkE c (relS s sc) d q = true ∧ rdO d = false ∧ chkE c (relS s sc) m elt = true ∧ rdO m = false ∧ blkC c.N sc s (ownOf c.N s) = true ∧ (ownOf c.N s).map (·.2) = slotsT tg ∧ c.hot = false := fun {sc e} h => by
    unfold chkE at h
    split at h
    · rename_i elt t i q s hx
      obtain ⟨p, rfl⟩ := xLc_inv hx
      simp only [Bool.and_eq_true, decide_eq_true_eq, Bool.not_eq_true'] at h
      exact ⟨elt, t, i, q, s, p, rfl, h.1.1.1.1.1.1.1.1.2, h.1.1.1.1.1.1.1.2, h.1.1.1.1.1.1.2, h.1.1.1.1.1.2, h.1.1.1.1.2, h.1.1.1.2, h.1.1.2, h.1.2, h.2, h.1.1.1.1.1.1.1.1.1⟩
    · cases h
  refine SE.of rfl (fun {sc e} h => ?_) fun {X sc Γ e} o hK hx tk h => ?_
  · obtain ⟨elt, t, i, q, s, p, rfl, _⟩ := inv h
    rfl
  · obtain ⟨elt, t, i, q, s, p, rfl, h0, h1, h2, d1, d2, h3, h4, h5, h6, hot⟩ := inv h
    have ob := fun s' H C cl fp => o.blk hot s s' H C cl fp
    refine s_lcC (m := m) (tst := tt (denE G.C d)) (tt' := TD Γ.nx mB (tt (denE G.C d))) (g := g) o hot (o.KK hK) (ii o hK hx tk h1) (by rw [o.hN, o.hsc]; exact blkOk_by h5) h6 (fun s' H C cl fp => ?_) (fun s' H C cl fp => pts_one (id.pt (ob s' H C cl fp) hK hx takes0 d1 d2)) (fun σ H Q q => q) (fun s' H C cl fp => ?_) (folded h0 _) fun env => ?_
    · exact pg_tgt (by rw [o.hN]; exact o.nd) (ob s' H C cl fp).hN (ob s' H C cl fp).hsc fnB_blk (o.calm hot) h2
    · exact im.v (ob s' H C cl fp) hK hx takes0 h3 h4
    · rw [denE]
      congr
      funext xs
      congr
      funext _
      congr
      funext x
      show nox _ = nox _
      congr 1
      congr
      funext env'
      show _ = (denE G.C d env' >>= asD >>= asBool) >>= _
      congr
      funext b
      cases b
      · rfl
      · simp [T.assoc]
theorem se_lc2 {g : Bool} {t1 t2 : MT} {i1 i2 : MI} {m : ME} (ii : SI G c i1) (ij : SI G c i2) (im : SE G c m) : SE G c (.lc2 g t1 i1 t2 i2 m) := by
  have inv : ∀ {sc : Scope} {e : Expr}, chkE c sc (.lc2 g t1 i1 t2 i2 m) e = true → ∃ elt u1 j1 u2 j2 s p, e = .ListComp elt [⟨u1, j1, [], 0⟩, ⟨u2, j2, [], 0⟩] s p ∧ notSet j1 = true ∧ notSet j2 = true ∧ chkI c sc i1 u1 j1 true = true ∧ chkT c.N (relS s sc) (fnB s) t1 u1 = true ∧ chkI c (relS s sc) i2 u2 j2 false = true ∧
      chkT c.N (relS s sc) (fnB s) t2 u2 = true ∧ chkE c (relS s sc) m elt = true ∧ rdO m = false ∧ blkC c.N sc s (ownOf c.N s) = true ∧ (ownOf c.N s).map (·.2) = slotsT t1 ++ slotsT t2 ∧ c.hot = false := fun {sc e} h => by
    unfold chkE at h
    split at h
    · rename_i elt u1 j1 u2 j2 s hx
      obtain ⟨p, rfl⟩ := xLc_inv hx
      simp only [Bool.and_eq_true, decide_eq_true_eq, Bool.not_eq_true'] at h
      exact ⟨elt, u1, j1, u2, j2, s, p, rfl, h.1.1.1.1.1.1.1.1.1.2, h.1.1.1.1.1.1.1.1.2, h.1.1.1.1.1.1.1.2, h.1.1.1.1.1.1.2, h.1.1.1.1.1.2, h.1.1.1.1.2, h.1.1.1.2, h.1.1.2, h.1.2, h.2, h.1.1.1.1.1.1.1.1.1.1⟩
    · cases h
  refine SE.of rfl (fun {sc e} h => ?_) fun {X sc Γ e} o hK hx tk h => ?_
  · obtain ⟨elt, u1, j1, u2, j2, s, p, rfl, _⟩ := inv h
    rfl
  · obtain ⟨elt, u1, j1, u2, j2, s, p, rfl, a1, a2, h1, h2, k1, k2, h3, h4, h5, h6, hot⟩ := inv h
    have ob := fun s' H C cl fp => o.blk hot s s' H C cl fp
    refine s_lc2C o hot (o.KK hK) (ii o hK hx tk h1) (by rw [o.hN, o.hsc]; exact blkOk_by h5) h6 (fun s' H C cl fp => ?_) (fun s' H C cl fp => ?_) (fun s' H C cl fp => ?_) (fun s' H C cl fp => ?_) (folded a1 _) fun env x => folded a2 env x
    · exact pg_tgt (by rw [o.hN]; exact o.nd) (ob s' H C cl fp).hN (ob s' H C cl fp).hsc fnB_blk (o.calm hot) h2
    · exact ij (Γ := Γ.nx) (ob s' H C cl fp) hK hx takes0 k1
    · exact pg_tgt (by rw [o.hN]; exact o.nd) (ob s' H C cl fp).hN (ob s' H C cl fp).hsc fnB_blk (o.calm hot) k2
    · exact im.v (ob s' H C cl fp) hK hx takes0 h3 h4
theorem sp_lc {g : Bool} {tg : MT} {it : MI} {m : ME} (ii : SI G c it) (im : SE G c m) {X : Cx} {sc : Scope} {Γ : Ga} {e : Expr} {ix : Nat} {y : Str} {py spos : Pos} (o : XOk G c sc X) (hK : Γ.K = G.K) (hx : XrOk Γ G) (tk : Takes X Γ.wx) (h : chkE c sc (.lc g tg it m) e = true) (hy : c.N[ix]? = some y) (hyl : sc.names.lookup y = some .local)
    (hsw : X.env.scope = sc → swapsWith e (some (.Name y py)) spos.line X.env = pure true) : PS X (.Assign [.Name y py] e spos) (tAsg (TD Γ (mN Γ.K) (denE G.C (.lc g tg it m))) (gName ix)) := by
  have inv : ∀ {sc : Scope} {e : Expr}, chkE c sc (.lc g tg it m) e = true → ∃ elt t i s p, e = .ListComp elt [⟨t, i, [], 0⟩] s p ∧ notSet i = true ∧ chkI c sc it t i true = true ∧ chkT c.N (relS s sc) (fnB s) tg t = true ∧ chkE c (relS s sc) m elt = true ∧ rdO m = false ∧ blkC c.N sc s (ownOf c.N s) = true ∧ (ownOf c.N s).map (·.2) = slotsT tg ∧ c.hot = false := fun {sc e} h => by
    unfold chkE at h
    split at h
    · rename_i elt t i s hx
      obtain ⟨p, rfl⟩ := xLc_inv hx
      simp only [Bool.and_eq_true, decide_eq_true_eq, Bool.not_eq_true'] at h
      exact ⟨elt, t, i, s, p, rfl, h.1.1.1.1.1.1.2, h.1.1.1.1.1.2, h.1.1.1.1.2, h.1.1.1.2, h.1.1.2, h.1.2, h.2, h.1.1.1.1.1.1.1⟩
    · cases h
  obtain ⟨elt, t, i, s, p, rfl, h0, h1, h2, h3, h4, h5, h6, hot⟩ := inv h
  have ob := fun s' H C cl fp => o.blk hot s s' H C cl fp
  refine ps_lcC (i := ix) (m := m) (tst := fun _ => T.ret true) (tt' := tYes) (g := g) o hot (by rw [o.hN]; exact hy) (by rw [o.hsc]; exact hyl) (hsw o.hsc) (o.KK hK) (ii o hK hx tk h1) (by rw [o.hN, o.hsc]; exact blkOk_by h5) h6 (fun s' H C cl fp => ?_) (fun _ _ _ _ _ => pts_nil) (fun σ H Q q => td_ret q) (fun s' H C cl fp => ?_) (folded h0 _) fun env => ?_
  · exact pg_tgt (by rw [o.hN]; exact o.nd) (ob s' H C cl fp).hN (ob s' H C cl fp).hsc fnB_blk (o.calm hot) h2
  · exact im.v (ob s' H C cl fp) hK hx takes0 h3 h4
  · rw [denE]
    congr
    funext xs
    congr
    funext _
    rw [filT_map (f := fun x => nox (asgT tg x env >>= fun env' => denE G.C m env' >>= asD)) fun x => ?_]
    show nox _ = _
    rw [← nox_some]
    congr 1
    rw [T.assoc]
    congr
    funext env'
    rw [T.assoc]
    rfl
theorem sp_lcIf {g : Bool} {tg : MT} {it : MI} {d m : ME} (ii : SI G c it) (id : SE G c d) (im : SE G c m) {X : Cx} {sc : Scope} {Γ : Ga} {e : Expr} {ix : Nat} {y : Str} {py spos : Pos} (o : XOk G c sc X) (hK : Γ.K = G.K) (hx : XrOk Γ G) (tk : Takes X Γ.wx) (h : chkE c sc (.lcIf g tg it d m) e = true) (hy : c.N[ix]? = some y) (hyl : sc.names.lookup y = some .local)
    (hsw : X.env.scope = sc → swapsWith e (some (.Name y py)) spos.line X.env = pure true) : PS X (.Assign [.Name y py] e spos) (tAsg (TD Γ (mN Γ.K) (denE G.C (.lcIf g tg it d m))) (gName ix)) := by
  have inv : ∀ {sc : Scope} {e : Expr}, chkE c sc (.lcIf g tg it d m) e = true → ∃ elt t i q s p, e = .ListComp elt [⟨t, i, [q], 0⟩] s p ∧ notSet i = true ∧ chkI c sc it t i true = true ∧ chkT c.N (relS s sc) (fnB s) tg t = true ∧ chkE c (relS s sc) d q = true ∧ rdO d = false ∧ chkE c (relS s sc) m elt = true ∧ rdO m = false ∧ blkC c.N sc s (ownOf c.N s) = true ∧ (ownOf c.N s).map (·.2) = slotsT tg ∧ c.hot = false := fun {sc e} h => by
    unfold chkE at h
    split at h
    · rename_i elt t i q s hx
      obtain ⟨p, rfl⟩ := xLc_inv hx
      simp only [Bool.and_eq_true, decide_eq_true_eq, Bool.not_eq_true'] at h
      exact ⟨elt, t, i, q, s, p, rfl, h.1.1.1.1.1.1.1.1.2, h.1.1.1.1.1.1.1.2, h.1.1.1.1.1.1.2, h.1.1.1.1.1.2, h.1.1.1.1.2, h.1.1.1.2, h.1.1.2, h.1.2, h.2, h.1.1.1.1.1.1.1.1.1⟩
    · cases h
  obtain ⟨elt, t, i, q, s, p, rfl, h0, h1, h2, d1, d2, h3, h4, h5, h6, hot⟩ := inv h
  have ob := fun s' H C cl fp => o.blk hot s s' H C cl fp
  refine ps_lcC (i := ix) (m := m) (tst := tt (denE G.C d)) (tt' := TD Γ.nx mB (tt (denE G.C d))) (g := g) o hot (by rw [o.hN]; exact hy) (by rw [o.hsc]; exact hyl) (hsw o.hsc) (o.KK hK) (ii o hK hx tk h1) (by rw [o.hN, o.hsc]; exact blkOk_by h5) h6 (fun s' H C cl fp => ?_) (fun s' H C cl fp => pts_one (id.pt (ob s' H C cl fp) hK hx takes0 d1 d2)) (fun σ H Q q => q) (fun s' H C cl fp => ?_) (folded h0 _) fun env => ?_
  · exact pg_tgt (by rw [o.hN]; exact o.nd) (ob s' H C cl fp).hN (ob s' H C cl fp).hsc fnB_blk (o.calm hot) h2
  · exact im.v (ob s' H C cl fp) hK hx takes0 h3 h4
  · rw [denE]
    congr
    funext xs
    congr
    funext _
    congr
    funext x
    show nox _ = nox _
    congr 1
    congr
    funext env'
    show _ = (denE G.C d env' >>= asD >>= asBool) >>= _
    congr
    funext b
    cases b
    · rfl
    · simp [T.assoc]
theorem sp_lc2 {g : Bool} {t1 t2 : MT} {i1 i2 : MI} {m : ME} (ii : SI G c i1) (ij : SI G c i2) (im : SE G c m) {X : Cx} {sc : Scope} {Γ : Ga} {e : Expr} {ix : Nat} {y : Str} {py spos : Pos} (o : XOk G c sc X) (hK : Γ.K = G.K) (hx : XrOk Γ G) (tk : Takes X Γ.wx) (h : chkE c sc (.lc2 g t1 i1 t2 i2 m) e = true) (hy : c.N[ix]? = some y) (hyl : sc.names.lookup y = some .local)
    (hsw : X.env.scope = sc → swapsWith e (some (.Name y py)) spos.line X.env = pure true) : PS X (.Assign [.Name y py] e spos) (tAsg (TD Γ (mN Γ.K) (denE G.C (.lc2 g t1 i1 t2 i2 m))) (gName ix)) := by
  have inv : ∀ {sc : Scope} {e : Expr}, chkE c sc (.lc2 g t1 i1 t2 i2 m) e = true → ∃ elt u1 j1 u2 j2 s p, e = .ListComp elt [⟨u1, j1, [], 0⟩, ⟨u2, j2, [], 0⟩] s p ∧ notSet j1 = true ∧ notSet j2 = true ∧ chkI c sc i1 u1 j1 true = true ∧ chkT c.N (relS s sc) (fnB s) t1 u1 = true ∧ chkI c (relS s sc) i2 u2 j2 false = true ∧
      chkT c.N (relS s sc) (fnB s) t2 u2 = true ∧ chkE c (relS s sc) m elt = true ∧ rdO m = false ∧ blkC c.N sc s (ownOf c.N s) = true ∧ (ownOf c.N s).map (·.2) = slotsT t1 ++ slotsT t2 ∧ c.hot = false := fun {sc e} h => by
    unfold chkE at h
    split at h
    · rename_i elt u1 j1 u2 j2 s hx
      obtain ⟨p, rfl⟩ := xLc_inv hx
      simp only [Bool.and_eq_true, decide_eq_true_eq, Bool.not_eq_true'] at h
      exact ⟨elt, u1, j1, u2, j2, s, p, rfl, h.1.1.1.1.1.1.1.1.1.2, h.1.1.1.1.1.1.1.1.2, h.1.1.1.1.1.1.1.2, h.1.1.1.1.1.1.2, h.1.1.1.1.1.2, h.1.1.1.1.2, h.1.1.1.2, h.1.1.2, h.1.2, h.2, h.1.1.1.1.1.1.1.1.1.1⟩
    · cases h
  obtain ⟨elt, u1, j1, u2, j2, s, p, rfl, a1, a2, h1, h2, k1, k2, h3, h4, h5, h6, hot⟩ := inv h
  have ob := fun s' H C cl fp => o.blk hot s s' H C cl fp
  refine ps_lc2C (i := ix) o hot (by rw [o.hN]; exact hy) (by rw [o.hsc]; exact hyl) (hsw o.hsc) (o.KK hK) (ii o hK hx tk h1) (by rw [o.hN, o.hsc]; exact blkOk_by h5) h6 (fun s' H C cl fp => ?_) (fun s' H C cl fp => ?_) (fun s' H C cl fp => ?_) (fun s' H C cl fp => ?_) (folded a1 _) fun env x => folded a2 env x
  · exact pg_tgt (by rw [o.hN]; exact o.nd) (ob s' H C cl fp).hN (ob s' H C cl fp).hsc fnB_blk (o.calm hot) h2
  · exact ij (Γ := Γ.nx) (ob s' H C cl fp) hK hx takes0 k1
  · exact pg_tgt (by rw [o.hN]; exact o.nd) (ob s' H C cl fp).hN (ob s' H C cl fp).hsc fnB_blk (o.calm hot) k2
  · exact im.v (ob s' H C cl fp) hK hx takes0 h3 h4
theorem se_alone {a : ME} : SE G c (.alone a) := by
  have no : ∀ {sc : Scope} {e : Expr}, chkE c sc (.alone a) e = true → False := fun {sc e} h => by
    unfold chkE at h
    cases h
  exact SE.of rfl (fun h => (no h).elim) fun _ _ _ _ h => (no h).elim
theorem prg_td {X : Cx} {Γ : Ga} {y : Expr} {b : ME} {x : Str} {p q : Pos} (GO : GOk G c) {sc : Scope} (o : XOk G c sc X) (hx : isB sc x "range" = true) (hs : notStar y = true) (hb : PE X y (TD Γ (mR Γ.K) (denE G.C b))) :
    PRg X (.Call (.Name x p) [y] [] q) (tRg1 (TD Γ (mR Γ.K) (denE G.C b))) := by
  obtain ⟨x1, x2, x3⟩ := isB_of hx
  subst x1
  exact prg_1 (o.gl x2) (by rw [o.hmg]; exact GO.blt "range" (by simp [bltNames])) hb (star1 hs [] X.env)
theorem rg_new {K : PySem.W.Frag} {W : Wd} {H : Hp} {b : Nat} {i j : Int} {xs : List PyData} (S : SR K W b H) (h : rangeD i j = T.ret xs) : L2.RgOk i j ∧ ∀ q, H q = none → Ext W H W (upd H q (.lst (rgV i j))) ∧ SR K W b (upd H q (.lst (rgV i j))) ∧ New K H W (upd H q (.lst (rgV i j))) (.d (.list xs)) (.ref q) := by
  obtain ⟨⟨a1, a2, a3, a4, a5⟩, rfl⟩ := rangeD_ret h
  have a6 : (j - i).toNat ≤ 2 ^ 24 := a5
  refine ⟨⟨a1, a2, a3, a4, a6⟩, fun q n => new_list S n (by rw [rgV_length, sizeLine_eq]; omega) ?_⟩
  refine DvAll.of_get (by rw [rgV_length, List.length_map, List.length_range]) fun k v d e e' => ?_
  unfold rgV at e
  rw [List.getElem?_map, Option.map_eq_some_iff] at e e'
  obtain ⟨k1, h1, rfl⟩ := e
  obtain ⟨k2, h2, rfl⟩ := e'
  rw [h1] at h2
  cases h2
  exact .int _
theorem rg_tup {K : PySem.W.Frag} {W : Wd} {H : Hp} {b : Nat} {i j : Int} {xs : List PyData} (S : SR K W b H) (h : rangeD i j = T.ret xs) : L2.RgOk i j ∧ ∀ q (o : Obj), H q = none → o.dict = none → ∃ W', Ext W H W' (upd H q (.frz o (.tup (rgV i j)))) ∧ SR K W' b (upd H q (.frz o (.tup (rgV i j)))) ∧ RV K W' (.d (.tuple xs)) (.ref q) := by
  obtain ⟨⟨a1, a2, a3, a4, a5⟩, rfl⟩ := rangeD_ret h
  have a6 : (j - i).toNat ≤ 2 ^ 24 := a5
  refine ⟨⟨a1, a2, a3, a4, a6⟩, fun q o n hd => new_tup hd S n (by rw [rgV_length, sizeLine_eq]; omega) ?_⟩
  refine DvAll.of_get (by rw [rgV_length, List.length_map, List.length_range]) fun k v d e e' => ?_
  unfold rgV at e
  rw [List.getElem?_map, Option.map_eq_some_iff] at e e'
  obtain ⟨k1, h1, rfl⟩ := e
  obtain ⟨k2, h2, rfl⟩ := e'
  rw [h1] at h2
  cases h2
  exact .int _
theorem se_ofI (GO : GOk G c) {l : Bool} {it : MI} (i1 : ∀ b, it = .range1 b → SE G c b) (i2 : ∀ a b, it = .range a b → SE G c a ∧ SE G c b) : SE G c (.ofI l it) := by
  have pl : ∀ {sc : Scope} {e : Expr}, chkE c sc (.ofI l it) e = true → ∃ f x p q, e = .Call (.Name f p) [x] [] q ∧ isB sc f (if l then "list" else "tuple") = true ∧ c.hot = false ∧ ((∃ b, it = .range1 b ∧ chkI c sc it (.Name f ⟨0, 0, 0, 0⟩) x true = true) ∨ (∃ a b, it = .range a b ∧ chkI c sc it (.Name f ⟨0, 0, 0, 0⟩) x true = true)) := fun {sc e} h => by
    unfold chkE at h
    split at h
    · rename_i f x hx
      obtain ⟨p, q, rfl⟩ := xCall_inv hx
      have h1 := (Bool.and_eq_true _ _).mp h
      have h2 := (Bool.and_eq_true _ _).mp h1.1
      refine ⟨f, x, p, q, rfl, h2.2, by simpa using h2.1, ?_⟩
      have h3 := h1.2
      clear h h1
      cases it with
      | range1 b => exact .inl ⟨b, rfl, h3⟩
      | range a b => exact .inr ⟨a, b, rfl, h3⟩
      | _ => cases h3
    · cases h
  refine SE.of rfl (fun {sc e} h => ?_) fun {X sc Γ e} o hK hx tk h => ?_
  · obtain ⟨f, x, p, q, rfl, _⟩ := pl h
    rfl
  · have hp := pl h
    clear h
    obtain ⟨f, x, p, q, rfl, hf, hot, h⟩ := hp
    cases l with
    | true =>
      simp only [if_true] at hf
      obtain ⟨f1, f2, f3⟩ := isB_of hf
      subst f1
      have hm : X.mg "list" = none := by rw [o.hmg]; exact GO.blt "list" (by simp [bltNames])
      rcases h with ⟨b, rfl, hh⟩ | ⟨a, b, rfl, hh⟩
      · unfold chkI at hh
        split at hh
        · rename_i r y hx'
          obtain ⟨p2, q2, rfl⟩ := xCall_inv hx'
          simp only [Bool.and_eq_true] at hh
          have hb := (i1 b rfl).r o hK hx tk hh.2
          refine (pe_listRg (o.calm hot) (o.gl f2) hm (prg_td GO o hh.1.1 hh.1.2 hb) rfl).imp fun σ H Q q => ?_
          obtain ⟨W, b0, env, S, X0, rr, k⟩ := q
          simp only [denE, denI, T.assoc, if_true] at k
          refine Wc.step mono_mN S X0 rr k fun b2 vb W2 H2 xb e2 S2 rb k => ?_
          obtain ⟨db, eb, k⟩ := Wc_plain plain_asD k
          obtain ⟨jb, ej, k⟩ := Wc_plain plain_asInt k
          rw [asD_ret eb, asInt_ret ej] at rb
          obtain ⟨xs, ex, k⟩ := Wc_plain (plain_bind plain_need fun _ => plain_ret _) k
          obtain ⟨g1, g2⟩ := rg_new S2 ex
          refine ⟨jb, RR.int rb, g1, fun q n => ?_⟩
          obtain ⟨g3, g4, g5⟩ := g2 q n
          exact k W2 _ _ g3 g4 g5
        · cases hh
      · unfold chkI at hh
        split at hh
        · rename_i r y z hx'
          obtain ⟨p2, q2, rfl⟩ := xCall_inv hx'
          simp only [Bool.and_eq_true] at hh
          have ha := (i2 a b rfl).1.r o hK hx tk hh.1.2
          have hb := (i2 a b rfl).2.r o hK hx tk hh.2
          obtain ⟨x1, x2, x3⟩ := isB_of hh.1.1.1.1
          subst x1
          refine (pe_listRg (o.calm hot) (o.gl f2) hm (prg_2 (o.gl x2) (by rw [o.hmg]; exact GO.blt "range" (by simp [bltNames])) ha hb (star1 hh.1.1.1.2 [z] X.env) (star1 hh.1.1.2 [] X.env) (by rw [star1 hh.1.1.2 [] X.env]; rfl)) rfl).imp fun σ H Q q => ?_
          obtain ⟨W, b0, env, S, X0, rr, k⟩ := q
          simp only [denE, denI, T.assoc, if_true] at k
          refine Wc.step mono_mN S X0 rr k fun b1 va W1 H1 xa e1 S1 ra k => ?_
          obtain ⟨da, ea, k⟩ := Wc_plain plain_asD k
          obtain ⟨ia, ei, k⟩ := Wc_plain plain_asInt k
          rw [asD_ret ea, asInt_ret ei] at ra
          refine Wc.step mono_mN S1 (X0.trans e1 S1) (rr.ext e1) k fun b2 vb W2 H2 xb e2 S2 rb k => ?_
          obtain ⟨db, eb, k⟩ := Wc_plain plain_asD k
          obtain ⟨jb, ej, k⟩ := Wc_plain plain_asInt k
          rw [asD_ret eb, asInt_ret ej] at rb
          obtain ⟨xs, ex, k⟩ := Wc_plain (plain_bind plain_need fun _ => plain_ret _) k
          obtain ⟨g1, g2⟩ := rg_new S2 ex
          refine ⟨ia, jb, RR.int ra, RR.int rb, g1, fun q n => ?_⟩
          obtain ⟨g3, g4, g5⟩ := g2 q n
          exact k W2 _ _ g3 g4 g5
        · cases hh
    | false =>
      simp only [Bool.false_eq_true, if_false] at hf
      obtain ⟨f1, f2, f3⟩ := isB_of hf
      subst f1
      have hm : X.mg "tuple" = none := by rw [o.hmg]; exact GO.blt "tuple" (by simp [bltNames])
      rcases h with ⟨b, rfl, hh⟩ | ⟨a, b, rfl, hh⟩
      · unfold chkI at hh
        split at hh
        · rename_i r y hx'
          obtain ⟨p2, q2, rfl⟩ := xCall_inv hx'
          simp only [Bool.and_eq_true] at hh
          have hb := (i1 b rfl).r o hK hx tk hh.2
          refine (pe_tupRgF (o.calm hot) (o.gl f2) hm (prg_td GO o hh.1.1 hh.1.2 hb) rfl).imp fun σ H Q q => ?_
          obtain ⟨W, b0, env, S, X0, rr, k⟩ := q
          simp only [denE, denI, T.assoc, if_false, Bool.false_eq_true] at k
          refine Wc.step mono_mV S X0 rr k fun b2 vb W2 H2 xb e2 S2 rb k => ?_
          obtain ⟨db, eb, k⟩ := Wc_plain plain_asD k
          obtain ⟨jb, ej, k⟩ := Wc_plain plain_asInt k
          rw [asD_ret eb, asInt_ret ej] at rb
          obtain ⟨xs, ex, k⟩ := Wc_plain (plain_bind plain_need fun _ => plain_ret _) k
          obtain ⟨g1, g2⟩ := rg_tup S2 ex
          refine ⟨jb, RR.int rb, g1, fun q ob n hd => ?_⟩
          obtain ⟨W9, g3, g4, g5⟩ := g2 q ob n hd
          exact k W9 _ _ g3 g4 g5
        · cases hh
      · unfold chkI at hh
        split at hh
        · rename_i r y z hx'
          obtain ⟨p2, q2, rfl⟩ := xCall_inv hx'
          simp only [Bool.and_eq_true] at hh
          have ha := (i2 a b rfl).1.r o hK hx tk hh.1.2
          have hb := (i2 a b rfl).2.r o hK hx tk hh.2
          obtain ⟨x1, x2, x3⟩ := isB_of hh.1.1.1.1
          subst x1
          refine (pe_tupRgF (o.calm hot) (o.gl f2) hm (prg_2 (o.gl x2) (by rw [o.hmg]; exact GO.blt "range" (by simp [bltNames])) ha hb (star1 hh.1.1.1.2 [z] X.env) (star1 hh.1.1.2 [] X.env) (by rw [star1 hh.1.1.2 [] X.env]; rfl)) rfl).imp fun σ H Q q => ?_
          obtain ⟨W, b0, env, S, X0, rr, k⟩ := q
          simp only [denE, denI, T.assoc, if_false, Bool.false_eq_true] at k
          refine Wc.step mono_mV S X0 rr k fun b1 va W1 H1 xa e1 S1 ra k => ?_
          obtain ⟨da, ea, k⟩ := Wc_plain plain_asD k
          obtain ⟨ia, ei, k⟩ := Wc_plain plain_asInt k
          rw [asD_ret ea, asInt_ret ei] at ra
          refine Wc.step mono_mV S1 (X0.trans e1 S1) (rr.ext e1) k fun b2 vb W2 H2 xb e2 S2 rb k => ?_
          obtain ⟨db, eb, k⟩ := Wc_plain plain_asD k
          obtain ⟨jb, ej, k⟩ := Wc_plain plain_asInt k
          rw [asD_ret eb, asInt_ret ej] at rb
          obtain ⟨xs, ex, k⟩ := Wc_plain (plain_bind plain_need fun _ => plain_ret _) k
          obtain ⟨g1, g2⟩ := rg_tup S2 ex
          refine ⟨ia, jb, RR.int ra, RR.int rb, g1, fun q ob n hd => ?_⟩
          obtain ⟨W9, g3, g4, g5⟩ := g2 q ob n hd
          exact k W9 _ _ g3 g4 g5
        · cases hh
theorem ses_nil : SEs G c .nil := fun {X sc Γ es} o hK hx tk => by
  refine ⟨fun h => ?_, fun h => ?_⟩
  · cases es with
    | nil => exact s_es_nil
    | cons _ _ => simp [chkEs] at h
  · cases es with
    | nil => exact s_as_nil
    | cons _ _ => simp [chkA] at h
theorem ses_cons {m : ME} {r : MEs} (i : SE G c m) (j : SEs G c r) : SEs G c (.cons m r) := fun {X sc Γ es} o hK hx tk => by
  refine ⟨fun h => ?_, fun h => ?_⟩
  · cases es with
    | nil => simp [chkEs] at h
    | cons x xs =>
      rw [chkEs] at h
      simp only [Bool.and_eq_true, Bool.not_eq_true'] at h
      exact s_es_cons (i.v o hK hx tk h.1.1.2 h.1.2) ((j o hK hx tk).1 h.2) h.1.1.1
  · cases es with
    | nil => simp [chkA] at h
    | cons x xs =>
      rw [chkA] at h
      simp only [Bool.and_eq_true, Bool.not_eq_true'] at h
      exact s_as_cons (i.v o hK hx tk h.1.1.2 h.1.2) ((j o hK hx tk).2 h.2) h.1.1.1
theorem ses_star {m : ME} {r : MEs} (i : SE G c m) (j : SEs G c r) : SEs G c (.star m r) := fun {X sc Γ es} o hK hx tk => by
  refine ⟨fun h => ?_, fun h => ?_⟩
  · cases es with
    | nil => simp [chkEs] at h
    | cons x xs =>
      rw [chkEs] at h
      cases x with
      | Starred y p =>
        have h : (chkE c sc m y && chkEs c sc r xs) = true := h
        simp only [Bool.and_eq_true] at h
        exact s_es_star (o.KK hK) (i.r o hK hx tk h.1) ((j o hK hx tk).1 h.2)
      | _ => simp [xStar] at h
  · cases es with
    | nil => simp [chkA] at h
    | cons x xs =>
      rw [chkA] at h
      cases x with
      | Starred y p =>
        have h : (chkE c sc m y && chkA c sc r xs) = true := h
        simp only [Bool.and_eq_true] at h
        exact s_as_star (o.KK hK) (i.r o hK hx tk h.1) ((j o hK hx tk).2 h.2)
      | _ => simp [xStar] at h
theorem SE.mM {m : ME} {r : Bool} (s : SE G c m) {X : Cx} {sc : Scope} {Γ : Ga} {e : Expr} (o : XOk G c sc X) (hK : Γ.K = G.K) (hx : XrOk Γ G) (tk : Takes X Γ.wx) (h : chkE c sc m e = true) (hr : r = true ∨ rdO m = false) : PE X e (TD Γ (mM (!r) Γ.K) (denE G.C m)) := by
  cases r with
  | true => exact s.r o hK hx tk h
  | false => exact s.v o hK hx tk h (hr.resolve_left (by simp))
theorem si_seq {m : ME} (i : SE G c m) : SI G c (.seq m) := fun {X sc Γ t e r} o hK hx tk h => by
  unfold chkI at h
  simp only [Bool.and_eq_true, Bool.or_eq_true, Bool.not_eq_true'] at h
  exact s_iseq (o.KK hK) (i.mM o hK hx tk h.1 h.2)
theorem si_range {a b : ME} (GO : GOk G c) (ia : SE G c a) (ib : SE G c b) : SI G c (.range a b) := fun {X sc Γ t e r} o hK hx tk h => by
  unfold chkI at h
  split at h
  · rename_i f x y hx'
    obtain ⟨p, q, rfl⟩ := xCall_inv hx'
    simp only [Bool.and_eq_true] at h
    exact s_irange GO o (o.KK hK) h.1.1.1.1 h.1.1.1.2 h.1.1.2 (ia.r o hK hx tk h.1.2) (ib.r o hK hx tk h.2)
  · cases h
theorem si_range1 {b : ME} (GO : GOk G c) (ib : SE G c b) : SI G c (.range1 b) := fun {X sc Γ t e r} o hK hx tk h => by
  unfold chkI at h
  split at h
  · rename_i f y hx'
    obtain ⟨p, q, rfl⟩ := xCall_inv hx'
    simp only [Bool.and_eq_true] at h
    exact s_irange1 GO o (o.KK hK) h.1.1 h.1.2 (ib.r o hK hx tk h.2)
  · cases h
theorem tup_of {t : Expr} (h : (xTup t).isSome = true) : ∃ es k p, t = .Tuple es k p := by
  cases hx : xTup t with
  | none => rw [hx] at h; cases h
  | some es =>
    obtain ⟨k, p, rfl⟩ := xTup_inv hx
    exact ⟨es, k, p, rfl⟩
theorem si_enum {b : ME} (GO : GOk G c) (ib : SE G c b) : SI G c (.enum b) := fun {X sc Γ t e r} o hK hx tk h => by
  unfold chkI at h
  split at h
  · rename_i f y hx'
    obtain ⟨p, q, rfl⟩ := xCall_inv hx'
    simp only [Bool.and_eq_true, Bool.or_eq_true, Bool.not_eq_true'] at h
    obtain ⟨es, k, tp, rfl⟩ := tup_of h.2
    exact s_ienum GO o (o.KK hK) h.1.1.1.1 h.1.1.1.2 (ib.mM o hK hx tk h.1.1.2 h.1.2)
  · cases h
theorem si_zip {a b : ME} (GO : GOk G c) (ia : SE G c a) (ib : SE G c b) : SI G c (.zip a b) := fun {X sc Γ t e r} o hK hx tk h => by
  unfold chkI at h
  split at h
  · rename_i f x y hx'
    obtain ⟨p, q, rfl⟩ := xCall_inv hx'
    simp only [Bool.and_eq_true, Bool.or_eq_true, Bool.not_eq_true'] at h
    exact s_izip GO o (o.KK hK) h.1.1.1.1.1 h.1.1.1.1.2 h.1.1.1.2 (ia.mM o hK hx tk h.1.1.2 (h.2.imp id (·.1))) (ib.mM o hK hx tk h.1.2 (h.2.imp id (·.2)))
  · cases h
theorem si_none {a b d : ME} : SI G c (.range3 a b d) := fun {X sc Γ t e r} o hK hx tk h => by
  simp [chkI] at h
mutual
theorem sE (GO : GOk G c) : ∀ m : ME, SE G c m
  | .var i => se_var i
  | .rd i => se_rd i
  | .brw e => se_brw (sE GO e)
  | .gl k => se_gl GO k
  | .k v => se_k v
  | .tup es => se_tup (sEs GO es)
  | .lst es => se_lst (sEs GO es)
  | .dict0 => se_dict0
  | .o1 _ a => mem_o1 GO (sE GO a)
  | .o2 _ a b => mem_o2 GO (sE GO a) (sE GO b)
  | .slL a b => se_slL (sE GO a) (sE GO b)
  | .slU a b => se_slU (sE GO a) (sE GO b)
  | .slLU a b d => se_slLU (sE GO a) (sE GO b) (sE GO d)
  | .and a b => se_and (sE GO a) (sE GO b)
  | .or a b => se_or (sE GO a) (sE GO b)
  | .ife a b d => se_ife (sE GO a) (sE GO b) (sE GO d)
  | .chain _ _ a b d => se_chain (sE GO a) (sE GO b) (sE GO d)
  | .call _ as => se_call GO (sEs GO as)
  | .draw _ m => se_draw GO (sE GO m)
  | .isi _ a => se_isi GO (sE GO a)
  | .lc _ _ it m => se_lc (sI GO it) (sE GO m)
  | .lcIf _ _ it d m => se_lcIf (sI GO it) (sE GO d) (sE GO m)
  | .lc2 _ _ i1 _ i2 m => se_lc2 (sI GO i1) (sI GO i2) (sE GO m)
  | .fld a _ => se_fld GO (sE GO a)
  | .isx _ a => se_isx GO (sE GO a)
  | .alone _ => se_alone
  | .ofI _ (.range1 b) => se_ofI GO (fun _ h => by cases h; exact sE GO b) (fun _ _ h => by cases h)
  | .ofI _ (.range a b) => se_ofI GO (fun _ h => by cases h) (fun _ _ h => by cases h; exact ⟨sE GO a, sE GO b⟩)
  | .ofI _ (.seq _) => se_ofI GO (fun _ h => by cases h) (fun _ _ h => by cases h)
  | .ofI _ (.range3 _ _ _) => se_ofI GO (fun _ h => by cases h) (fun _ _ h => by cases h)
  | .ofI _ (.enum _) => se_ofI GO (fun _ h => by cases h) (fun _ _ h => by cases h)
  | .ofI _ (.zip _ _) => se_ofI GO (fun _ h => by cases h) (fun _ _ h => by cases h)
  | .mth _ a b => se_mth (sE GO a) (sE GO b)
theorem sEs (GO : GOk G c) : ∀ m : MEs, SEs G c m
  | .nil => ses_nil
  | .cons m r => ses_cons (sE GO m) (sEs GO r)
  | .star e r => ses_star (sE GO e) (sEs GO r)
theorem sI (GO : GOk G c) : ∀ m : MI, SI G c m
  | .seq m => si_seq (sE GO m)
  | .range a b => si_range GO (sE GO a) (sE GO b)
  | .range1 b => si_range1 GO (sE GO b)
  | .range3 _ _ _ => si_none
  | .enum m => si_enum GO (sE GO m)
  | .zip a b => si_zip GO (sE GO a) (sE GO b)
end
end Mp
namespace Mp
open PySem PySem.Spec PyProof.Rows L2
open Mp.T (Wc)
def endS (Γ : Ga) (W : Wd) (Q : L2.St → Hp → Prop) (b : Nat) (env : Ev) : Prop := ∀ W' H' σ', W.Le W' → Ext Γ.W0 Γ.H0 W' H' → SR Γ.K W' b H' → ER Γ.K Γ.H0 W' σ' H' env → Q σ' H'
def postS (Γ : Ga) (W : Wd) (D : Ends) : Nat → Fl × Ev → Prop := fun b p => match p.1 with
  | .nx => endS Γ W D.nx b p.2
  | .bk => endS Γ W D.bk b p.2
  | .ct => endS Γ W D.ct b p.2
  | .rt v => ∀ W' H' u, Ext Γ.W0 Γ.H0 W' H' → SR Γ.K W' b H' → RV Γ.K W' v u → D.rt u H'
def postX (Γ : Ga) : Nat → Ex → Prop := fun b e => ∀ σ W' H' cls d, Ext Γ.W0 Γ.H0 W' H' → SR Γ.K W' b H' → Γ.xr W' H' e cls d → Γ.wx cls d σ H'
theorem postS.le {Γ : Ga} {W W1 : Wd} {D : Ends} (l : W.Le W1) {b : Nat} {p : Fl × Ev} (h : postS Γ W D b p) : postS Γ W1 D b p := by
  obtain ⟨f, e⟩ := p
  cases f with
  | nx => exact fun W' H' σ' l' => h W' H' σ' (l.trans l')
  | bk => exact fun W' H' σ' l' => h W' H' σ' (l.trans l')
  | ct => exact fun W' H' σ' l' => h W' H' σ' (l.trans l')
  | rt v => exact h
theorem Wc.le {Γ : Ga} {W W1 : Wd} {D : Ends} (l : W.Le W1) {b : Nat} {t : T (Fl × Ev)} (h : Wc (postS Γ W D) (postX Γ) b t) : Wc (postS Γ W1 D) (postX Γ) b t := T.Wc.mono (fun _ _ q => postS.le l q) (fun _ _ z => z) _ _ h
def TDS (Γ : Ga) (t : Ev → T (Fl × Ev)) : TS := fun D σ H => ∃ W b env, SR Γ.K W b H ∧ Ext Γ.W0 Γ.H0 W H ∧ ER Γ.K Γ.H0 W σ H env ∧ Wc (postS Γ W D) (postX Γ) b (t env)
section
variable {G : Gf} {c : Ck} {sc : Scope} {X : Cx} {Γ : Ga} {W : Wd} {H : Hp} {b : Nat} {env : Ev} {σ : L2.St} {D : Ends}
theorem Wc.stepS {α β γ : Type} {rel : Rel α β} {t : Ev → T α} {f : α → T γ} {Q : Nat → γ → Prop} {R : β → Hp → Prop} (S : SR Γ.K W b H) (X0 : Ext Γ.W0 Γ.H0 W H) (r : ER Γ.K Γ.H0 W σ H env)
    (h : Wc Q (postX Γ) b (t env >>= f)) (k : ∀ b1 a W1 H1 v, Ext W H W1 H1 → SR Γ.K W1 b1 H1 → Ext Γ.W0 Γ.H0 W1 H1 → ER Γ.K Γ.H0 W1 σ H1 env → rel W H W1 H1 a v → Wc Q (postX Γ) b1 (f a) → R v H1) : TD Γ rel t σ H R :=
  ⟨W, b, env, S, X0, r, T.Wc.mono (fun b1 a ha W1 H1 v e1 S1 q => k b1 a W1 H1 v e1 S1 (X0.trans e1 S1) (r.ext e1) q ha) (fun b1 e he W1 H1 cls d e1 S1 x => he σ W1 H1 cls d (X0.trans e1 S1) S1 x) _ _ ((T.Wc_bind _ _).mp h)⟩
theorem SlotR.upd {K : PySem.W.Frag} {s : Slot} {o : Option (Option V)} {f : List Addr} {a : Addr} {u : HO} (h : a ∉ f) (r : SlotR K W H s o f) : SlotR K W (upd H a u) s o f := by
  have ne : ∀ c ∈ f, L2.upd H a u c = H c := fun c hc => upd_ne fun e => h (e ▸ hc)
  cases r with
  | un => exact .un
  | v q => exact .v q
  | own e z q => exact .own (by rw [ne _ List.mem_cons_self]; exact e) z q
  | own2 e z q =>
    refine .own2 (by rw [ne _ List.mem_cons_self]; exact e) z ?_
    have rr : ∀ {as : List Addr} {xss : List (List PyData)}, (∀ c ∈ as, L2.upd H a u c = H c) → Rows K W H as xss → Rows K W (L2.upd H a u) as xss := fun {as xss} hn q => by
      induction q with
      | nil => exact .nil
      | cons e z q _ ih => exact .cons (by rw [hn _ List.mem_cons_self]; exact e) z q (ih fun c hc => hn c (List.mem_cons_of_mem _ hc))
    exact rr (fun c hc => ne c (List.mem_cons_of_mem _ hc)) q
/-- an own list, and what may be done to it -/
theorem ER.ownU {K : PySem.W.Frag} {W0 : Wd} {H0 : Hp} {l : Nat} {xs : List PyData} (X0 : Ext W0 H0 W H) (S : SR K W b H) (r : ER K H0 W σ H env) (h : env.at l = .own xs) : ∃ a vs, σ[l]? = some (some (.ref a)) ∧ H a = some (.lst vs) ∧ vs.length ≤ sizeLine ∧ DvAll K W.F vs xs ∧ ¬ W.isG a ∧
    ∀ vs' xs', vs'.length ≤ sizeLine → DvAll K W.F vs' xs' → SR K W b (upd H a (.lst vs')) ∧ Ext W0 H0 W (upd H a (.lst vs')) ∧ ER K H0 W σ (upd H a (.lst vs')) (env.set l (.own xs')) := by
  obtain ⟨hl, fp, h1, h2, h3, h4⟩ := r
  have s := h1 l
  have m := h2 l
  rw [h] at s
  generalize hf : fp l = f at s m
  generalize hσ : σ[l]? = o at s
  cases s with
  | @own a vs _ e z q =>
    obtain ⟨m1, m2, m3⟩ := m a List.mem_cons_self
    refine ⟨a, vs, rfl, e, z, q, m3, fun vs' xs' z' q' => ⟨S.write m1 m3, X0.write m2, ?_⟩⟩
    refine ⟨by rw [List.length_set]; exact hl, fp, fun j => ?_, h2, h3, h4⟩
    by_cases hj : j = l
    · subst hj
      have hlt : j < env.length := by
        have : j < σ.length := by
          have := List.getElem?_eq_some_iff.mp hσ
          exact this.1
        omega
      rw [at_set, if_pos ⟨rfl, hlt⟩, hf, hσ]
      exact .own upd_same z' q'
    · rw [at_set, if_neg fun q => hj q.1]
      refine (h1 j).upd fun ha => hj ?_
      exact h4 j l a ha (by rw [hf]; exact List.mem_cons_self)
theorem ER.putN' {K : PySem.W.Frag} {H0 : Hp} {W1 W0 : Wd} {H1 : Hp} {i : Nat} {v : V} {xs : List PyData} (X0 : Ext W0 H0 W H) (S : SR K W b H) (r : ER K H0 W σ H env) (h : Ext W H W1 H1) (q : New K H W1 H1 (.d (.list xs)) v) : ER K H0 W1 (σ.set i (some v)) H1 (env.set i (.own xs)) := by
  obtain ⟨a, vs, xs', e, rfl, n, e1, nf, ng, z, q⟩ := q
  cases e
  by_cases hi : i < env.length
  · exact r.putN X0 S hi h n e1 nf ng z q
  · rw [List.set_eq_of_length_le (by have := r.len; omega), List.set_eq_of_length_le (by omega)]
    exact r.ext h
theorem plain_ownAt {l : Nat} : Plain (ownAt env l) := by
  unfold ownAt
  split
  · exact plain_ret _
  · exact plain_stuck
theorem ownAt_ret {l : Nat} {xs : List PyData} (h : ownAt env l = T.ret xs) : env.at l = .own xs := by
  unfold ownAt at h
  split at h
  · rename_i ys e
    rw [ret_inj h] at e
    exact e
  · cases h
/-- what the frame's context adds for statements -/
structure XD (G : Gf) (c : Ck) (sc : Scope) (X : Cx) (Γ : Ga) : Prop where
  o : XOk G c sc X
  kd : X.env.scope.kind = .function
  fn : ∀ x, X.fn x = true
  own : PassesOwn (model X.prog X.w) X.A X.env X.xe
  tk : Takes X Γ.wx
  hK : Γ.K = G.K
  hx : XrOk Γ G
  stk : X.stack = X.env :: X.outer
  frm : X.env.frame = some X.env.locals
def SS (G : Gf) (c : Ck) (s : MS) : Prop := ∀ {X : Cx} {sc : Scope} {Γ : Ga} {st : Stmt}, XD G c sc X Γ → chkS c sc s st = true → PS X st (TDS Γ (denS G.C s))
def SSs (G : Gf) (c : Ck) (s : MSs) : Prop := ∀ {X : Cx} {sc : Scope} {Γ : Ga} {st : List Stmt}, XD G c sc X Γ → chkSs c sc s st = true → PSs X st (TDS Γ (denSs G.C s))
theorem ss_retN : SS G c .retN := fun {X sc Γ st} d h => by
  unfold chkS at h
  split at h
  · rename_i hx
    unfold xRet at hx
    split at hx
    · cases hx
      refine ps_retN.imp fun D σ H ⟨W, b, env, S, X0, r, k⟩ => ?_
      rw [denS] at k
      exact k W H .non X0 S (.d .non)
    · cases hx
  · cases h
theorem ss_ret (GO : GOk G c) {m : ME} : SS G c (.ret m) := fun {X sc Γ st} d h => by
  unfold chkS at h
  split at h
  · rename_i e hx
    unfold xRet at hx
    split at hx
    · cases hx
      rw [Bool.and_eq_true, Bool.not_eq_true'] at h
      refine (ps_ret ((sE GO m).v d.o d.hK d.hx d.tk h.1 h.2)).imp fun D σ H ⟨W, b, env, S, X0, r, k⟩ => ?_
      rw [denS] at k
      exact Wc.stepS S X0 r k fun b1 v W1 H1 u e1 S1 X1 r1 q k => k W1 H1 u X1 S1 q
    · cases hx
  · cases h
theorem ss_never : SS G c .never := fun {X sc Γ st} d h => ps_never.imp fun D σ H ⟨W, b, env, S, X0, r, k⟩ => by
  rw [denS] at k
  exact k
theorem ss_pass : SS G c .pass := fun {X sc Γ st} d h => by
  unfold chkS isPass at h
  split at h
  · refine ps_pass.imp fun D σ H ⟨W, b, env, S, X0, r, k⟩ => ?_
    rw [denS] at k
    exact k W H σ (Wd.Le.refl W) X0 S r
  · cases h
theorem ss_brk : SS G c .brk := fun {X sc Γ st} d h => by
  unfold chkS isBrk at h
  split at h
  · refine ps_break.imp fun D σ H ⟨W, b, env, S, X0, r, k⟩ => ?_
    rw [denS] at k
    exact k W H σ (Wd.Le.refl W) X0 S r
  · cases h
theorem ss_cont : SS G c .cont := fun {X sc Γ st} d h => by
  unfold chkS isCont at h
  split at h
  · refine ps_continue.imp fun D σ H ⟨W, b, env, S, X0, r, k⟩ => ?_
    rw [denS] at k
    exact k W H σ (Wd.Le.refl W) X0 S r
  · cases h
theorem ss_ex (GO : GOk G c) {m : ME} : SS G c (.ex m) := fun {X sc Γ st} d h => by
  unfold chkS at h
  split at h
  · rename_i e p hx
    unfold xExpr at hx
    split at hx
    · cases hx
      rw [Bool.and_eq_true, Bool.not_eq_true'] at h
      refine (ps_expr ((sE GO m).r d.o d.hK d.hx d.tk h.1) (by cases e <;> first | rfl | cases h.2)).imp fun D σ H ⟨W, b, env, S, X0, r, k⟩ => ?_
      rw [denS] at k
      exact Wc.stepS S X0 r k fun b1 v W1 H1 u e1 S1 X1 r1 q k => k W1 H1 σ e1.le X1 S1 r1
    · cases hx
  · cases h
theorem ss_ite (GO : GOk G c) {p : ME} {a b : MSs} (ia : SSs G c a) (ib : SSs G c b) : SS G c (.ite p a b) := fun {X sc Γ st} d h => by
  unfold chkS at h
  split at h
  · rename_i e x y hx
    unfold xIfS at hx
    split at hx
    · cases hx
      simp only [Bool.and_eq_true, Bool.not_eq_true'] at h
      refine (ps_if ((sE GO p).pt d.o d.hK d.hx d.tk h.1.1.1 h.1.1.2) (ia d h.1.2) (ib d h.2)).imp fun D σ H ⟨W, b0, env, S, X0, r, k⟩ => ?_
      have k : Wc (postS Γ W D) (postX Γ) b0 (tt (denE G.C p) env >>= fun t => if t then denSs G.C a env else denSs G.C b env) := by
        rw [denS] at k
        exact k
      refine Wc.stepS (rel := mB) S X0 r k fun b1 v W1 H1 u e1 S1 X1 r1 q k => ?_
      obtain rfl : v = u := q
      cases v with
      | true => exact ⟨W1, b1, env, S1, X1, r1, Wc.le e1.le k⟩
      | false => exact ⟨W1, b1, env, S1, X1, r1, Wc.le e1.le k⟩
    · cases hx
  · cases h
theorem sss_nil : SSs G c .nil := fun {X sc Γ st} d h => by
  cases st with
  | nil =>
    refine pss_nil.imp fun D σ H ⟨W, b, env, S, X0, r, k⟩ => ?_
    rw [denSs] at k
    exact k W H σ (Wd.Le.refl W) X0 S r
  | cons _ _ => simp [chkSs] at h
theorem TDS.seq {t : Ev → T (Fl × Ev)} {u : Ev → T (Fl × Ev)} (h : TDS Γ (fun env => t env >>= fun p => match p.1 with
    | .nx => u p.2
    | f => T.ret (f, p.2)) D σ H) : TDS Γ t { D with nx := TDS Γ u D } σ H := by
  obtain ⟨W, b, env, S, X0, r, k⟩ := h
  refine ⟨W, b, env, S, X0, r, T.Wc.mono (fun b1 p hp => ?_) (fun _ _ z => z) _ _ ((T.Wc_bind _ _).mp k)⟩
  obtain ⟨f, e1⟩ := p
  cases f with
  | nx => exact fun W1 H1 σ1 l1 X1 S1 r1 => ⟨W1, b1, e1, S1, X1, r1, Wc.le l1 hp⟩
  | bk => exact hp
  | ct => exact hp
  | rt v => exact hp
theorem sss_cons {s : MS} {r : MSs} (hf : ∀ i, s ≠ .frz i) (is : SS G c s) (ir : SSs G c r) : SSs G c (.cons s r) := fun {X sc Γ st} d h => by
  cases st with
  | nil => cases s <;> simp [chkSs] at h <;> exact absurd rfl (hf _)
  | cons t ts =>
    have h : (chkS c sc s t && chkSs c sc r ts) = true := by
      cases s <;> first | (exact absurd rfl (hf _)) | (simpa [chkSs] using h)
    rw [Bool.and_eq_true] at h
    refine (pss_cons (is d h.1) (ir d h.2)).imp fun D σ H q => ?_
    refine TDS.seq (t := denS G.C s) (u := denSs G.C r) ?_
    obtain ⟨W, b, env, S, X0, rr, k⟩ := q
    refine ⟨W, b, env, S, X0, rr, ?_⟩
    rw [denSs] at k
    exact k
theorem sss_frz {i : Nat} {r : MSs} (ir : SSs G c r) : SSs G c (.cons (.frz i) r) := fun {X sc Γ st} d h => by
  have h : chkSs c sc r st = true := by
    cases st <;> simpa [chkSs] using h
  refine (ir d h).imp fun D σ H ⟨W, b, env, S, X0, rr, k⟩ => ?_
  have k : Wc (postS Γ W D) (postX Γ) b (denSs G.C r (env.set i (env.at i).fz)) := by
    rw [denSs, denS] at k
    exact k
  obtain ⟨F', le, S', X', r'⟩ := rr.freeze (env' := env.set i (env.at i).fz) X0 S (fun j => j = i) (by rw [List.length_set]) (fun j hj => by
    subst hj
    rw [at_set]
    by_cases hl : j < env.length
    · rw [if_pos ⟨rfl, hl⟩]
    · rw [if_neg fun q => hl q.2, at_out env j (by omega)]
      rfl) fun j hj => by rw [at_set, if_neg fun q => hj q.1]
  exact ⟨⟨F', W.g, W.x⟩, b, _, S', X', r', Wc.le (W := W) (W1 := ⟨F', W.g, W.x⟩) ⟨le, fun _ e => e, rfl⟩ k⟩
end
end Mp
namespace Mp
open PySem PySem.Spec PyProof.Rows L2
open Mp.T (Wc)
section
variable {G : Gf} {c : Ck} {sc : Scope} {X : Cx} {Γ : Ga} {W : Wd} {H : Hp} {b : Nat} {env : Ev} {σ : L2.St} {D : Ends}
theorem xAsg_inv {s : Stmt} {t v : Expr} {p : Pos} (h : xAsg s = some (t, v, p)) : s = .Assign [t] v p := by
  unfold xAsg at h
  split at h
  · cases h
    rfl
  · cases h
theorem xExpr_inv {s : Stmt} {e : Expr} {p : Pos} (h : xExpr s = some (e, p)) : s = .Expr e p := by
  unfold xExpr at h
  split at h
  · cases h
    rfl
  · cases h
theorem xNMeth_inv {e : Expr} {x m : Str} {as : List Expr} (h : xNMeth e = some (x, m, as)) : ∃ xp p q, e = .Call (.Attribute (.Name x xp) m p) as [] q ∧ (p.endLine == q.line) = true := by
  unfold xNMeth at h
  split at h
  · split at h
    · rename_i hl
      cases h
      exact ⟨_, _, _, rfl, hl⟩
    · cases h
  · cases h
theorem sw_no {env : PySem.Env} {y : Str} {py : Pos} {e : Expr} {l : Nat} (hsc : env.scope = sc) (hk : env.scope.kind = .function) (h : swC sc y py e = false) : swapsWith e (some (.Name y py)) l env = pure false := by
  cases e with
  | ListComp elt gs s p =>
    have hb : env.blockKind = .function := by unfold Env.blockKind; rw [hk]; rfl
    have e0 : swapsWith (.ListComp elt gs s p) (some (.Name y py)) l env = pure (env.blockKind == .function && env.kindOf y == some .local && py.line == p.line && !(s.names.any fun (n, k) => n == y && (k == .local || k == .cell))) := rfl
    rw [e0]
    congr 1
    have h : (decide (sc.names.lookup y = some .local) && py.line == p.line && !(s.names.any fun (n, k) => n == y && (k == .local || k == .cell))) = false := h
    have ek : (env.kindOf y == some NameKind.local) = decide (sc.names.lookup y = some .local) := by
      show (env.scope.names.lookup y == some NameKind.local) = _
      rw [hsc]
      cases hl : sc.names.lookup y with
      | none => rfl
      | some k => cases k <;> rfl
    rw [ek, hb]
    exact h
  | SetComp _ _ _ _ => cases h
  | DictComp _ _ _ _ _ => cases h
  | _ => rfl
theorem sw_yes {env : PySem.Env} {y : Str} {py p : Pos} {elt : Expr} {gs : List Comprehension} {s : Scope} {l : Nat} (hsc : env.scope = sc) (hk : env.scope.kind = .function) (h : swC sc y py (.ListComp elt gs s p) = true) : swapsWith (.ListComp elt gs s p) (some (.Name y py)) l env = pure true := by
  have h : (decide (sc.names.lookup y = some .local) && py.line == p.line && !(s.names.any fun (n, k) => n == y && (k == .local || k == .cell))) = true := h
  simp only [Bool.and_eq_true, decide_eq_true_eq, Bool.not_eq_true'] at h
  exact sw_true hk (by rw [hsc]; exact h.1.1) h.1.2 h.2
/-- name = e: the two forms as one -/
theorem s_setN (GO : GOk G c) {m : ME} {i : Nat} {y : Str} {py p : Pos} {v : Expr} (d : XD G c sc X Γ) (h : chkE c sc m v = true) (hr : rdO m = false) (hN : c.N[i]? = some y) (hl : locF sc allF y = true) (hs : (!(swC sc y py v) || isLcM m) = true) :
    PS X (.Assign [.Name y py] v p) (tAsg (TD Γ (md Γ.K m) (denE G.C m)) (gName i)) := by
  obtain ⟨l1, l2⟩ := locF_of d.o.hsc (fun x _ => d.fn x) hl
  cases hw : swC sc y py v with
  | false => exact ps_set (by rw [d.o.hN]; exact d.o.nd) (by rw [d.o.hN]; exact hN) l1 ((sE GO m).pe d.o d.hK d.hx d.tk h) (sw_no d.o.hsc d.kd hw) l2
  | true =>
    rw [hw] at hs
    have hm : isLcM m = true := by simpa using hs
    have loc : ∀ {elt gs s q}, v = .ListComp elt gs s q → sc.names.lookup y = some .local := fun {elt gs s q} e => by
      subst e
      have h : (decide (sc.names.lookup y = some .local) && py.line == q.line && !(s.names.any fun (n, k) => n == y && (k == .local || k == .cell))) = true := hw
      simp only [Bool.and_eq_true, decide_eq_true_eq] at h
      exact h.1.1
    have shape : ∃ elt gs s q, v = .ListComp elt gs s q := by
      cases m with
      | lc g tg it m =>
        unfold chkE at h
        split at h
        · rename_i hx
          obtain ⟨q, rfl⟩ := xLc_inv hx
          exact ⟨_, _, _, _, rfl⟩
        · cases h
      | lcIf g tg it q m =>
        unfold chkE at h
        split at h
        · rename_i hx
          obtain ⟨q, rfl⟩ := xLc_inv hx
          exact ⟨_, _, _, _, rfl⟩
        · cases h
      | lc2 g t1 i1 t2 i2 m =>
        unfold chkE at h
        split at h
        · rename_i hx
          obtain ⟨q, rfl⟩ := xLc_inv hx
          exact ⟨_, _, _, _, rfl⟩
        · cases h
      | _ => cases hm
    obtain ⟨elt, gs, s, q, rfl⟩ := shape
    have hsw : X.env.scope = sc → swapsWith (.ListComp elt gs s q) (some (.Name y py)) p.line X.env = pure true := fun hsc => sw_yes hsc d.kd hw
    cases m with
    | lc g tg it m => exact sp_lc (sI GO it) (sE GO m) d.o d.hK d.hx d.tk h hN (loc rfl) hsw
    | lcIf g tg it q m => exact sp_lcIf (sI GO it) (sE GO q) (sE GO m) d.o d.hK d.hx d.tk h hN (loc rfl) hsw
    | lc2 g t1 i1 t2 i2 m => exact sp_lc2 (sI GO i1) (sI GO i2) (sE GO m) d.o d.hK d.hx d.tk h hN (loc rfl) hsw
    | _ => cases hm
theorem ss_asg (GO : GOk G c) {i : Nat} {m : ME} : SS G c (.asg i m) := fun {X sc Γ st} d h => by
  unfold chkS at h
  split at h
  · rename_i t v p hx
    obtain rfl := xAsg_inv hx
    simp only [Bool.and_eq_true, Bool.not_eq_true'] at h
    obtain ⟨⟨h1, h2⟩, h3⟩ := h
    split at h3
    · rename_i y py
      simp only [Bool.and_eq_true, decide_eq_true_eq] at h3
      refine (s_setN GO d h1 h2 h3.1.1 h3.1.2 h3.2).imp fun D σ H ⟨W, b, env, S, X0, r, k⟩ => ?_
      rw [denS] at k
      refine td_mdV h2 (Wc.stepS S X0 r k fun b1 v W1 H1 u e1 S1 X1 r1 q k => ?_)
      exact k W1 H1 _ e1.le X1 S1 (r1.putV' q)
    · cases h3
  · cases h
theorem md_mk {m : ME} (h : mk m = true) (hr : rdO m = false) : md Γ.K m = mN Γ.K := by
  unfold md
  rw [if_neg (by rw [hr]; simp), if_pos h]
theorem ss_asgO (GO : GOk G c) {i : Nat} {m : ME} : SS G c (.asgO i m) := fun {X sc Γ st} d h => by
  unfold chkS at h
  split at h
  · rename_i t v p hx
    obtain rfl := xAsg_inv hx
    simp only [Bool.and_eq_true, Bool.not_eq_true'] at h
    obtain ⟨⟨⟨h1, hm⟩, h2⟩, h3⟩ := h
    split at h3
    · rename_i y py
      simp only [Bool.and_eq_true, decide_eq_true_eq] at h3
      refine (s_setN GO d h1 h2 h3.1.1 h3.1.2 h3.2).imp fun D σ H ⟨W, b, env, S, X0, r, k⟩ => ?_
      simp only [denS, T.assoc] at k
      rw [md_mk hm h2]
      refine Wc.stepS S X0 r k fun b1 v W1 H1 u e1 S1 X1 r1 q k => ?_
      obtain ⟨dd, ed, k⟩ := Wc_plain plain_asD k
      obtain ⟨xs, el, k⟩ := Wc_plain plain_asList k
      rw [asD_ret ed, asList_ret el] at q
      exact k W1 H1 _ e1.le X1 S1 (r.putN' X0 S e1 q)
    · cases h3
  · cases h
theorem nmOk_of {i : Nat} {x : Str} (d : XD G c sc X Γ) (h : nmOk c sc i x = true) {p : Pos} : PE X (.Name x p) (tVar i) := by
  unfold nmOk at h
  rw [Bool.and_eq_true] at h
  obtain ⟨v1, v2, v3⟩ := vis_of h.2
  exact pe_var (by rw [d.o.hN]; exact of_decide_eq_true h.1) (by rw [d.o.hsc]; exact v1) v2 v3
theorem ss_mov {i j : Nat} : SS G c (.mov i j) := fun {X sc Γ st} d h => by
  unfold chkS at h
  split at h
  · rename_i t v p hx
    obtain rfl := xAsg_inv hx
    split at h
    · rename_i y x hy hx'
      obtain ⟨py, rfl⟩ := xName_inv hy
      obtain ⟨px, rfl⟩ := xName_inv hx'
      simp only [Bool.and_eq_true, decide_eq_true_eq, Bool.not_eq_true', decide_eq_false_iff_not] at h
      obtain ⟨⟨⟨h1, h2⟩, h3⟩, h4⟩ := h
      obtain ⟨l1, l2⟩ := locF_of d.o.hsc (fun x _ => d.fn x) h2
      refine (ps_set (by rw [d.o.hN]; exact d.o.nd) (by rw [d.o.hN]; exact h1) l1 (nmOk_of d h3) rfl l2).imp fun D σ H ⟨W, b, env, S, X0, r, k⟩ => ?_
      rw [denS] at k
      obtain ⟨xs, ex, k⟩ := Wc_plain plain_ownAt k
      have hx := ownAt_ret ex
      have r0 := r
      obtain ⟨hl, fp, q1, q2, q3, q4⟩ := r
      have s := q1 j
      rw [hx] at s
      generalize hf : fp j = f at s
      generalize hσ : σ[j]? = oo at s
      cases s with
      | @own a vs _ e z q =>
        refine ⟨.ref a, hσ, k W H _ (Wd.Le.refl W) X0 S ?_⟩
        have rf := r0.forget (i := j)
        by_cases hi : i < env.length
        · refine rf.put (by rw [List.length_set]; exact hi) (.own e z q) (fun c hc => ?_) (by simp) fun c hc l g hl' hs hm => ?_
          · have : c = a := by simpa using hc
            subst this
            exact q2 j c (by rw [hf]; exact List.mem_cons_self)
          · have : c = a := by simpa using hc
            subst this
            rw [at_set] at hs
            by_cases hlj : l = j
            · subst hlj
              by_cases hlt : l < env.length
              · rw [if_pos ⟨rfl, hlt⟩] at hs
                cases hs
                simp
              · have : l < σ.length := (List.getElem?_eq_some_iff.mp hσ).1
                omega
            · rw [if_neg fun q => hlj q.1] at hs
              rw [SlotR.fp_uniq hs (q1 l)]
              intro hm'
              exact hlj (q4 l j c hm' (by rw [hf]; exact List.mem_cons_self))
        · rw [List.set_eq_of_length_le (by omega), List.set_eq_of_length_le (by rw [List.length_set]; omega)]
          exact rf
    · cases h
  · cases h
theorem ss_unpk (GO : GOk G c) {tg : MT} {m : ME} : SS G c (.unpk tg m) := fun {X sc Γ st} d h => by
  unfold chkS at h
  split at h
  · rename_i t v p hx
    obtain rfl := xAsg_inv hx
    simp only [Bool.and_eq_true, Bool.not_eq_true'] at h
    obtain ⟨⟨⟨⟨⟨hot, h1⟩, h2⟩, h3⟩, h4⟩, h5⟩ := h
    have hg := pg_tgt (by rw [d.o.hN]; exact d.o.nd) d.o.hN d.o.hsc (fun x _ => d.fn x) (d.o.calm hot) h5
    have he := (sE GO m).v d.o d.hK d.hx d.tk h1 h2
    have sw : swapsWithSole [t] v p.line X.env = pure false := by
      cases t <;> first | cases h4 | skip
      cases v <;> rfl
    have st : swappedStores [t] v X.env = pure none := by
      cases t <;> first | cases h4 | skip
      cases v <;> first | rfl | cases h3
    have ae : (assignEach [t] X.env).map (·.2) = [assign t X.env] := by cases t <;> first | rfl | cases h4
    refine (ps_asg he hg sw st ae).imp fun D σ H ⟨W, b, env, S, X0, r, k⟩ => ?_
    simp only [denS, T.assoc] at k
    refine Wc.stepS S X0 r k fun b1 v W1 H1 u e1 S1 X1 r1 q k => ?_
    obtain ⟨dd, ed, k⟩ := Wc_plain plain_asD k
    rw [asD_ret ed] at q
    obtain ⟨env', ea, k⟩ := Wc_plain plain_asgT k
    rw [← d.o.KK d.hK]
    exact tg_run S1 r1 q ea fun σ' r' _ => k W1 H1 σ' e1.le X1 S1 r'
  · cases h
theorem XD.KK (d : XD G c sc X Γ) : Γ.K = X.K := d.o.KK d.hK
theorem len_set {vs : List V} {i : Nat} {v : V} : (vs.set i v).length = vs.length := List.length_set
theorem ss_app (GO : GOk G c) {i : Nat} {m : ME} : SS G c (.app i m) := fun {X sc Γ st} d h => by
  unfold chkS at h
  split at h
  · rename_i e p hx
    obtain rfl := xExpr_inv hx
    split at h
    · rename_i x f a hx'
      obtain ⟨xp, p1, q1, rfl, hl⟩ := xNMeth_inv hx'
      simp only [Bool.and_eq_true, decide_eq_true_eq, Bool.not_eq_true'] at h
      obtain ⟨⟨⟨⟨h1, rfl⟩, h2⟩, h3⟩, h4⟩ := h
      have hst := star1 h2 [] X.env
      have hfew : ((backTo q1 (starEach [a] X.env)).all (fun x => !x.1) && (backToKw q1 (keywordEach [] X.env)).all (fun x => x.1.isSome) && decide (([a] : List Expr).length + ([] : List Keyword).length + (if ([] : List Keyword).isEmpty then 0 else 1) < 30)) = true := by
        rw [hst]
        rfl
      have pe : PE X (.Call (.Attribute (.Name x xp) "append" p1) [a] [] q1) (tBM X.K "list" rAppend (tVar i) (tCons (TD Γ (mV Γ.K) (denE G.C m)) tNil)) :=
        pe_bm F.plainAttrs_list F.slot_list_append F.type_list_append mt_append (nmOk_of d h1) (pa_cons ((sE GO m).v d.o d.hK d.hx d.tk h3 h4) pa_nil hst) rfl hfew hl hst rfl
      refine (ps_expr pe rfl).imp fun D σ H ⟨W, b, env, S, X0, r, k⟩ => ?_
      simp only [denS, T.assoc] at k
      obtain ⟨xs, ex, k⟩ := Wc_plain plain_ownAt k
      have ho := ownAt_ret ex
      obtain ⟨a1, vs1, hσ, hH, z1, qv1, ng1, _⟩ := r.ownU X0 S ho
      refine ⟨.ref a1, hσ, .inl ⟨rfl, vs1, SqL.of hH⟩, ?_⟩
      refine Wc.stepS S X0 r k fun b1 v W1 H1 u e1 S1 X1 r1 q k => ?_
      obtain ⟨dd, ed, k⟩ := Wc_plain plain_asD k
      rw [asD_ret ed] at q
      obtain ⟨hz, k⟩ := need_Wc k
      obtain ⟨a2, vs2, hσ2, hH2, z2, qv2, ng2, up⟩ := r1.ownU X1 S1 ho
      rw [hσ] at hσ2
      cases hσ2
      have q' : RV Γ.K W1 (.d dd) u := q
      have hlen : vs2.length = xs.length := qv2.length
      cases q' with
      | d q' =>
        obtain ⟨u1, u2, u3⟩ := up (vs2 ++ [u]) (xs ++ [dd]) (by rw [List.length_append, hlen]; have := SL_le hz; simp; have h0 : SL = sizeLine := SL_eq; omega) (qv2.append (.cons q' .nil))
        exact ⟨a1, vs2, u, rfl, rfl, hH2, by rw [hlen, ← SL_eq]; exact hz, k W1 _ σ e1.le u2 u1 u3⟩
    · cases h
  · cases h
theorem list_extend_tup (l : Addr) (items : Array Value) (n : Nat) (b : Addr) (items2 : Array Value) (n2 : Nat) (d2 : Option Addr) (sl2 : Array (Option Value)) (hs0 : ¬(!items.isEmpty && Builtin.List.listTooLong (items.size + items2.size)) = true) (hs1 : items.size ≤ sizeLine) (hs2 : items.size + items2.size ≤ sizeLine + 1) :
    Meets (Builtin.«list.extend» ⟨[.ref l, .ref b], []⟩) (fun _ R s => s.heap.get? l = some { cls := .type "list", dict := none, data := .seq items n, slots := #[] } ∧ s.heap.get? b = some { cls := .type "tuple", dict := d2, data := .seq items2 n2, slots := sl2 } ∧ R (.ok (.ret Value.none)) { s with heap := s.heap.update l (Obj.mapSeq fun x => x ++ items2), toks := s.toks }) :=
  .of_wp fun P1 w1 A1 R1 s1 y => by
    obtain ⟨h1, g1, d1, t1, o1⟩ := s1
    obtain ⟨y1, y2, y3⟩ := y
    have q1 := AutoSeq1.sub_tuple_tuple
    have q2 := AutoSeq1.sub_list_list
    have q3 := AutoSeq1.sub_tuple_list
    have q4 := AutoSeq1.sub_list_tuple
    have q5 : (items ++ items2).size ≤ sizeLine + 1 := by
      rw [Array.size_append]
      exact hs2
    wp_walk using (wpAny_updateSeq y1 rfl (hz := hs1) (_hz' := q5)), AutoSeq1.wpAny_loadPart' y1, AutoSeq1.wpAny_loadPart' y2
    exact ⟨_, rfl, y3⟩
/-- o.extend(b): b a list or a tuple -/
def rExtA (K : PySem.W.Frag) : V → List V → Hp → VK → Prop := fun x vs H Q => ∃ l b xs zs, x = .ref l ∧ vs = [.ref b] ∧ H l = some (.lst xs) ∧ (H b = some (.lst zs) ∨ SqT K H b zs) ∧ xs.length + zs.length ≤ sizeLine ∧ Q .non (upd H l (.lst (xs ++ zs)))
theorem mt_extA : MtM X "list.extend" (rExtA X.K) := by
  intro pins s σ H x vs v us Q I rx rv h
  obtain ⟨l, b, xs, zs, rfl, rfl, hH, hB | hB, hz, q⟩ := h
  · exact mt_extend pins s σ H (.ref l) [.ref b] v us Q I rx rv ⟨l, b, xs, zs, rfl, rfl, hH, hB, hz, q⟩
  · cases rx
    obtain ⟨u, rfl, ru⟩ := rv.one
    cases ru
    obtain ⟨z, its, n, r, hl, e⟩ := I.lstM hH
    obtain ⟨its2, r2, it2, hl2⟩ := I.tuple hB
    have hl2' := r2.length
    obtain ⟨⟨c2, d2, dt2, sl2⟩, e2, hc2, n2, hd2⟩ := it2
    subst hc2 hd2
    have hsz : its.toArray.size + its2.toArray.size ≤ sizeLine := by rw [List.size_toArray, List.size_toArray]; omega
    have hlong : ¬ (!its.toArray.isEmpty && Builtin.List.listTooLong (its.toArray.size + its2.toArray.size)) = true := by
      rw [notLongL hsz, Bool.and_false]
      exact Bool.false_ne_true
    refine call_meets F.slot_list_extend ⟨_, e, rfl⟩ F.entry_list_extend (F.args_list_extend_2 _ _)
      (list_extend_tup l its.toArray n b its2.toArray n2 d2 sl2 hlong (by rw [List.size_toArray]; omega) (by omega)) ⟨e, e2, ?_⟩
    refine ⟨.non, _, I.lset (its' := its ++ its2) hH e (by simp) (r.append r2) ?_, rfl, q⟩
    rw [List.length_append]
    omega
theorem ss_ext (GO : GOk G c) {i : Nat} {m : ME} : SS G c (.ext i m) := fun {X sc Γ st} d h => by
  unfold chkS at h
  split at h
  · rename_i e p hx
    obtain rfl := xExpr_inv hx
    split at h
    · rename_i x f a hx'
      obtain ⟨xp, p1, q1, rfl, hl⟩ := xNMeth_inv hx'
      simp only [Bool.and_eq_true, decide_eq_true_eq] at h
      obtain ⟨⟨⟨h1, rfl⟩, h2⟩, h3⟩ := h
      have hst := star1 h2 [] X.env
      have hfew : ((backTo q1 (starEach [a] X.env)).all (fun x => !x.1) && (backToKw q1 (keywordEach [] X.env)).all (fun x => x.1.isSome) && decide (([a] : List Expr).length + ([] : List Keyword).length + (if ([] : List Keyword).isEmpty then 0 else 1) < 30)) = true := by
        rw [hst]
        rfl
      have pe : PE X (.Call (.Attribute (.Name x xp) "extend" p1) [a] [] q1) (tBM X.K "list" (rExtA X.K) (tVar i) (tCons (TD Γ (mR Γ.K) (denE G.C m)) tNil)) :=
        pe_bm F.plainAttrs_list F.slot_list_extend F.type_list_extend mt_extA (nmOk_of d h1) (pa_cons ((sE GO m).r d.o d.hK d.hx d.tk h3) pa_nil hst) rfl hfew hl hst rfl
      refine (ps_expr pe rfl).imp fun D σ H ⟨W, b, env, S, X0, r, k⟩ => ?_
      simp only [denS, T.assoc] at k
      obtain ⟨xs, ex, k⟩ := Wc_plain plain_ownAt k
      have ho := ownAt_ret ex
      obtain ⟨a1, vs1, hσ, hH, z1, qv1, ng1, _⟩ := r.ownU X0 S ho
      refine ⟨.ref a1, hσ, .inl ⟨rfl, vs1, SqL.of hH⟩, ?_⟩
      refine Wc.stepS S X0 r k fun b1 v W1 H1 u e1 S1 X1 r1 q k => ?_
      obtain ⟨dd, ed, k⟩ := Wc_plain plain_asD k
      rw [asD_ret ed] at q
      obtain ⟨ys, ey, k⟩ := Wc_plain plain_asSeq k
      obtain ⟨hz, k⟩ := need_Wc k
      obtain ⟨a2, vs2, hσ2, hH2, z2, qv2, ng2, up⟩ := r1.ownU X1 S1 ho
      rw [hσ] at hσ2
      cases hσ2
      obtain ⟨l, ws, rfl, el, zl, ql⟩ : ∃ (l : Addr) (ws : List V), u = .ref l ∧ (H1 l = some (.lst ws) ∨ SqT X.K H1 l ws) ∧ ws.length ≤ sizeLine ∧ DvAll Γ.K W1.F ws ys := by
        cases dd with
        | list zs =>
          cases ey
          obtain ⟨l, ws, h1, h2, h3, h4⟩ := RR.list S1 q
          exact ⟨l, ws, h1, .inl h2, h3, h4⟩
        | tuple zs =>
          cases ey
          obtain ⟨l, ws, h1, h2, _, h3, h4⟩ := RR.tup S1 q
          have hk : Γ.K = X.K := d.hK.trans d.o.hK.symm
          exact ⟨l, ws, h1, .inr (hk ▸ h2), h3, h4⟩
        | none => cases ey
        | bool _ => cases ey
        | int _ => cases ey
        | str _ => cases ey
        | dict _ => cases ey
      have hlen : vs2.length = xs.length := qv2.length
      have hlen' : ws.length = ys.length := ql.length
      have h0 : SL = sizeLine := SL_eq
      obtain ⟨u1, u2, u3⟩ := up (vs2 ++ ws) (xs ++ ys) (by rw [List.length_append, hlen, hlen']; omega) (qv2.append ql)
      exact ⟨a1, l, vs2, ws, rfl, rfl, hH2, el, by omega, k W1 _ σ e1.le u2 u1 u3⟩
    · cases h
  · cases h
theorem place_lt {n : Nat} {i : Int} {j : Nat} (h : place n i = some j) : j < n ∧ (0 ≤ i → j = i.toNat) ∧ (i < 0 → (j : Int) = i + n) := by
  unfold place at h
  split at h
  · split at h
    · cases h
      exact ⟨by omega, fun _ => rfl, fun h => by omega⟩
    · cases h
  · split at h
    · cases h
      exact ⟨by omega, fun h => by omega, fun _ => by omega⟩
    · cases h
theorem ss_setI (GO : GOk G c) {l : Nat} {i m : ME} : SS G c (.setI l i m) := fun {X sc Γ st} d h => by
  unfold chkS at h
  split at h
  · rename_i t v p hx
    obtain rfl := xAsg_inv hx
    rw [Bool.and_eq_true, Bool.and_eq_true, Bool.and_eq_true, Bool.not_eq_true', Bool.not_eq_true'] at h
    obtain ⟨⟨⟨h1, h2⟩, h3⟩, h4⟩ := h
    split at h4
    · rename_i o k hs
      obtain ⟨sp, rfl⟩ := xSub_inv hs
      split at h4
      · rename_i x ho
        obtain ⟨xp, rfl⟩ := xName_inv ho
        simp only [Bool.and_eq_true] at h4
        obtain ⟨⟨k1, k2⟩, k3⟩ := h4
        have hg : PG X (.Subscript (.Name x xp) k sp) (gSub (tVar l) (TD Γ (mR Γ.K) (denE G.C i)) rSetL) := pg_sub (nmOk_of d k1) ((sE GO i).r d.o d.hK d.hx d.tk k2) set_list (fun v => by cases k <;> first | rfl | cases k3)
        have sw : swapsWithSole [.Subscript (.Name x xp) k sp] v p.line X.env = pure false := by cases v <;> first | rfl | cases h3
        have st : swappedStores [.Subscript (.Name x xp) k sp] v X.env = pure none := by cases v <;> rfl
        refine (ps_asg ((sE GO m).v d.o d.hK d.hx d.tk h1 h2) hg sw st rfl).imp fun D σ H ⟨W, b, env, S, X0, r, k⟩ => ?_
        simp only [denS, T.assoc] at k
        refine Wc.stepS S X0 r k fun b1 v W1 H1 u e1 S1 X1 r1 q k => ?_
        obtain ⟨dd, ed, k⟩ := Wc_plain plain_asD k
        rw [asD_ret ed] at q
        obtain ⟨xs, ex, k⟩ := Wc_plain plain_ownAt k
        have ho := ownAt_ret ex
        obtain ⟨a1, vs1, hσ, hH, z1, qv1, ng1, _⟩ := r1.ownU X1 S1 ho
        refine ⟨.ref a1, hσ, ?_⟩
        refine Wc.stepS S1 X1 r1 k fun b2 v2 W2 H2 u2 e2 S2 X2 r2 q2 k => ?_
        obtain ⟨di, ei, k⟩ := Wc_plain plain_asD k
        obtain ⟨ii, eii, k⟩ := Wc_plain plain_asInt k
        rw [asD_ret ei, asInt_ret eii] at q2
        obtain ⟨j, ej, k⟩ := Wc_plain plain_opt k
        have hj : place xs.length ii = some j := by
          unfold opt at ej
          split at ej
          · rename_i z
            rw [z, ret_inj ej]
          · cases ej
        obtain ⟨a2, vs2, hσ2, hH2, z2, qv2, ng2, up⟩ := r2.ownU X2 S2 ho
        rw [hσ] at hσ2
        cases hσ2
        have q' : RV Γ.K W2 (.d dd) u := RV.le e2.le q
        have hlen : vs2.length = xs.length := qv2.length
        cases q' with
        | d q' =>
          obtain ⟨u1, u2', u3⟩ := up (vs2.set j u) (xs.set j dd) (by rw [List.length_set]; exact z2) (qv2.set j q')
          exact ⟨a1, vs2, ii, j, rfl, RR.int q2, hH2, by rw [hlen]; exact hj, k W2 _ σ (e1.le.trans e2.le) u2' u1 u3⟩
      · cases h4
    · cases h4
  · cases h
theorem ss_aug (GO : GOk G c) {i : Nat} {op : O2} {m : ME} : SS G c (.aug i op m) := fun {X sc Γ st} d h => by
  unfold chkS at h
  split at h
  · rename_i x o e hx
    unfold xAug at hx
    split at hx
    · cases hx
      simp only [Bool.and_eq_true, decide_eq_true_eq] at h
      obtain ⟨⟨⟨⟨⟨h1, h2⟩, h3⟩, h4⟩, h5⟩, h6⟩ := h
      obtain ⟨l1, l2⟩ := locF_of d.o.hsc (fun x _ => d.fn x) h2
      have hip : ∃ f : Int → Int → Int, PIp X o (ipI f) ∧ ∀ p q, o2 op (.int p) (.int q) = T.ret (.int (f p q)) := by
        cases op with
        | add => cases h4; exact ⟨_, ip_add, fun _ _ => rfl⟩
        | sub => cases h4; exact ⟨_, ip_sub, fun _ _ => rfl⟩
        | _ => cases h5
      obtain ⟨f, pf, of⟩ := hip
      refine (ps_aug (by rw [d.o.hN]; exact d.o.nd) (by rw [d.o.hN]; exact h1) l1 ((sE GO m).r d.o d.hK d.hx d.tk h6) pf l2).imp fun D σ H ⟨W, b, env, S, X0, r, k⟩ => ?_
      have hv : denE G.C (.var i) env = match env.at i with
        | .v x => T.ret x
        | _ => T.stuck := by
          rw [denE] <;> (cases env.at i <;> rfl)
      simp only [denS, T.assoc] at k
      rw [hv] at k
      obtain ⟨fr, hs, _⟩ := r.slot i
      cases ha : env.at i with
      | v z =>
        rw [ha] at k hs
        have k : Wc (postS Γ W D) (postX Γ) b (asD z >>= fun x => asInt x >>= fun x => denE G.C m env >>= fun v => asD v >>= fun y => asInt y >>= fun y => o2 op (.int x) (.int y) >>= fun z => T.ret (.nx, env.set i (.v (.d z)))) := k
        obtain ⟨dz, ez, k⟩ := Wc_plain plain_asD k
        obtain ⟨p, ep, k⟩ := Wc_plain plain_asInt k
        rw [asD_ret ez, asInt_ret ep] at hs
        generalize hg : σ[i]? = oo at hs
        cases hs with
        | v q =>
          refine ⟨_, hg, ?_⟩
          refine Wc.stepS S X0 r k fun b1 v W1 H1 u e1 S1 X1 r1 q1 k => ?_
          obtain ⟨dd, ed, k⟩ := Wc_plain plain_asD k
          obtain ⟨q', eq, k⟩ := Wc_plain plain_asInt k
          rw [asD_ret ed, asInt_ret eq] at q1
          rw [of] at k
          exact ⟨p, q', (RR.v q : RR Γ.K W H _ _).int, RR.int q1, k W1 H1 _ e1.le X1 S1 (r1.putV' (.d (.int _)))⟩
      | _ =>
        rw [ha] at k
        exact k.elim
    · cases hx
  · cases h
end
end Mp
namespace Mp
open PySem PySem.Spec PyProof.Rows L2
open Mp.T (Wc)
section
variable {G : Gf} {c : Ck} {sc : Scope} {X : Cx} {Γ : Ga} {W : Wd} {H : Hp} {b : Nat} {env : Ev} {σ : L2.St} {D : Ends}
theorem place_seq {n : Nat} {i : Int} {j : Nat} (hn : n ≤ SL) (h : place n i = some j) : -(2 ^ 63) ≤ i ∧ i < 2 ^ 63 ∧ seqIndex? i n = some j := by
  have h0 : SL = 16777216 := rfl
  obtain ⟨h1, h2, h3⟩ := place_lt h
  by_cases hi : 0 ≤ i
  · have e := h2 hi
    refine ⟨by omega, by omega, ?_⟩
    unfold seqIndex?
    have c1 : ¬ i < 0 := by omega
    have c2 : (decide (0 ≤ i) && decide (i < (n : Int))) = true := by
      rw [decide_eq_true hi, decide_eq_true (by omega : i < (n : Int))]
      rfl
    simp only [c1, if_false, c2, if_true, e]
  · have e := h3 (by omega)
    have hlo : -(n : Int) ≤ i := by
      unfold place at h
      rw [if_neg hi] at h
      split at h
      · assumption
      · cases h
    refine ⟨by omega, by omega, ?_⟩
    unfold seqIndex?
    have c1 : i < 0 := by omega
    have c2 : (decide (0 ≤ i + (n : Int)) && decide (i + (n : Int) < (n : Int))) = true := by
      rw [decide_eq_true (by omega : 0 ≤ i + (n : Int)), decide_eq_true (by omega : i + (n : Int) < (n : Int))]
      rfl
    simp only [c1, if_true, c2]
    congr 1
    omega
theorem opt_some {α : Type} {x : Option α} {a : α} (h : opt x = T.ret a) : x = some a := by
  cases x with
  | none => cases h
  | some y => rw [ret_inj h]
theorem ss_popTo (GO : GOk G c) {i l : Nat} {m : ME} : SS G c (.popTo i l m) := fun {X sc Γ st} d h => by
  unfold chkS at h
  split at h
  · rename_i t v p hx
    obtain rfl := xAsg_inv hx
    split at h
    · rename_i y x f a hy hx'
      obtain ⟨py, rfl⟩ := xName_inv hy
      obtain ⟨xp, p1, q1, rfl, hl⟩ := xNMeth_inv hx'
      simp only [Bool.and_eq_true, decide_eq_true_eq] at h
      obtain ⟨⟨⟨⟨⟨h1, h2⟩, h3⟩, rfl⟩, h5⟩, h6⟩ := h
      obtain ⟨l1, l2⟩ := locF_of d.o.hsc (fun x _ => d.fn x) h2
      have hst := star1 h5 [] X.env
      have hfew : ((backTo q1 (starEach [a] X.env)).all (fun x => !x.1) && (backToKw q1 (keywordEach [] X.env)).all (fun x => x.1.isSome) && decide (([a] : List Expr).length + ([] : List Keyword).length + (if ([] : List Keyword).isEmpty then 0 else 1) < 30)) = true := by
        rw [hst]
        rfl
      have pe : PE X (.Call (.Attribute (.Name x xp) "pop" p1) [a] [] q1) (tBM X.K "list" rPopAt (tVar l) (tCons (TD Γ (mR Γ.K) (denE G.C m)) tNil)) :=
        pe_bm F.plainAttrs_list F.slot_list_pop F.type_list_pop mt_popAt (nmOk_of d h3) (pa_cons ((sE GO m).r d.o d.hK d.hx d.tk h6) pa_nil hst) rfl hfew hl hst rfl
      refine (ps_set (by rw [d.o.hN]; exact d.o.nd) (by rw [d.o.hN]; exact h1) l1 pe rfl l2).imp fun D σ H ⟨W, b, env, S, X0, r, k⟩ => ?_
      simp only [denS, T.assoc] at k
      obtain ⟨xs, ex, k⟩ := Wc_plain plain_ownAt k
      have ho := ownAt_ret ex
      obtain ⟨a1, vs1, hσ, hH, z1, qv1, ng1, _⟩ := r.ownU X0 S ho
      refine ⟨.ref a1, hσ, .inl ⟨rfl, vs1, SqL.of hH⟩, ?_⟩
      refine Wc.stepS S X0 r k fun b1 v W1 H1 u e1 S1 X1 r1 q k => ?_
      obtain ⟨dd, ed, k⟩ := Wc_plain plain_asD k
      obtain ⟨ii, eii, k⟩ := Wc_plain plain_asInt k
      rw [asD_ret ed, asInt_ret eii] at q
      obtain ⟨j, ej, k⟩ := Wc_plain plain_opt k
      obtain ⟨x0, ex0, k⟩ := Wc_plain plain_opt k
      have hj := opt_some ej
      have hx0 := opt_some ex0
      obtain ⟨a2, vs2, hσ2, hH2, z2, qv2, ng2, up⟩ := r1.ownU X1 S1 ho
      rw [hσ] at hσ2
      cases hσ2
      have hlen : vs2.length = xs.length := qv2.length
      obtain ⟨w, hw, rw'⟩ := qv2.get hx0
      have h0 : SL = sizeLine := SL_eq
      obtain ⟨g1, g2, g3⟩ := place_seq (n := xs.length) (by omega) hj
      obtain ⟨u1, u2, u3⟩ := up (vs2.eraseIdx j) (xs.eraseIdx j) (by have := List.length_eraseIdx_le vs2 j; omega) (qv2.eraseIdx j)
      exact ⟨a1, vs2, ii, j, w, rfl, by rw [RR.int q], hH2, g1, g2, by rw [hlen]; exact g3, hw, k W1 _ _ e1.le u2 u1 (u3.putV' (.d rw'))⟩
    · cases h
  · cases h
theorem ss_popLast {i l : Nat} : SS G c (.popLast i l) := fun {X sc Γ st} d h => by
  unfold chkS at h
  split at h
  · rename_i t v p hx
    obtain rfl := xAsg_inv hx
    split at h
    · rename_i y x f hy hx'
      obtain ⟨py, rfl⟩ := xName_inv hy
      obtain ⟨xp, p1, q1, rfl, hl⟩ := xNMeth_inv hx'
      simp only [Bool.and_eq_true, decide_eq_true_eq] at h
      obtain ⟨⟨⟨h1, h2⟩, h3⟩, rfl⟩ := h
      obtain ⟨l1, l2⟩ := locF_of d.o.hsc (fun x _ => d.fn x) h2
      have pe : PE X (.Call (.Attribute (.Name x xp) "pop" p1) [] [] q1) (tBM0 X.K "list" rPop (tVar l)) :=
        pe_bm0 F.plainAttrs_list F.slot_list_pop F.type_list_pop mt_pop (nmOk_of d h3) rfl hl
      refine (ps_set (by rw [d.o.hN]; exact d.o.nd) (by rw [d.o.hN]; exact h1) l1 pe rfl l2).imp fun D σ H ⟨W, b, env, S, X0, r, k⟩ => ?_
      rw [denS] at k
      obtain ⟨xs, ex, k⟩ := Wc_plain plain_ownAt k
      have ho := ownAt_ret ex
      obtain ⟨x0, ex0, k⟩ := Wc_plain plain_opt k
      have hx0 := opt_some ex0
      obtain ⟨a1, vs1, hσ, hH, z1, qv1, ng1, up⟩ := r.ownU X0 S ho
      have hlen : vs1.length = xs.length := qv1.length
      obtain ⟨w, hw, rw'⟩ := qv1.get hx0
      obtain ⟨u1, u2, u3⟩ := up vs1.dropLast xs.dropLast (by rw [List.length_dropLast]; omega) qv1.dropLast
      exact ⟨.ref a1, hσ, .inl ⟨rfl, vs1, SqL.of hH⟩, a1, vs1, w, rfl, rfl, hH, by rw [hlen]; exact hw, k W _ _ (Wd.Le.refl W) u2 u1 (u3.putV' (.d rw'))⟩
    · cases h
  · cases h
theorem ss_whl (GO : GOk G c) {p : ME} {bd : MSs} (ib : SSs G c bd) : SS G c (.whl p bd) := fun {X sc Γ st} d h => by
  unfold chkS at h
  split at h
  · rename_i e x hx
    unfold xWhl at hx
    split at hx
    · cases hx
      simp only [Bool.and_eq_true, Bool.not_eq_true'] at h
      refine (ps_while d.own ((sE GO p).pt d.o d.hK d.hx d.tk h.1.1.2 h.1.2) (ib d h.2)).imp fun D σ H ⟨W, b0, env, S, X0, r, k⟩ => ?_
      rw [denS] at k
      refine ⟨fun n σ H => ∃ W2 b env, W.Le W2 ∧ SR Γ.K W2 b H ∧ Ext Γ.W0 Γ.H0 W2 H ∧ ER Γ.K Γ.H0 W2 σ H env ∧ Wc (postS Γ W D) (postX Γ) b (whlG (fun env => denE G.C p env >>= asD >>= asBool) (fun env => denSs G.C bd env) n env), ⟨SL, W, b0, env, Wd.Le.refl W, S, X0, r, k⟩, fun n σ H ⟨W2, b, env, l2, S, X0, r, k⟩ => ?_⟩
      cases n with
      | zero => exact k.elim
      | succ n =>
        have k : Wc (postS Γ W D) (postX Γ) b (tt (denE G.C p) env >>= fun t => if t then denSs G.C bd env >>= fun p_1 => match p_1.1 with
          | .nx => whlG (fun env => denE G.C p env >>= asD >>= asBool) (fun env => denSs G.C bd env) n p_1.2
          | .ct => whlG (fun env => denE G.C p env >>= asD >>= asBool) (fun env => denSs G.C bd env) n p_1.2
          | .bk => T.ret (.nx, p_1.2)
          | .rt v => T.ret (.rt v, p_1.2)
          else T.ret (.nx, env)) := k
        refine Wc.stepS (rel := mB) S X0 r k fun b1 v W1 H1 u e1 S1 X1 r1 q k => ?_
        obtain rfl : v = u := q
        cases v with
        | false => exact k W1 H1 σ (l2.trans e1.le) X1 S1 r1
        | true =>
          refine ⟨fun σ H => ∃ W2 b env, W.Le W2 ∧ SR Γ.K W2 b H ∧ Ext Γ.W0 Γ.H0 W2 H ∧ ER Γ.K Γ.H0 W2 σ H env ∧ Wc (postS Γ W D) (postX Γ) b (whlG (fun env => denE G.C p env >>= asD >>= asBool) (fun env => denSs G.C bd env) n env), fun σ' H' q => ⟨n, by omega, q⟩, W1, b1, env, S1, X1, r1, ?_⟩
          refine T.Wc.mono (fun b2 pr hp => ?_) (fun _ _ z => z) _ _ ((T.Wc_bind _ _).mp k)
          obtain ⟨f, e2⟩ := pr
          cases f with
          | nx => exact fun W3 H2 σ2 l3 X2 S2 r2 => ⟨W3, b2, e2, (l2.trans e1.le).trans l3, S2, X2, r2, hp⟩
          | ct => exact fun W3 H2 σ2 l3 X2 S2 r2 => ⟨W3, b2, e2, (l2.trans e1.le).trans l3, S2, X2, r2, hp⟩
          | bk => exact fun W3 H2 σ2 l3 => hp W3 H2 σ2 ((l2.trans e1.le).trans l3)
          | rt v => exact hp
    · cases hx
  · cases h
theorem ss_for (GO : GOk G c) {g : Bool} {tg : MT} {it : MI} {bd : MSs} (ib : SSs G c bd) : SS G c (.for g tg it bd) := fun {X sc Γ st} d h => by
  unfold chkS at h
  split at h
  · rename_i t i x hx
    unfold xFor at hx
    split at hx
    · cases hx
      simp only [Bool.and_eq_true, Bool.not_eq_true'] at h
      obtain ⟨⟨⟨⟨hot, h0⟩, h1⟩, h2⟩, h3⟩ := h
      have hg := pg_tgt (by rw [d.o.hN]; exact d.o.nd) d.o.hN d.o.hsc (fun x _ => d.fn x) (d.o.calm hot) h2
      refine (ps_for d.own (d.o.calm hot) (sI GO it d.o d.hK d.hx d.tk h1) hg (ib d h3) (folded h0 _)).imp fun D σ H ⟨W, b0, env, S, X0, r, k⟩ => ?_
      rw [denS] at k
      refine Wc.stepS (rel := mI true Γ.K) S X0 r k fun b1 xs W1 H1 J e1 S1 X1 r1 ⟨hz, Gd, Y, wk, later⟩ k => ?_
      have k : Wc (postS Γ W D) (postX Γ) b1 (forG (fun x env => asgT tg x env >>= fun env' => denSs G.C bd env') xs env) := by
        unfold guardL at k
        split at k
        · exact (need_Wc k).2
        · exact k
      refine for_it wk (fun i σ H2 => ∃ W2 b2 env, W1.Le W2 ∧ SR Γ.K W2 b2 H2 ∧ Ext Γ.W0 Γ.H0 W2 H2 ∧ ER Γ.K Γ.H0 W2 σ H2 env ∧ Wc (postS Γ W D) (postX Γ) b2 (forG (fun x env => asgT tg x env >>= fun env' => denSs G.C bd env') (xs.drop i) env)) ?_ (fun i σ H2 hi ⟨W2, b2, env, l2, S2, _⟩ => (later W2 b2 H2 l2 S2).1) (fun i x σ H2 H3 hi ⟨W2, b2, env, l2, S2, X2, r2, k⟩ y => ?_) fun σ H2 ⟨W2, b2, env, l2, S2, X2, r2, k⟩ => ?_
      · exact ⟨W1, b1, env, Wd.Le.refl _, S1, X1, r1, by rw [List.drop_zero]; exact k⟩
      · obtain ⟨W3, dd, e3, S3, hdx, rv⟩ := (later W2 b2 H2 l2 S2).2 i x H3 hi y
        have hdr : xs.drop i = dd :: xs.drop (i + 1) := by
          rw [List.drop_eq_getElem_cons hi]
          rw [List.getElem?_eq_getElem hi] at hdx
          cases hdx
          rfl
        rw [hdr] at k
        have k : Wc (postS Γ W D) (postX Γ) b2 ((asgT tg dd env >>= fun env' => denSs G.C bd env') >>= fun p => match p.1 with
          | .nx => forG (fun x env => asgT tg x env >>= fun env' => denSs G.C bd env') (xs.drop (i + 1)) p.2
          | .ct => forG (fun x env => asgT tg x env >>= fun env' => denSs G.C bd env') (xs.drop (i + 1)) p.2
          | .bk => T.ret (.nx, p.2)
          | .rt v => T.ret (.rt v, p.2)) := k
        rw [T.assoc] at k
        obtain ⟨env', ea, k⟩ := Wc_plain plain_asgT k
        have X3 := X2.trans e3 S3
        rw [← d.KK]
        refine tg_run S3 (r2.ext e3) rv ea fun σ' r' _ => ⟨W3, b2, env', S3, X3, r', ?_⟩
        refine T.Wc.mono (fun b4 pr hp => ?_) (fun _ _ z => z) _ _ ((T.Wc_bind _ _).mp k)
        obtain ⟨f, e4⟩ := pr
        have lo : W1.Le W3 := l2.trans e3.le
        cases f with
        | nx => exact fun W5 H5 σ5 l5 X5 S5 r5 => ⟨W5, b4, e4, lo.trans l5, S5, X5, r5, hp⟩
        | ct => exact fun W5 H5 σ5 l5 X5 S5 r5 => ⟨W5, b4, e4, lo.trans l5, S5, X5, r5, hp⟩
        | bk => exact fun W5 H5 σ5 l5 => hp W5 H5 σ5 ((e1.le.trans lo).trans l5)
        | rt v => exact hp
      · rw [List.drop_length] at k
        exact k W2 H2 σ (e1.le.trans l2) X2 S2 r2
    · cases hx
  · cases h
end
end Mp
namespace Mp
open PySem PySem.Spec PyProof.Rows L2
open Mp.T (Wc)
theorem swapD_eq {env : PySem.Env} {sc : Scope} {ts vs : List Expr} {pt pt2 : Pos} {kt k2 : Nat} {r : Option (List Str)} (hsc : env.scope = sc) (hk : env.scope.kind = .function) (h : swapD sc ts vs = some r) :
    swappedStores [.Tuple ts kt pt] (.Tuple vs k2 pt2) env = pure r := by
  have hb : (env.blockKind != .function) = false := by
    have : env.blockKind = .function := by unfold Env.blockKind; rw [hk]; rfl
    rw [this]
    rfl
  have hs : ∀ f : Expr → Bool, (∀ x, f x = isStarX x) → vs.any f = vs.any isStarX := fun f hf => by
    congr 1
    exact funext hf
  have hn : ∀ f : Expr → Option Str, (∀ x, f x = nameOf sc (lineOf ts) x) → ts.filterMap f = namesOf sc (lineOf ts) ts := fun f hf => by
    unfold namesOf
    congr 1
    exact funext hf
  unfold swapD at h
  unfold swappedStores
  simp only [hb, Bool.or_false]
  split at h
  · rename_i h1
    cases h
    rw [if_pos h1]
  rename_i h1
  rw [if_neg h1]
  split at h
  · rename_i h2
    cases h
    rw [if_pos ((hs _ fun x => by cases x <;> rfl).trans h2)]
  rename_i h2
  rw [if_neg fun z => h2 (((hs _ fun x => by cases x <;> rfl).symm.trans z))]
  rw [hn]
  rotate_left
  · intro x
    cases x with
    | Name id pos =>
      show (if env.scope.names.lookup id == some .local && pos.line == lineOf ts then some id else none) = _
      rw [hsc]
      rfl
    | _ => rfl
  split at h
  · rename_i h3
    cases h
    rw [if_pos h3]
  rename_i h3
  rw [if_neg h3]
  split at h
  · rename_i h4
    cases h
    rw [if_pos h4]
  rename_i h4
  rw [if_neg h4]
  split at h
  · cases h
  rename_i h5
  cases h
  rw [if_neg h5]
inductive PRs (K : PySem.W.Frag) (W' : Wd) (H' : Hp) : Hp → List Bool → List PV → List V → Prop
  | nil {H : Hp} : PRs K W' H' H [] [] []
  | f {H : Hp} {x : PV} {v : V} {fl : List Bool} {xs : List PV} {vs : List V} : RV K W' x v → PRs K W' H' H fl xs vs → PRs K W' H' H (false :: fl) (x :: xs) (v :: vs)
  | t {H H1 : Hp} {x : PV} {v : V} {fl : List Bool} {xs : List PV} {vs : List V} : mN K W' H W' H' x v → (∀ a, H1 a = none → ¬ W'.isG a → H a = none) → (∀ ys a, x = .d (.list ys) → v = .ref a → ∃ o, H1 a = some o) → PRs K W' H' H1 fl xs vs → PRs K W' H' H (true :: fl) (x :: xs) (v :: vs)
def mPs (K : PySem.W.Frag) (fl : List Bool) : Rel (List PV) (List V) := fun _ H W' H' xs vs => PRs K W' H' H fl xs vs
theorem mono_mPs {K : PySem.W.Frag} {fl : List Bool} : Mono (mPs K fl) := fun W H W1 H1 W' H' xs vs e e' r => by
  have go : ∀ {Hs : Hp} {fl : List Bool} {xs : List PV} {vs : List V}, PRs K W' H' Hs fl xs vs → ∀ H0 : Hp, (∀ a, Hs a = none → ¬ W'.isG a → H0 a = none) → PRs K W' H' H0 fl xs vs := fun {Hs fl xs vs} r => by
    induction r with
    | nil => exact fun H0 _ => .nil
    | f q _ ih => exact fun H0 k => .f q (ih H0 k)
    | t q d l r ih =>
      rename_i Hs Hs1 x v fl xs vs
      refine fun H0 k => .t (H1 := Hs1) ?_ (fun a n g => k a (d a n g) g) l r
      cases x with
      | d x =>
        cases x with
        | list ys =>
          obtain ⟨a, ws, zs, h1, h2, n, h3, h4, h5, h6⟩ := q
          exact ⟨a, ws, zs, h1, h2, k a n h5, h3, h4, h5, h6⟩
        | _ => exact q
      | _ => exact q
  refine go r H fun a n g => ?_
  cases q : H a with
  | none => rfl
  | some o =>
    have := e.same a o q fun z => g (e'.le.isG z)
    rw [n] at this
    cases this
/-- a value in the mode mN, later -/
theorem mN_later {K : PySem.W.Frag} {W1 W2 : Wd} {H H1 H2 : Hp} {x : PV} {v : V} (e : Ext W1 H1 W2 H2) (q : mN K W1 H W1 H1 x v) : mN K W2 H W2 H2 x v := by
  cases x with
  | d x =>
    cases x with
    | list ys =>
      obtain ⟨a, ws, zs, h1, h2, n, h3, h4, h5, h6, h7⟩ := q
      obtain ⟨k1, k2⟩ := e.keep h3 h5
      exact ⟨a, ws, zs, h1, h2, n, k1, e.unf h3 h4, k2, h6, h7.le e.le.f⟩
    | _ => exact RV.le e.le q
  | _ => exact RV.le e.le q
theorem mN_alive {K : PySem.W.Frag} {W1 : Wd} {H H1 : Hp} {xs : List PyData} {v : V} (q : mN K W1 H W1 H1 (.d (.list xs)) v) : ∀ a, v = .ref a → ∃ o, H1 a = some o := fun a e => by
  obtain ⟨a', ws, zs, h1, rfl, n, h3, _⟩ := q
  cases e
  exact ⟨_, h3⟩
section
variable {G : Gf} {c : Ck} {sc : Scope} {X : Cx} {Γ : Ga} {W : Wd} {H : Hp} {b : Nat} {env : Ev} {σ : L2.St} {D : Ends}
theorem s_ps_nil : PA X [] (TD Γ (mPs Γ.K []) (denAs G.C .nil)) := pa_nil.imp fun σ H Q ⟨W, b, env, S, X0, r, q⟩ => by
  unfold denAs at q
  exact q W H [] (Ext.refl _ _) S .nil
theorem s_ps_cons {e : Expr} {es : List Expr} {f : Bool} {fl : List Bool} {m : ME} {r : MEs} (he : PE X e (TD Γ (if f then mN Γ.K else mV Γ.K) (denE G.C m))) (hr : PA X es (TD Γ (mPs Γ.K fl) (denAs G.C r))) (hs : notStar e = true) : PA X (e :: es) (TD Γ (mPs Γ.K (f :: fl)) (denAs G.C (.cons m r))) := by
  refine (pa_cons he hr (star1 hs es X.env)).imp fun σ H Q q => ?_
  have q := q.congr (t' := fun env => denE G.C m env >>= fun x => denAs G.C r env >>= fun xs => T.ret (x :: xs)) fun env => by
    rw [denAs]
  obtain ⟨W, b, env, S, X0, rr, q⟩ := q
  refine ⟨W, b, env, S, X0, rr, T.Wc.mono (fun b1 a ha W1 H1 v e1 S1 q1 => ?_) (fun _ _ z => z) _ _ ((T.Wc_bind _ _).mp q)⟩
  have ha1 := ha
  refine ⟨W1, b1, env, S1, X0.trans e1 S1, rr.ext e1, T.Wc.mono (fun b2 xs h2 W2 H2 vs e2 S2 q2 => ?_) (fun _ _ => postE.later e1) _ _ ((T.Wc_bind _ _).mp ha1)⟩
  refine h2 W2 H2 (v :: vs) (e1.trans e2 S2) S2 ?_
  cases f with
  | false => exact .f (RV.le e2.le q1) (mono_mPs _ _ _ _ _ _ _ _ e1 e2 q2)
  | true =>
    refine .t (H1 := H1) (mN_later e2 q1) (fun a n g => ?_) (fun ys a ex ev => ?_) q2
    · cases q : H a with
      | none => rfl
      | some o =>
        have := e1.same a o q fun z => g (e2.le.isG z)
        rw [n] at this
        cases this
    · subst ex
      exact mN_alive q1 a ev
theorem md_V {m : ME} {e : Expr} (GO : GOk G c) (d : XD G c sc X Γ) (h : chkE c sc m e = true) (hr : rdO m = false) (f : Bool) (hf : (!f || mk m) = true) : PE X e (TD Γ (if f then mN Γ.K else mV Γ.K) (denE G.C m)) := by
  cases f with
  | false => exact (sE GO m).v d.o d.hK d.hx d.tk h hr
  | true =>
    have hm : mk m = true := by simpa using hf
    have := (sE GO m).pe d.o d.hK d.hx d.tk h
    rw [md_mk hm hr] at this
    exact this
theorem s_ps (GO : GOk G c) (d : XD G c sc X Γ) : ∀ (fl : List Bool) (es : MEs) (xs : List Expr), chkPs c sc fl es xs = true → PA X xs (TD Γ (mPs Γ.K fl) (denAs G.C es))
  | [], .nil, [], _ => s_ps_nil
  | f :: fl, .cons m r, x :: xs, h => by
    have h : (notStar x && chkE c sc m x && !rdO m && (!f || mk m) && chkPs c sc fl r xs) = true := h
    simp only [Bool.and_eq_true, Bool.not_eq_true'] at h
    exact s_ps_cons (md_V GO d h.1.1.1.2 h.1.1.2 f h.1.2) (s_ps GO d fl r xs h.2) h.1.1.1.1
  | [], .nil, _ :: _, h => by cases h
  | [], .cons _ _, _, h => by cases h
  | [], .star _ _, _, h => by cases h
  | _ :: _, .nil, _, h => by cases h
  | _ :: _, .star _ _, _, h => by cases h
  | _ :: _, .cons _ _, [], h => by cases h
def setV : L2.St → List Nat → List V → L2.St
  | σ, i :: is, v :: vs => setV (σ.set i (some v)) is vs
  | σ, _, _ => σ
theorem gNs_set {Q : L2.St → Hp → Prop} : ∀ (is : List Nat) (vs : List V) (σ : L2.St), vs.length = is.length → Q (setV σ is vs) H → gNs is vs σ H Q
  | [], [], σ, _, h => ⟨rfl, h⟩
  | i :: is, v :: vs, σ, hl, h => ⟨v, vs, rfl, gNs_set is vs _ (by simpa using hl) h⟩
  | [], _ :: _, _, hl, _ => by simp at hl
  | _ :: _, [], _, hl, _ => by simp at hl
theorem PRs.length {K : PySem.W.Frag} {W' : Wd} {H' H : Hp} {fl : List Bool} {xs : List PV} {vs : List V} (r : PRs K W' H' H fl xs vs) : vs.length = fl.length ∧ xs.length = fl.length := by
  induction r with
  | nil => exact ⟨rfl, rfl⟩
  | f _ _ ih => exact ⟨by rw [List.length_cons, List.length_cons, ih.1], by rw [List.length_cons, List.length_cons, ih.2]⟩
  | t _ _ _ _ ih => exact ⟨by rw [List.length_cons, List.length_cons, ih.1], by rw [List.length_cons, List.length_cons, ih.2]⟩
theorem plain_parSet : ∀ {is : List (Bool × Nat)} {vs : List PV} {env : Ev}, Plain (parSet is vs env)
  | [], [], _ => plain_ret _
  | (true, _) :: _, _ :: _, _ => plain_bind (plain_bind plain_asD fun _ => plain_asList) fun _ => plain_parSet
  | (false, _) :: is, _ :: vs, env => plain_parSet (is := is)
  | [], _ :: _, _ => plain_stuck
  | (true, _) :: _, [], _ => plain_stuck
  | (false, _) :: _, [], _ => plain_stuck
theorem putP {K : PySem.W.Frag} {H0 : Hp} {W' : Wd} {H' : Hp} : ∀ (is : List (Bool × Nat)) {H : Hp} {xs : List PV} {vs : List V} {env env' : Ev} {σ : L2.St}, PRs K W' H' H (is.map (·.1)) xs vs → parSet is xs env = T.ret env' → ER K H0 W' σ H' env →
    (∀ a, H a = none → ¬ W'.isG a → W'.F a = none → H0 a = none ∧ ∀ j g, SlotR K W' H' (env.at j) σ[j]? g → a ∉ g) → ER K H0 W' (setV σ (is.map (·.2)) vs) H' env'
  | [], H, xs, vs, env, env', σ, r, e, q, hf => by
    cases r
    cases e
    exact q
  | (false, i) :: is, H, xs, vs, env, env', σ, r, e, q, hf => by
    cases r with
    | f rx r =>
      refine putP is r e (q.putV' rx) fun a n g z => ⟨(hf a n g z).1, fun j fp hs => ?_⟩
      rw [at_set] at hs
      by_cases hj : j = i ∧ i < env.length
      · rw [if_pos hj] at hs
        obtain ⟨rfl, hl⟩ := hj
        rw [List.getElem?_set_self (show j < σ.length by have := q.len; omega)] at hs
        cases hs
        exact List.not_mem_nil
      · rw [if_neg hj] at hs
        by_cases hji : j = i
        · subst hji
          rw [at_out env j (by have hn : ¬ (j < env.length) := fun z => hj ⟨rfl, z⟩; omega)] at hs
          cases hs
          exact List.not_mem_nil
        · rw [List.getElem?_set_ne (Ne.symm hji)] at hs
          exact (hf a n g z).2 j fp hs
  | (true, i) :: is, H, xs, vs, env, env', σ, r, e, q, hf => by
    cases r with
    | @t _ H1 x v _ xs vs rx rd ra r =>
      have e : (asD x >>= asList >>= fun ys => parSet is xs (env.set i (.own ys))) = T.ret env' := e
      cases x with
      | d x =>
        cases x with
        | list ys =>
          have e : parSet is xs (env.set i (.own ys)) = T.ret env' := e
          have ra := ra ys
          obtain ⟨a0, ws, zs, h1, rfl, n0, h3, h4, h5, h6, h7⟩ := rx
          cases h1
          obtain ⟨o1, ho1⟩ := ra a0 rfl rfl
          by_cases hi : i < env.length
          · refine putP is r e (q.put hi (.own h3 h6 h7) (fun c hc => ?_) (by simp) fun c hc j g hj hs hm => ?_) fun a n g z => ⟨(hf a (rd a n g) g z).1, fun j fp hs => ?_⟩
            · have : c = a0 := by simpa using hc
              subst this
              exact ⟨h4, (hf c n0 h5 h4).1, h5⟩
            · have : c = a0 := by simpa using hc
              subst this
              exact (hf c n0 h5 h4).2 j g hs
            · rw [at_set] at hs
              by_cases hj : j = i
              · subst hj
                rw [if_pos ⟨rfl, hi⟩, List.getElem?_set_self (show j < σ.length by have := q.len; omega)] at hs
                cases hs
                intro hm
                have : a = a0 := by simpa using hm
                subst this
                rw [n] at ho1
                cases ho1
              · rw [if_neg fun w => hj w.1, List.getElem?_set_ne (Ne.symm hj)] at hs
                exact (hf a (rd a n g) g z).2 j fp hs
          · rw [List.set_eq_of_length_le (by omega)] at e
            have := putP is r e q fun a n g z => hf a (rd a n g) g z
            show ER K H0 W' (setV (σ.set i _) (is.map (·.2)) vs) H' env'
            rw [List.set_eq_of_length_le (by have := q.len; omega)]
            exact this
        | _ => cases e
      | _ => cases e
/-- the stores of a par, run -/
theorem par_run {is : List (Bool × Nat)} {es : MEs} (S : SR Γ.K W b H) (X0 : Ext Γ.W0 Γ.H0 W H) (r : ER Γ.K Γ.H0 W σ H env) (k : Wc (postS Γ W D) (postX Γ) b (denS G.C (.par is es) env)) :
    TD Γ (mPs Γ.K (is.map (·.1))) (denAs G.C es) σ H fun vs H1 => vs.length = is.length ∧ ∃ W1 b1 env', W.Le W1 ∧ SR Γ.K W1 b1 H1 ∧ Ext Γ.W0 Γ.H0 W1 H1 ∧ ER Γ.K Γ.H0 W1 (setV σ (is.map (·.2)) vs) H1 env' ∧ Wc (postS Γ W D) (postX Γ) b1 (T.ret (.nx, env')) := by
  simp only [denS] at k
  refine Wc.stepS S X0 r k fun b1 xs W1 H1 vs e1 S1 X1 r1 q k => ?_
  obtain ⟨env', ep, k⟩ := Wc_plain plain_parSet k
  have q : PRs Γ.K W1 H1 H (is.map (·.1)) xs vs := q
  refine ⟨by rw [q.length.1, List.length_map], W1, b1, env', e1.le, S1, X1, putP is q ep r1 fun a n g z => ⟨?_, fun j fp hs hm => ?_⟩, k⟩
  · cases e0 : Γ.H0 a with
    | none => rfl
    | some o =>
      have := X0.same a o e0 (S.notG n)
      rw [n] at this
      cases this
  · obtain ⟨g', s', m'⟩ := r.slot j
    have s2 := s'.ext e1 fun d hd => (m' d hd).2.2
    have eg : fp = g' := SlotR.fp_uniq hs s2
    rw [eg] at hm
    obtain ⟨o, e'⟩ := s'.alive a hm
    rw [n] at e'
    cases e'
theorem xName_eq {e : Expr} {x : Str} (h : xName e = some x) : ∃ p, e = .Name x p := xName_inv h
theorem ss_par (GO : GOk G c) {is : List (Bool × Nat)} {es : MEs} : SS G c (.par is es) := fun {X sc Γ st} d h => by
  unfold chkS at h
  split at h
  · rename_i ts k1 p1 vs k2 p2 p hx
    obtain rfl := xAsg_inv hx
    simp only [Bool.and_eq_true, Bool.not_eq_true'] at h
    obtain ⟨⟨⟨hot, h1⟩, h2⟩, h3⟩ := h
    have pa := s_ps GO d _ _ _ h1
    cases hq : swapD sc ts vs with
    | none => rw [hq] at h3; cases h3
    | some r =>
      have e0 := swapD_eq (pt := p1) (pt2 := p2) (kt := k1) (k2 := k2) (env := X.env) d.o.hsc d.kd hq
      rw [hq] at h3
      cases r with
      | none =>
        obtain ⟨q1, q2, q3⟩ := pgs_names (X := X) (by rw [d.o.hN]; exact d.o.nd) d.o.hN d.o.hsc (fun x _ => d.fn x) _ _ h2
        have hg : PG X (.Tuple ts k1 p1) (gTup X.K (is.map (·.2)).length (gNs (is.map (·.2)))) := pg_tup (d.o.calm hot) q1 q2 q3
        refine (ps_asg (pe_tup pa) hg rfl e0 rfl).imp fun D σ H ⟨W, b, env, S, X0, r, k⟩ => ?_
        refine TD.imp (par_run S X0 r k) fun W b W' H' a v e S k r => ?_
        obtain ⟨hl, W1, b1, env', le, S1, X1, r1, k1⟩ := k W' H' v e S r
        have hs : v.length ≤ sizeLine := by
          rw [hl]
          have : is.length ≤ 30 := by
            have : decide (is.length ≤ 30) = true := by
              have h3 : (decide (is.length ≤ 30)) = true := h3
              exact h3
            exact of_decide_eq_true this
          rw [sizeLine_eq]
          omega
        refine ⟨hs, fun a' n => ?_⟩
        refine ⟨a', v, rfl, SqT.of upd_same, by rw [hl, List.length_map], gNs_set _ _ _ (by rw [hl, List.length_map]) ?_⟩
        exact k1 W1 _ _ le (X1.trans (Ext.laid n) (S1.laid n)) (S1.laid n) (r1.ext (Ext.laid n))
      | some ns =>
        replace h3 : swNames sc (is.map (·.2)) ts vs ns = true := h3
        unfold swNames at h3
        split at h3
        · rename_i i j x px y py v1 v2 x' y' ei
          simp only [Bool.and_eq_true, decide_eq_true_eq, Bool.not_eq_true', decide_eq_false_iff_not] at h3
          obtain ⟨⟨⟨⟨nij, lx⟩, ly⟩, rfl⟩, rfl⟩ := h3
          rw [ei] at h2
          have h2 : ((decide (c.N[i]? = some x') && locF sc allF x') && ((decide (c.N[j]? = some y') && locF sc allF y') && true)) = true := h2
          simp only [Bool.and_eq_true, decide_eq_true_eq] at h2
          refine (ps_par (d.o.calm hot) (by rw [d.o.hN]; exact d.o.nd) (by rw [d.o.hN]; exact h2.1.1) (by rw [d.o.hN]; exact h2.2.1.1) nij (by rw [d.o.hsc]; exact kd_of lx) (by rw [d.o.hsc]; exact kd_of ly) pa e0 rfl).imp fun D σ H ⟨W, b, env, S, X0, r, k⟩ => ?_
          refine TD.imp (par_run S X0 r k) fun W b W' H' a v e S k r => ?_
          obtain ⟨hl, W1, b1, env', le, S1, X1, r1, k1⟩ := k W' H' v e S r
          rw [ei] at r1
          have hl2 : v.length = 2 := by
            have := congrArg List.length ei
            rw [hl]
            simpa using this
          match v, hl2 with
          | [u, w], _ => exact ⟨u, w, rfl, k1 W1 _ _ le X1 S1 r1⟩
        · rename_i i j l x px y py z pz v1 v2 v3 x' y' z' ei
          simp only [Bool.and_eq_true, decide_eq_true_eq, Bool.not_eq_true', decide_eq_false_iff_not] at h3
          obtain ⟨⟨⟨⟨⟨⟨⟨⟨nij, nil⟩, njl⟩, lx⟩, ly⟩, lz⟩, rfl⟩, rfl⟩, rfl⟩ := h3
          rw [ei] at h2
          have h2 : ((decide (c.N[i]? = some x') && locF sc allF x') && ((decide (c.N[j]? = some y') && locF sc allF y') && ((decide (c.N[l]? = some z') && locF sc allF z') && true))) = true := h2
          simp only [Bool.and_eq_true, decide_eq_true_eq] at h2
          refine (ps_par3 (d.o.calm hot) (by rw [d.o.hN]; exact d.o.nd) (by rw [d.o.hN]; exact h2.1.1) (by rw [d.o.hN]; exact h2.2.1.1) (by rw [d.o.hN]; exact h2.2.2.1.1) nij nil njl (by rw [d.o.hsc]; exact kd_of lx) (by rw [d.o.hsc]; exact kd_of ly) (by rw [d.o.hsc]; exact kd_of lz) pa e0 rfl).imp fun D σ H ⟨W, b, env, S, X0, r, k⟩ => ?_
          refine TD.imp (par_run S X0 r k) fun W b W' H' a v e S k r => ?_
          obtain ⟨hl, W1, b1, env', le, S1, X1, r1, k1⟩ := k W' H' v e S r
          rw [ei] at r1
          have hl2 : v.length = 3 := by
            have := congrArg List.length ei
            rw [hl]
            simpa using this
          match v, hl2 with
          | [u, w, t], _ => exact ⟨u, w, t, rfl, k1 W1 _ _ le X1 S1 r1⟩
        · cases h3
  · cases h
end
end Mp
namespace Mp
open PySem PySem.Spec PyProof.Rows L2
open Mp.T (Wc)
section
variable {K : PySem.W.Frag} {W W1 W2 : Wd} {H H1 H2 : Hp} {a D : Addr} {o : HO}
theorem Rows.snoc {vs : List V} {xs : List PyData} (e : H a = some (.lst vs)) (z : vs.length ≤ sizeLine) (q : DvAll K W.F vs xs) : ∀ {as : List Addr} {xss : List (List PyData)}, Rows K W H as xss → Rows K W H (as ++ [a]) (xss ++ [xs])
  | _, _, .nil => .cons e z q .nil
  | _, _, .cons e1 z1 q1 r => .cons e1 z1 q1 (Rows.snoc e z q r)
theorem Rows.upd : ∀ {as : List Addr} {xss : List (List PyData)}, D ∉ as → Rows K W H as xss → Rows K W (L2.upd H D o) as xss
  | _, _, _, .nil => .nil
  | _, _, n, .cons e z q r => by
    rw [List.mem_cons, not_or] at n
    exact .cons (by rw [upd_ne (Ne.symm n.1)]; exact e) z q (Rows.upd n.2 r)
/-- one row is written -/
theorem Rows.set {vs' : List V} {xs' : List PyData} (z' : vs'.length ≤ sizeLine) (q' : DvAll K W.F vs' xs') : ∀ {as : List Addr} {xss : List (List PyData)} {p : Nat}, as.Nodup → Rows K W H as xss → as[p]? = some a → Rows K W (L2.upd H a (.lst vs')) as (xss.set p xs')
  | _, _, _, _, .nil, h => by simp at h
  | _, _, 0, nd, .cons e z q r, h => by
    simp at h
    subst h
    rw [List.nodup_cons] at nd
    exact .cons upd_same z' q' (Rows.upd nd.1 r)
  | _, _, p + 1, nd, .cons e z q r, h => by
    rw [List.nodup_cons] at nd
    rw [List.getElem?_cons_succ] at h
    have h1 := h
    have hm := List.mem_of_getElem? h1
    refine .cons ?_ z q (Rows.set z' q' nd.2 r h1)
    rw [upd_ne fun x => nd.1 (by rw [x]; exact hm)]
    exact e
end
/-- a list of lists that were just made -/
def mO2 (K : PySem.W.Frag) : Rel (List (List PyData)) V := fun _ H W' H' xss v => ∃ D as, v = .ref D ∧ H D = none ∧ H' D = some (.lst (as.map V.ref)) ∧ W'.F D = none ∧ ¬ W'.isG D ∧ as.length ≤ sizeLine ∧ Rows K W' H' as xss ∧ (∀ a ∈ as, H a = none ∧ W'.F a = none ∧ ¬ W'.isG a) ∧ (D :: as).Nodup
theorem mono_mO2 {K : PySem.W.Frag} : Mono (mO2 K) := fun W H W1 H1 W' H' x v e e' r => by
  obtain ⟨D, as, h1, h2, h3, h4, h5, h6, h7, h8, h9⟩ := r
  have back : ∀ a, H1 a = none → ¬ W'.isG a → H a = none := fun a n g => by
    cases q : H a with
    | none => rfl
    | some o =>
      have := e.same a o q fun z => g (e'.le.isG z)
      rw [n] at this
      cases this
  exact ⟨D, as, h1, back D h2 h5, h3, h4, h5, h6, h7, fun a ha => ⟨back a (h8 a ha).1 (h8 a ha).2.2, (h8 a ha).2⟩, h9⟩
section
variable {G : Gf} {c : Ck} {sc : Scope} {X : Cx} {Γ : Ga} {pos : Pos}
theorem Wc_plain0 {α : Type} {Q : Nat → α → Prop} {E : Nat → Ex → Prop} {x : T α} {b : Nat} (p : Plain x) (h : Wc Q E b x) : ∃ a, x = T.ret a ∧ Q b a := by
  rcases p with ⟨a, rfl⟩ | rfl
  · exact ⟨a, rfl, h⟩
  · exact h.elim
def lcG (C : Ctx) (tg : MT) (m : ME) (env : Ev) : PyData → T (List PyData) := fun x => nox (asgT tg x env >>= fun env' => denE C m env' >>= asD >>= asList)
theorem td_lcO {own : List (Str × Nat)} {tg : MT} {it : MI} {g : Bool} {m : ME} {tm : Ev → T (List (List PyData))} {σ : L2.St} {H : Hp} {Q : VK} (hK : Γ.K = X.K) (hv : own.map (·.2) = slotsT tg)
    (hd : ∀ env, tm env = denI G.C it env >>= fun xs => guardL g xs >>= fun _ => mapT (lcG G.C tg m env) xs)
    (q : TD Γ (mO2 Γ.K) tm σ H Q) : tLc (TD Γ (mI false Γ.K) (denI G.C it)) (tgG X.K tg) tYes (TD Γ.nx (mN Γ.K) (denE G.C m)) (own.map (·.2)) σ H Q := by
  obtain ⟨W, b0, env, S, X0, r, k⟩ := q
  rw [hd] at k
  refine Wc.step mono_mO2 S X0 r k fun b1 xs W1 H1 J e1 S1 ⟨hz, Gd, Y, wk, later⟩ k => ?_
  have k : Wc (postQ Γ (mO2 Γ.K) W1 H1 Q) (postE Γ σ W1 H1) b1 (mapT (lcG G.C tg m env) xs) := by
    unfold guardL at k
    split at k
    · exact (need_Wc k).2
    · exact k
  intro D hD
  have X1 := X0.trans e1 S1
  have r1 := r.ext e1
  refine lc_it wk (fun i H2 => ∃ W2 b2 as ys, Ext W1 H1 W2 H2 ∧ SR Γ.K W2 b2 H2 ∧ H2 D = some (.lst (as.map V.ref)) ∧ W2.F D = none ∧ ¬ W2.isG D ∧ as.length ≤ i ∧ Rows Γ.K W2 H2 as ys ∧ (∀ a ∈ as, H1 a = none ∧ W2.F a = none ∧ ¬ W2.isG a) ∧ (D :: as).Nodup ∧
    Wc (postQ Γ (mO2 Γ.K) W1 H1 Q) (postE Γ σ W1 H1) b2 (mapT (lcG G.C tg m env) (xs.drop i) >>= fun zs => T.ret (ys ++ zs))) ?_ (fun i H2 hi ⟨W2, b2, as, ys, e2, S2, _⟩ => (later W2 b2 H2 e2 S2).1) (fun i x H2 H3 hi ⟨W2, b2, as, ys, e2, S2, hl, hF, hG, ha, hq, hm, hn, k⟩ y => ?_) fun H2 ⟨W2, b2, as, ys, e2, S2, hl, hF, hG, ha, hq, hm, hn, k⟩ => ?_
  · refine ⟨W1, b1, [], [], Ext.laid hD, S1.laid hD, upd_same, S1.noF hD, S1.notG hD, Nat.le_refl _, .nil, fun a h => (List.not_mem_nil h).elim, by simp, ?_⟩
    rw [List.drop_zero]
    exact (show Wc _ _ b1 (mapT (lcG G.C tg m env) xs >>= T.ret) from by rw [T.bind_ret]; exact k)
  · obtain ⟨W3, d, e3, S3, hdx, rv⟩ := (later W2 b2 H2 e2 S2).2 i x H3 hi y
    have hdr : xs.drop i = d :: xs.drop (i + 1) := by
      rw [List.drop_eq_getElem_cons hi]
      rw [List.getElem?_eq_getElem hi] at hdx
      cases hdx
      rfl
    rw [hdr] at k
    have k := (show Wc (postQ Γ (mO2 Γ.K) W1 H1 Q) (postE Γ σ W1 H1) b2 ((lcG G.C tg m env d >>= fun y => mapT (lcG G.C tg m env) (xs.drop (i + 1)) >>= fun ys => T.ret (y :: ys)) >>= fun zs => T.ret (ys ++ zs)) from k)
    rw [T.assoc] at k
    have k := (T.Wc_bind _ _).mp k
    obtain ⟨env', ea, k⟩ := Wc_plain plain_asgT (Wc_nox (E' := fun _ _ => False) _ _ k)
    have X3 := (X1.trans e2 S2).trans e3 S3
    have r3 := ((r1.ext e2).ext e3).wipe (own.map (·.2))
    have ea' : asgT tg d (wipeE env (own.map (·.2))) = T.ret env' := asgT_agree (by rw [wipeE_length]) (fun j hj => by rw [wipeE_out _ _ _ (by rw [hv]; exact hj)]) ea
    rw [← hK]
    refine tg_run S3 r3 rv ea' fun σ2 r4 hw => ⟨(hw (own.map (·.2)) fun j hj => by rw [hv]; exact hj).trans (wipe_wipe _ _), ?_⟩
    show TD Γ.nx (mN Γ.K) (denE G.C m) σ2 H3 _
    refine ⟨W3, b2, env', S3, X3, r4, ?_⟩
    rw [T.assoc] at k
    refine T.Wc.mono (fun b4 v hv4 W5 H5 u e5 S5 q5 => ?_) (fun _ _ z => z.elim) _ _ ((T.Wc_bind _ _).mp k)
    obtain ⟨yd, ey, hv4⟩ := Wc_plain plain_asD hv4
    obtain ⟨zs, ez, hv4⟩ := Wc_plain0 plain_asList hv4
    rw [asD_ret ey, asList_ret ez] at q5
    have q5' : New Γ.K H3 W5 H5 (.d (.list zs)) u := q5
    obtain ⟨a, vs, zs', h1, rfl, n3, h5, hFa, hGa, hza, hqa⟩ := q5'
    cases h1
    have e25 := e3.trans e5 S5
    have kp := e25.keep hl hG
    have n1 : H1 a = none := by
      cases q : H1 a with
      | none => rfl
      | some o =>
        have := (e2.trans e3 S3).same a o q fun z => hGa (e5.le.isG z)
        rw [n3] at this
        cases this
    have aD : a ≠ D := fun e => by
      have := (e3.keep hl hG).1
      rw [e, this] at n3
      cases n3
    have aas : a ∉ as := fun h => by
      obtain ⟨o, e⟩ := hq.alive a h
      have := (e3.keep e (hm a h).2.2).1
      rw [n3] at this
      cases this
    have hqR : Rows Γ.K W5 H5 as ys := hq.ext e25 fun c hc => (hm c hc).2.2
    refine ⟨as.map V.ref, kp.1, by rw [List.length_map]; exact Nat.lt_of_lt_of_le (Nat.lt_of_le_of_lt ha hi) hz, W5, b4, as ++ [a], ys ++ [zs], (e2.trans e25 S5).write hD, S5.write (e25.unf hl hF) kp.2, ?_, e25.unf hl hF, kp.2, by rw [List.length_append]; simp; omega, ?_, fun c hc => ?_, ?_, ?_⟩
    · rw [upd_same, List.map_append]
      rfl
    · refine Rows.upd ?_ (hqR.snoc h5 hza hqa)
      rw [List.nodup_cons] at hn
      rw [List.mem_append, not_or]
      exact ⟨hn.1, by simpa using Ne.symm aD⟩
    · rcases List.mem_append.mp hc with hc | hc
      · obtain ⟨o, e⟩ := hq.alive c hc
        exact ⟨(hm c hc).1, e25.unf e (hm c hc).2.1, (e25.keep e (hm c hc).2.2).2⟩
      · have : c = a := by simpa using hc
        subst this
        exact ⟨n1, hFa, hGa⟩
    · rw [List.nodup_cons] at hn ⊢
      rw [List.mem_append, not_or]
      refine ⟨⟨hn.1, by simpa using Ne.symm aD⟩, ?_⟩
      rw [List.nodup_append]
      exact ⟨hn.2, by simp, fun c hc d hd e => by
        have : d = a := by simpa using hd
        subst this
        subst e
        exact aas hc⟩
    · have z : Wc (postQ Γ (mO2 Γ.K) W1 H1 Q) (postE Γ σ W1 H1) b4 ((mapT (lcG G.C tg m env) (xs.drop (i + 1)) >>= fun rs => T.ret (zs :: rs)) >>= fun rs => T.ret (ys ++ rs)) := hv4
      rw [T.assoc] at z
      simpa using z
  · rw [List.drop_length] at k
    have k : Wc (postQ Γ (mO2 Γ.K) W1 H1 Q) (postE Γ σ W1 H1) b2 (T.ret (ys ++ [])) := k
    rw [List.append_nil] at k
    exact k W2 H2 (.ref D) e2 S2 ⟨D, as, rfl, hD, hl, hF, hG, by omega, hq, hm, hn⟩
end
section
variable {K : PySem.W.Frag} {H0 : Hp} {W W1 W0 : Wd} {H H1 : Hp} {b : Nat} {env : Ev} {σ : L2.St}
theorem ER.putO2 {i : Nat} {v : V} {xss : List (List PyData)} (X0 : Ext W0 H0 W H) (S : SR K W b H) (r : ER K H0 W σ H env) (h : Ext W H W1 H1) (q : mO2 K W H W1 H1 xss v) : ER K H0 W1 (σ.set i (some v)) H1 (env.set i (.own2 xss)) := by
  obtain ⟨D, as, rfl, h2, h3, h4, h5, h6, h7, h8, h9⟩ := q
  by_cases hi : i < env.length
  · have all : ∀ c, c ∈ D :: as → H c = none ∧ W1.F c = none ∧ ¬ W1.isG c := fun c hc => by
      rcases List.mem_cons.mp hc with rfl | hc
      · exact ⟨h2, h4, h5⟩
      · exact h8 c hc
    refine (r.ext h).put hi (.own2 h3 h6 h7) (fun c hc => ?_) h9 (fun c hc j g hj hs hm => ?_)
    · obtain ⟨n, nf, ng⟩ := all c hc
      refine ⟨nf, ?_, ng⟩
      cases e0 : H0 c with
      | none => rfl
      | some o =>
        have := X0.same c o e0 (S.notG n)
        rw [n] at this
        cases this
    · obtain ⟨n, nf, ng⟩ := all c hc
      intro hg
      obtain ⟨g', s', m'⟩ := r.slot j
      have s2 := s'.ext h fun d hd => (m' d hd).2.2
      have eg : g = g' := SlotR.fp_uniq hs s2
      rw [eg] at hg
      obtain ⟨o, e'⟩ := s'.alive c hg
      rw [n] at e'
      cases e'
  · rw [List.set_eq_of_length_le (by have := r.len; omega), List.set_eq_of_length_le (by omega)]
    exact r.ext h
theorem ER.own2U {l : Nat} {xss : List (List PyData)} (X0 : Ext W0 H0 W H) (S : SR K W b H) (r : ER K H0 W σ H env) (h : env.at l = .own2 xss) : ∃ D as, σ[l]? = some (some (.ref D)) ∧ H D = some (.lst (as.map V.ref)) ∧ Rows K W H as xss ∧ ¬ W.isG D ∧
    ∀ p a vs' xs', as[p]? = some a → vs'.length ≤ sizeLine → DvAll K W.F vs' xs' → SR K W b (upd H a (.lst vs')) ∧ Ext W0 H0 W (upd H a (.lst vs')) ∧ ER K H0 W σ (upd H a (.lst vs')) (env.set l (.own2 (xss.set p xs'))) := by
  obtain ⟨hl, fp, h1, h2, h3, h4⟩ := r
  have s := h1 l
  have m := h2 l
  have nd := h3 l
  rw [h] at s
  generalize hf : fp l = f at s m nd
  generalize hσ : σ[l]? = o at s
  cases s with
  | @own2 D as _ e z q =>
    refine ⟨D, as, rfl, e, q, (m D List.mem_cons_self).2.2, fun p a vs' xs' hp z' q' => ?_⟩
    have hm : a ∈ as := List.mem_of_getElem? hp
    obtain ⟨m1, m2, m3⟩ := m a (List.mem_cons_of_mem _ hm)
    refine ⟨S.write m1 m3, X0.write m2, ?_⟩
    refine ⟨by rw [List.length_set]; exact hl, fp, fun j => ?_, h2, h3, h4⟩
    by_cases hj : j = l
    · subst hj
      have hlt : j < env.length := by
        have : j < σ.length := by
          have := List.getElem?_eq_some_iff.mp hσ
          exact this.1
        omega
      rw [at_set, if_pos ⟨rfl, hlt⟩, hf, hσ]
      rw [List.nodup_cons] at nd
      refine .own2 ?_ z (Rows.set z' q' nd.2 q hp)
      rw [upd_ne fun x => nd.1 (by rw [x]; exact hm)]
      exact e
    · rw [at_set, if_neg fun q => hj q.1]
      refine (h1 j).upd fun ha => hj ?_
      exact h4 j l a ha (by rw [hf]; exact List.mem_cons_of_mem _ hm)
end
section
variable {G : Gf} {c : Ck} {sc : Scope} {X : Cx} {Γ : Ga} {W : Wd} {H : Hp} {b : Nat} {env : Ev} {σ : L2.St} {D : Ends}
theorem plain_own2At {l : Nat} : Plain (own2At env l) := by
  unfold own2At
  split
  · exact plain_ret _
  · exact plain_stuck
theorem own2At_ret {l : Nat} {xs : List (List PyData)} (h : own2At env l = T.ret xs) : env.at l = .own2 xs := by
  unfold own2At at h
  split at h
  · rename_i ys e
    rw [ret_inj h] at e
    exact e
  · cases h
theorem ss_asgO2 (GO : GOk G c) {i : Nat} {g : Bool} {tg : MT} {it : MI} {m : ME} : SS G c (.asgO2 i g tg it m) := fun {X sc Γ st} d h => by
  unfold chkS at h
  split at h
  · rename_i tt v p hx
    obtain rfl := xAsg_inv hx
    simp only [Bool.and_eq_true] at h
    obtain ⟨⟨h1, hm⟩, h3⟩ := h
    split at h3
    · rename_i y py
      simp only [Bool.and_eq_true, decide_eq_true_eq] at h3
      obtain ⟨hN, hl⟩ := h3
      unfold chkE at h1
      split at h1
      · rename_i elt t iter s hx
        obtain ⟨lp, rfl⟩ := xLc_inv hx
        simp only [Bool.and_eq_true, decide_eq_true_eq, Bool.not_eq_true'] at h1
        obtain ⟨⟨⟨⟨⟨⟨⟨hot, k0⟩, k1⟩, k2⟩, k3⟩, k4⟩, k5⟩, k6⟩ := h1
        have ob := fun s' H C cl fp => d.o.blk hot s s' H C cl fp
        have fin : ∀ {D : Ends} {σ : L2.St} {H : Hp}, TDS Γ (denS G.C (.asgO2 i g tg it m)) D σ H → tAsg (tLc (TD Γ (mI false Γ.K) (denI G.C it)) (tgG X.K tg) tYes (TD Γ.nx (mN Γ.K) (denE G.C m)) ((ownOf c.N s).map (·.2))) (gName i) D σ H := fun {D σ H} ⟨W, b, env, S, X0, r, k⟩ => by
          refine td_lcO (G := G) (g := g) d.KK k6 (fun env => rfl) ?_
          have k : Wc (postS Γ W D) (postX Γ) b ((denI G.C it env >>= fun xs => guardL g xs >>= fun _ => mapT (lcG G.C tg m env) xs) >>= fun xss => T.ret (.nx, env.set i (.own2 xss))) := by
            simp only [denS] at k
            simp only [T.assoc]
            exact k
          refine Wc.stepS (rel := mO2 Γ.K) (t := fun env => denI G.C it env >>= fun xs => guardL g xs >>= fun _ => mapT (lcG G.C tg m env) xs) S X0 r k fun b1 xss W1 H1 u e1 S1 X1 r1 q k => ?_
          exact k W1 H1 _ e1.le X1 S1 (r.putO2 X0 S e1 q)
        have hi := sI GO it d.o d.hK d.hx d.tk k1
        have ok : BlkOk X.N X.env.scope s (ownOf c.N s) := by
          rw [d.o.hN, d.o.hsc]
          exact blkOk_by k5
        have hg : ∀ (s' : Shared) (H : Hp) (C : Addr) (cl : List (Str × Addr)) (fp : List Addr), PG (X.blk s' H s (compEnvC s cl C X.env) fp) t (tgG X.K tg) := fun s' H C cl fp => pg_tgt (by rw [d.o.hN]; exact d.o.nd) (ob s' H C cl fp).hN (ob s' H C cl fp).hsc fnB_blk (d.o.calm hot) k2
        have he : ∀ (s' : Shared) (H : Hp) (C : Addr) (cl : List (Str × Addr)) (fp : List Addr), PE (X.blk s' H s (compEnvC s cl C X.env) fp) elt (TD Γ.nx (mN Γ.K) (denE G.C m)) := fun s' H C cl fp => by
          have z := (sE GO m).pe (Γ := Γ.nx) (ob s' H C cl fp) d.hK d.hx takes0 k3
          rw [md_mk hm k4] at z
          exact z
        cases hw : swC sc y py (.ListComp elt [⟨t, iter, [], 0⟩] s lp) with
        | false =>
          obtain ⟨l1, l2⟩ := locF_of d.o.hsc (fun x _ => d.fn x) hl
          exact (ps_set (by rw [d.o.hN]; exact d.o.nd) (by rw [d.o.hN]; exact hN) l1 (pe_lc (d.o.calm hot) (by rw [d.o.hN]; exact d.o.nd) hi ok hg (fun _ _ _ _ _ => pts_nil) he (folded k0 _)) (sw_no d.o.hsc d.kd hw) l2).imp fun D σ H q => fin q
        | true =>
          have hloc : sc.names.lookup y = some .local := by
            have h : (decide (sc.names.lookup y = some .local) && py.line == lp.line && !(s.names.any fun (n, k) => n == y && (k == .local || k == .cell))) = true := hw
            simp only [Bool.and_eq_true, decide_eq_true_eq] at h
            exact h.1.1
          exact (ps_setLc (d.o.calm hot) (by rw [d.o.hN]; exact d.o.nd) (by rw [d.o.hN]; exact hN) (by rw [d.o.hsc]; exact hloc) (sw_yes d.o.hsc d.kd hw) hi ok hg (fun _ _ _ _ _ => pts_nil) he (folded k0 _)).imp fun D σ H q => fin q
      · cases h1
    · cases h3
  · cases h
theorem ss_setII (GO : GOk G c) {l : Nat} {i j m : ME} : SS G c (.setII l i j m) := fun {X sc Γ st} d h => by
  unfold chkS at h
  split at h
  · rename_i t v p hx
    obtain rfl := xAsg_inv hx
    rw [Bool.and_eq_true, Bool.and_eq_true, Bool.and_eq_true, Bool.not_eq_true', Bool.not_eq_true'] at h
    obtain ⟨⟨⟨h1, h2⟩, h3⟩, h4⟩ := h
    split at h4
    · rename_i o kj hs
      obtain ⟨sp, rfl⟩ := xSub_inv hs
      split at h4
      · rename_i o2 ki hs2
        obtain ⟨sp2, rfl⟩ := xSub_inv hs2
        split at h4
        · rename_i x ho
          obtain ⟨xp, rfl⟩ := xName_inv ho
          simp only [Bool.and_eq_true] at h4
          obtain ⟨⟨⟨⟨k1, k2⟩, k3⟩, k4⟩, k5⟩ := h4
          have po : PE X (.Subscript (.Name x xp) ki sp2) (tOp (rIx X.K) (tVar l) (TD Γ (mR Γ.K) (denE G.C i))) := pe_ix ix_seq (nmOk_of d k1) ((sE GO i).r d.o d.hK d.hx d.tk k2) (fun o i => by cases ki <;> first | rfl | cases k3)
          have hg : PG X (.Subscript (.Subscript (.Name x xp) ki sp2) kj sp) (gSub (tOp (rIx X.K) (tVar l) (TD Γ (mR Γ.K) (denE G.C i))) (TD Γ (mR Γ.K) (denE G.C j)) rSetL) := pg_sub po ((sE GO j).r d.o d.hK d.hx d.tk k4) set_list (fun v => by cases kj <;> first | rfl | cases k5)
          have sw : swapsWithSole [.Subscript (.Subscript (.Name x xp) ki sp2) kj sp] v p.line X.env = pure false := by cases v <;> first | rfl | cases h3
          have st : swappedStores [.Subscript (.Subscript (.Name x xp) ki sp2) kj sp] v X.env = pure none := by cases v <;> rfl
          refine (ps_asg ((sE GO m).v d.o d.hK d.hx d.tk h1 h2) hg sw st rfl).imp fun D σ H ⟨W, b, env, S, X0, r, k⟩ => ?_
          simp only [denS, T.assoc] at k
          refine Wc.stepS S X0 r k fun b1 v W1 H1 u e1 S1 X1 r1 q k => ?_
          obtain ⟨dd, ed, k⟩ := Wc_plain plain_asD k
          rw [asD_ret ed] at q
          obtain ⟨xss, ex, k⟩ := Wc_plain plain_own2At k
          have ho := own2At_ret ex
          obtain ⟨Dr, as, hσ, hH, hR, ng, _⟩ := r1.own2U X1 S1 ho
          refine ⟨.ref Dr, hσ, ?_⟩
          refine Wc.stepS S1 X1 r1 k fun b2 v2 W2 H2 u2 e2 S2 X2 r2 q2 k => ?_
          obtain ⟨di, ei, k⟩ := Wc_plain plain_asD k
          obtain ⟨ii, eii, k⟩ := Wc_plain plain_asInt k
          rw [asD_ret ei, asInt_ret eii] at q2
          obtain ⟨pp, ep, k⟩ := Wc_plain plain_opt k
          obtain ⟨xs, exs, k⟩ := Wc_plain plain_opt k
          have hp := opt_some ep
          have hxs := opt_some exs
          obtain ⟨Dr2, as2, hσ2, hH2, hR2, ng2, _⟩ := r2.own2U X2 S2 ho
          rw [hσ] at hσ2
          cases hσ2
          have eas : as2 = as := refs_inj (by
            have := (e2.keep hH ng).1
            rw [hH2] at this
            injection this with this
            injection this)
          subst eas
          obtain ⟨a, vs, ga, _, _, _⟩ := hR2.get hxs
          refine .inl ⟨Dr, as2.map V.ref, ii, .ref a, rfl, RR.int q2, SqL.of hH2, ?_, ?_⟩
          · unfold atI
            rw [List.length_map, hR2.length, place_ix, hp]
            show (as2.map V.ref)[pp]? = _
            rw [List.getElem?_map, ga]
            rfl
          refine Wc.stepS S2 X2 r2 k fun b3 v3 W3 H3 u3 e3 S3 X3 r3 q3 k => ?_
          obtain ⟨dj, ej, k⟩ := Wc_plain plain_asD k
          obtain ⟨jj, ejj, k⟩ := Wc_plain plain_asInt k
          rw [asD_ret ej, asInt_ret ejj] at q3
          obtain ⟨qq, eq, k⟩ := Wc_plain plain_opt k
          have hq := opt_some eq
          obtain ⟨Dr3, as3, hσ3, hH3, hR3, ng3, up⟩ := r3.own2U X3 S3 ho
          rw [hσ] at hσ3
          cases hσ3
          have eas : as3 = as2 := refs_inj (by
            have := (e3.keep hH2 ng2).1
            rw [hH3] at this
            injection this with this
            injection this)
          subst eas
          obtain ⟨a', vs, ga', ea, za, qa⟩ := hR3.get hxs
          rw [ga] at ga'
          cases ga'
          have q' : RV Γ.K W3 (.d dd) u := RV.le (e2.le.trans e3.le) q
          cases q' with
          | d q' =>
            obtain ⟨u1, u2', u3⟩ := up pp a (vs.set qq u) (xs.set qq dd) ga (by rw [List.length_set]; exact za) (qa.set qq q')
            exact ⟨a, vs, jj, qq, rfl, RR.int q3, ea, by rw [qa.length]; exact hq, k W3 _ σ (e1.le.trans (e2.le.trans e3.le)) u2' u1 u3⟩
        · cases h4
      · cases h4
    · cases h4
  · cases h
theorem ss_appPop (GO : GOk G c) {i l : Nat} {m : ME} : SS G c (.appPop i l m) := fun {X sc Γ st} d h => by
  unfold chkS at h
  split at h
  · rename_i e p hx
    obtain rfl := xExpr_inv hx
    split at h
    · rename_i x f a hx'
      obtain ⟨xp, p1, q1, rfl, hl⟩ := xNMeth_inv hx'
      split at h
      · rename_i y g a' hx2
        obtain ⟨yp, p2, q2, rfl, hl2⟩ := xNMeth_inv hx2
        simp only [Bool.and_eq_true, decide_eq_true_eq, Bool.not_eq_true', decide_eq_false_iff_not] at h
        obtain ⟨⟨⟨⟨⟨⟨h1, h2⟩, hil⟩, rfl⟩, rfl⟩, h5⟩, h6⟩ := h
        have hst := star1 h5 [] X.env
        have hfew : ((backTo q2 (starEach [a'] X.env)).all (fun x => !x.1) && (backToKw q2 (keywordEach [] X.env)).all (fun x => x.1.isSome) && decide (([a'] : List Expr).length + ([] : List Keyword).length + (if ([] : List Keyword).isEmpty then 0 else 1) < 30)) = true := by
          rw [hst]
          rfl
        have pe : PE X (.Call (.Attribute (.Name y yp) "pop" p2) [a'] [] q2) (tBM X.K "list" rPopAt (tVar l) (tCons (TD Γ (mR Γ.K) (denE G.C m)) tNil)) :=
          pe_bm F.plainAttrs_list F.slot_list_pop F.type_list_pop mt_popAt (nmOk_of d h2) (pa_cons ((sE GO m).r d.o d.hK d.hx d.tk h6) pa_nil hst) rfl hfew hl2 hst rfl
        have pe2 : PE X (.Call (.Attribute (.Name x xp) "append" p1) [.Call (.Attribute (.Name y yp) "pop" p2) [a'] [] q2] [] q1) (tBM X.K "list" rAppend (tVar i) (tCons (tBM X.K "list" rPopAt (tVar l) (tCons (TD Γ (mR Γ.K) (denE G.C m)) tNil)) tNil)) :=
          pe_bm F.plainAttrs_list F.slot_list_append F.type_list_append mt_append (nmOk_of d h1) (pa_cons pe pa_nil rfl) rfl rfl hl rfl rfl
        refine (ps_expr pe2 rfl).imp fun D σ H ⟨W, b, env, S, X0, r, k⟩ => ?_
        simp only [denS, T.assoc] at k
        obtain ⟨ys, ey, k⟩ := Wc_plain plain_ownAt k
        obtain ⟨xs, ex, k⟩ := Wc_plain plain_ownAt k
        have hoi := ownAt_ret ey
        have ho := ownAt_ret ex
        obtain ⟨a0, vs0, hσ0, hH0, z0, qv0, ng0, _⟩ := r.ownU X0 S hoi
        refine ⟨.ref a0, hσ0, .inl ⟨rfl, vs0, SqL.of hH0⟩, ?_⟩
        obtain ⟨a1, vs1, hσ, hH, z1, qv1, ng1, _⟩ := r.ownU X0 S ho
        refine ⟨.ref a1, hσ, .inl ⟨rfl, vs1, SqL.of hH⟩, ?_⟩
        refine Wc.stepS S X0 r k fun b1 v W1 H1 u e1 S1 X1 r1 q k => ?_
        obtain ⟨dd, ed, k⟩ := Wc_plain plain_asD k
        obtain ⟨ii, eii, k⟩ := Wc_plain plain_asInt k
        rw [asD_ret ed, asInt_ret eii] at q
        obtain ⟨j, ej, k⟩ := Wc_plain plain_opt k
        obtain ⟨x0, ex0, k⟩ := Wc_plain plain_opt k
        obtain ⟨hz, k⟩ := need_Wc k
        have hj := opt_some ej
        have hx0 := opt_some ex0
        obtain ⟨a2, vs2, hσ2, hH2, z2, qv2, ng2, up⟩ := r1.ownU X1 S1 ho
        rw [hσ] at hσ2
        cases hσ2
        have hlen : vs2.length = xs.length := qv2.length
        obtain ⟨w, hw, rw'⟩ := qv2.get hx0
        have h0 : SL = sizeLine := SL_eq
        obtain ⟨g1, g2, g3⟩ := place_seq (n := xs.length) (by omega) hj
        obtain ⟨u1, u2, u3⟩ := up (vs2.eraseIdx j) (xs.eraseIdx j) (by have := List.length_eraseIdx_le vs2 j; omega) (qv2.eraseIdx j)
        refine ⟨a1, vs2, ii, j, w, rfl, by rw [RR.int q], hH2, g1, g2, by rw [hlen]; exact g3, hw, ?_⟩
        have ho3 : Ev.at (env.set l (.own (xs.eraseIdx j))) i = .own ys := by
          rw [at_set, if_neg fun z => hil z.1]
          exact hoi
        obtain ⟨a3, vs3, hσ3, hH3, z3, qv3, ng3, up3⟩ := u3.ownU u2 u1 ho3
        rw [hσ0] at hσ3
        cases hσ3
        have hlen3 : vs3.length = ys.length := qv3.length
        obtain ⟨t1, t2, t3⟩ := up3 (vs3 ++ [w]) (ys ++ [x0]) (by rw [List.length_append, hlen3]; have := SL_le hz; simp; omega) (qv3.append (.cons rw' .nil))
        exact ⟨a0, vs3, w, rfl, rfl, hH3, by rw [hlen3, ← SL_eq]; exact hz, k W1 _ σ e1.le t2 t1 t3⟩
      · cases h
    · cases h
  · cases h
end
end Mp
namespace Mp
open PySem PySem.Spec PyProof.Rows L2 PySem.XM
open Mp.T (Wc)
/-- the ends behind a clause's suite: its name is gone -/
def goneD (i : Nat) (D : Ends) : Ends := { nx := fun σ' H' => D.nx (σ'.set i none) H', rt := D.rt, bk := fun σ' H' => D.bk (σ'.set i none) H', ct := fun σ' H' => D.ct (σ'.set i none) H' }
abbrev Cl := Value × Nat × (Addr → Value → Option Addr → TS)
def wManyN (K : PySem.W.Frag) (Wout : WX) (D : Ends) : List Cl → WX
  | [] => Wout
  | (c, i, ts) :: r => fun cls d σ H => ∃ b, PySem.W.exmOne K cls c = some b ∧ (b = true → ∀ a, H a = none → ts a cls d (goneD i D) (σ.set i (some (.ref a))) H) ∧ (b = false → wManyN K Wout D r cls d σ H)
inductive HdsN (X : Cx) : List ExceptHandler → List Cl → Prop
  | nil : HdsN X [] []
  | cons {x n : Str} {c : Value} {i : Nat} {ts : Addr → Value → Option Addr → TS} {b₀ : Stmt} {suite : List Stmt} {np pos' : Pos} {hds : List ExceptHandler} {l : List Cl} (hc : Names X x c) (hi : X.N[i]? = some n) (hln : X.env.kindOf n = some .local)
      (hsu : ∀ (a : Addr) (oe : Obj) (cls : Value) (d : Option Addr) (pn : List (Addr × Obj)), Zc cls d oe → (∃ vs, oe.data = .fields vs) → PSs (X.suite a ((a, oe) :: pn)) (b₀ :: suite) (ts a cls d)) (r : HdsN X hds l) :
      HdsN X (.ExceptHandler (some (.Name x np)) (some n) (b₀ :: suite) pos' :: hds) ((c, i, ts) :: l)
section
variable {X : Cx} {body : List Stmt} {h₀ : ExceptHandler} {hds : List ExceptHandler} {l : List Cl} {pos : Pos} {tb : WX → TS} {Wout : WX}
theorem ps_try_manyN (hs : X.stack = X.env :: X.outer) (hf : X.env.frame = some X.env.locals) (hN : X.N.Nodup) (tk : Takes X Wout)
    (hb : ∀ (W : WX) (pn : List (Addr × Obj)) (xe : Value → Shared → Prop), Takes (X.tr pn xe) W → PassesOwn (model X.prog X.w) X.A X.env xe → PSs (X.tr pn xe) body (tb W))
    (hh : HdsN X (h₀ :: hds) l) : PS X (.Try body (h₀ :: hds) [] [] pos) (fun D σ H => tb (wManyN X.K Wout D l) D σ H) := by
  refine ⟨fun pins s σ H D I h => ?_⟩
  have ok := I.ok
  have hfr : X.A.frames = some (X.env :: X.outer) := by rw [ok.frames, hs]
  refine wpAny_Try_except ?_
  refine wpAny_mono ((hb (wManyN X.K Wout D l) (X.pn ++ pins) (fun e s₁ => wpAny (model X.prog X.w) X.A (noteFrame e X.env) (fun _ s₂ => wpAny (model X.prog X.w) X.A (setFlight e none) (fun _ s₃ =>
    wpAny (model X.prog X.w) X.A (handleBy e X.env (h₀ :: hds)) (SP X pins D) X.xe s₃) X.xe s₂) X.xe s₁) (fun u s' xx => ?_) PassesOwn.looking).run [] s σ H D (I.toTry _) h) (fun f s1 hsp => ?_) (fun e s1 he => he)
  · -- the catch
    obtain ⟨a, B, sI, pins', σ', H', cls, d, rfl, J', nb, up, sky, na, os, ag, w⟩ := xx
    have J : Inv X pins σ' H' sI := J'.ofTry ok
    have sky' : Sky B (X.env :: X.outer) a (Zc cls d) X.env.locals s'.heap := by rw [← hs]; exact sky
    show wpAny (model X.prog X.w) X.A (noteFrame (.ref a) X.env) _ _ _
    refine Sky.land Zc.steady hfr hf sky' fun h3 fl3 up3 => ?_
    have J3 : Inv X pins σ' H' { s' with heap := h3 } := J.landed nb fl3.1 (up.trans up3) os ag
    obtain ⟨oe3, vs3, he3, hz3, hd3⟩ := fl3.there
    have notFr : ∀ {h : Heap} {o : Obj} {vs : Array Value}, h.FunFrames B (X.env :: X.outer) → h.get? a = some o → o.data = .fields vs → a ∉ frs (X.env :: X.outer) := fun {h o vs} ff e dd hm => by
      obtain ⟨_, o', e', hnf⟩ := ff.mem hm
      rw [e] at e'; cases e'
      exact hnf _ dd
    have nfr := notFr fl3.2.2.1 he3 hd3
    have nL : a ≠ X.env.locals := fun z => nfr (List.mem_filterMap.mpr ⟨X.env, List.mem_cons_self, by rw [hf, z]⟩)
    have nF : a ∉ X.fs := fun hm => by
      obtain ⟨e, he, q⟩ := List.mem_filterMap.mp hm
      exact nfr (List.mem_filterMap.mpr ⟨e, List.mem_cons_of_mem _ he, q⟩)
    have S3 := J3.suite he3 hd3 na nL nF
    have go : ∀ {hds' : List ExceptHandler} {l' : List Cl}, HdsN X hds' l' → wManyN X.K Wout D l' cls d σ' H' →
        wpAny (model X.prog X.w) X.A (handleBy (.ref a) X.env hds') (SP X pins D) X.xe { s' with heap := h3 } := by
      intro hds' l' hk
      induction hk with
      | nil =>
        intro w
        refine wpAny_handleBy_nil ?_
        obtain ⟨k1, k2, k3, oe, vs, T, oT, ts', he, hz, hd, h1, hr⟩ := id fl3
        unfold PySem.passOn
        refine wpAny_bind (wpAny_field he hd h1 ?_)
        rw [if_neg (show ¬ ((Value.ref T == Value.none) = true) from by simp)]
        have fin : wpAny (model X.prog X.w) X.A (setFlight (.ref a) X.env.frame) (fun _ s4 => wpAny (model X.prog X.w) X.A (throw (.ref a) : Sem Flow) (SP X pins D) X.xe s4) X.xe { s' with heap := h3 } := by
          rw [hf]
          refine HandSPX.setFlight_upZ fl3 fun h4 hh4 up4 => wpAny_throw (tk _ _ ?_)
          exact ⟨a, B, sI, pins, σ', H', cls, d, rfl, J, nb, (up.trans up3).trans up4, .inr (.inr (by rw [hs]; exact hh4)), na, os, ag, w⟩
        first
          | exact wpAny_bind (wpAny_pure (wpAny_bind fin))
          | exact wpAny_bind fin
      | @cons x n c i ts b₀ suite np pos' hds2 l2 hc hi hln hsu r ih =>
        intro w
        obtain ⟨b, hb1, hyes, hno⟩ := w
        refine wpAny_handleBy_cons (codeAny_handlers_test ?_) (by intro q; cases q)
        have LT : PySem.W.Looks (model X.prog X.w) h3 (typeOf (.ref a)) cls := fun A Q E s k q => wpAny_typeOf_ref (k _ _ he3) (by rw [hz3.1]; exact q)
        have LM := PySem.W.exm_one (M := model X.prog X.w) (J3.kIn) LT hb1
        have test : ∀ {Q : Value → Shared → Prop} {E : Value → Shared → Prop}, Q c { s' with heap := h3 } → wpAny (model X.prog X.w) (X.A.mark (some (.ref a))) (eval (.Name x np) X.env) Q E { s' with heap := h3 } := fun {Q E} q => by
          obtain ⟨hg, hdbg, hm | ⟨hm, hv, hnn⟩⟩ := hc
          · exact ld_glob (X := X.suite a ((a, oe3) :: (X.pn ++ pins))) S3 hg hm q hdbg
          · exact ld_blt (X := X.suite a ((a, oe3) :: (X.pn ++ pins))) S3 hg hm hv q hnn hdbg
        refine test (LM.here ?_)
        cases b with
        | true =>
          refine codeAny_handlers_suite_as ?_
          refine HandSPX.lands_againZ fl3 fun h4 fl4 up4 => ?_
          have J4 : Inv X pins σ' H' { s' with heap := h4 } := J.landed nb fl4.1 ((up.trans up3).trans up4) os ag
          obtain ⟨oe4, vs4, he4, hz4, hd4⟩ := fl4.there
          have S4 := J4.suite he4 hd4 na nL nF
          refine store_ok (X := X.suite a ((a, oe4) :: (X.pn ++ pins))) (v := .ref a) S4 hN hi (.inl hln) rfl (fun s5 S5 => ?_) (.inr hln)
          refine wpAny_mono ((hsu a oe4 cls d (X.pn ++ pins) hz4 ⟨_, hd4⟩).run [] s5 _ H' _ S5 (hyes rfl a na)) (fun f s6 hsp => ?_) (fun _ _ z => False.elim z)
          have end_ : ∀ {σ6 : L2.St} {H6 : Hp} {Q : Shared → Prop}, Inv (X.suite a ((a, oe4) :: (X.pn ++ pins))) [] σ6 H6 s6 → (∀ s7, Inv X pins (σ6.set i none) H6 s7 → Q s7) →
              wpAny (model X.prog X.w) X.A (do bindName X.env n .none; unbindBehindTheSuite X.env n pos') (fun _ s7 => Q s7) X.xe s6 := fun {σ6 H6 Q} S6 hq => gone_ok (S6.unsuite ok) hN hi hln hq
          cases f with
          | next =>
            obtain ⟨σ6, H6, S6, q6⟩ := hsp
            exact end_ S6 fun s7 J7 => ⟨_, _, J7, q6⟩
          | brk =>
            obtain ⟨σ6, H6, S6, q6⟩ := hsp
            exact end_ S6 fun s7 J7 => ⟨_, _, J7, q6⟩
          | cont =>
            obtain ⟨σ6, H6, S6, q6⟩ := hsp
            exact end_ S6 fun s7 J7 => ⟨_, _, J7, q6⟩
          | ret u =>
            obtain ⟨v6, σ6, H6, S6, r6, q6⟩ := hsp
            exact end_ S6 fun s7 J7 => ⟨_, _, _, J7, r6, q6⟩
        | false =>
          show wpAny _ X.A (handleBy (.ref a) X.env hds2) _ _ _
          exact ih (hno rfl)
    exact go hh w
  · cases f with
    | next =>
      obtain ⟨σ', H', J', q⟩ := hsp
      exact wpAny_execs_nil ⟨σ', H', J'.ofTry ok, q⟩
    | brk =>
      obtain ⟨σ', H', J', q⟩ := hsp
      exact ⟨σ', H', J'.ofTry ok, q⟩
    | cont =>
      obtain ⟨σ', H', J', q⟩ := hsp
      exact ⟨σ', H', J'.ofTry ok, q⟩
    | ret u =>
      obtain ⟨v, σ', H', J', r, q⟩ := hsp
      exact ⟨v, σ', H', J'.ofTry ok, r, q⟩
end

theorem lookup_zip {K : PySem.W.Frag} {F : Hp} : ∀ {fs : List Str} {vs : List V} {xs : List PyData}, DvAll K F vs xs → ∀ {f : Str} {x : PyData}, (fs.zip xs).lookup f = some x → f ∈ fs ∧ ∃ v, (fs.zip vs).lookup f = some v ∧ Dv K F v x
  | [], _, _, _, f, x, h => by simp at h
  | _ :: _, _, _, .nil, f, x, h => by simp at h
  | g :: fs, _, _, .cons a b, f, x, h => by
    rw [List.zip_cons_cons, List.lookup] at h
    rw [List.zip_cons_cons, List.lookup]
    cases e : f == g with
    | true =>
      rw [e] at h
      cases h
      have : f = g := by simpa using e
      exact ⟨by simp [this], _, rfl, a⟩
    | false =>
      rw [e] at h
      obtain ⟨h1, h2⟩ := lookup_zip b h
      exact ⟨List.mem_cons_of_mem _ h1, h2⟩
theorem xRaise_inv {s : Stmt} {x : Str} {as : List Expr} (h : xRaise s = some (x, as)) : ∃ p q r, s = .Raise (some (.Call (.Name x p) as [] q)) none r := by
  unfold xRaise at h
  split at h
  · cases h
    exact ⟨_, _, _, rfl⟩
  · cases h
variable {G : Gf} {c : Ck}
theorem ss_rais (GO : GOk G c) {k : Nat} {es : MEs} : SS G c (.rais k es) := fun {X sc Γ st} d h => by
  unfold chkS at h
  split at h
  · rename_i x as hx
    obtain ⟨p, q, r0, rfl⟩ := xRaise_inv hx
    simp only [Bool.and_eq_true, Bool.not_eq_true', decide_eq_true_eq] at h
    obtain ⟨⟨⟨⟨⟨hot, hb⟩, hk⟩, he⟩, hl⟩, hns⟩ := h
    obtain ⟨b1, b2, b3⟩ := isB_of hb
    obtain ⟨M, kn, hM⟩ := GO.xs
    obtain ⟨C, kc⟩ := kn k hk
    have XT := kc.2.2.1
    have m := kc.2.2.2
    rw [← d.o.hK, ← d.o.hmg] at XT
    rw [← d.o.hK] at m
    subst b1
    have ha := ((sEs GO es) d.o d.hK d.hx d.tk).1 he
    have rm := d.o.room hot
    cases as with
    | nil =>
      have f0 : fsX k = [] := by
        cases hf : fsX k with
        | nil => rfl
        | cons _ _ => rw [hf] at hl; simp at hl
      rw [f0] at m
      have es0 : es = .nil := by
        cases es with
        | nil => rfl
        | cons _ _ => simp [chkEs] at he
        | star _ _ => simp [chkEs] at he
      subst es0
      refine (ps_raise (d.o.calm hot) d.tk (pmk_x0 XT m (d.o.gl b2) b3)).imp fun D σ H ⟨W, b, env, S, X0, r, kk⟩ => ?_
      simp only [denS, denEs, T.ret_bind, f0] at kk
      have kk := (need_Wc kk).2
      refine kk σ W H (.ref C) none X0 S ?_
      rw [d.hx.1, GO.xr]
      refine ⟨hk, ⟨C, by rw [← d.o.hmg]; exact XT.gC, rfl⟩, .inl rfl, fun f x e => ?_⟩
      simp at e
    | cons y ys =>
      have hne : fsX k ≠ [] := fun e => by rw [e] at hl; simp at hl
      have hsz : (fsX k).length ≤ 1000 := by
        have : ∀ k : Fin 29, (fsX k.1).length ≤ 1000 := by decide
        exact this ⟨k, by have := kc.2.1; omega⟩
      have sall : ∀ {zs : List Expr}, zs.all notStar = true → (zs.all fun z => notStar z) = true := fun h => h
      simp only [List.all_cons, Bool.and_eq_true] at hns
      have hpl : (backTo q (starEach ys X.env)).any (·.1) = false := by
        have key : ∀ {zs : List Expr}, zs.all notStar = true → (backTo q (starEach zs X.env)).any (·.1) = false := by
          intro zs
          induction zs with
          | nil => intro _; rfl
          | cons z zs ih =>
            intro hz
            simp only [List.all_cons, Bool.and_eq_true] at hz
            rw [star1 hz.1 zs X.env]
            exact ih hz.2
        exact key hns.2
      refine (ps_raise (d.o.calm hot) d.tk (pmk_x XT m hne hsz rm ha (d.o.gl b2) b3 (star1 hns.1 ys X.env) hpl)).imp fun D σ H ⟨W, b, env, S, X0, r, kk⟩ => ?_
      simp only [denS, T.assoc] at kk
      refine Wc.stepS (rel := mDs Γ.K) S X0 r kk fun b1 xs W1 H1 vs e1 S1 X1 r1 qv kk => ?_
      obtain ⟨hlen, kk⟩ := need_Wc kk
      have hvl : vs.length = xs.length := DvAll.length qv
      refine ⟨by rw [hvl, hlen], fun dd hn => ?_⟩
      have nf : W1.F dd = none := S1.noF hn
      have ng : ¬ W1.isG dd := S1.notG hn
      have S2 : SR Γ.K (W1.frz dd (.xd ((fsX k).zip vs))) b1 (upd H1 dd (.xd ((fsX k).zip vs))) := (S1.laid hn).frz upd_same nf ng
      have e2 : Ext W1 H1 (W1.frz dd (.xd ((fsX k).zip vs))) (upd H1 dd (.xd ((fsX k).zip vs))) := (Ext.laid hn).frz hn nf
      refine kk σ _ _ (.ref C) (some dd) (X1.trans e2 S2) S2 ?_
      rw [d.hx.1, GO.xr]
      have le : HLe W1.F (W1.frz dd (.xd ((fsX k).zip vs))).F := (Wd.frz_le nf).f
      refine ⟨hk, ⟨C, by rw [← d.o.hmg]; exact XT.gC, rfl⟩, .inr ⟨dd, _, rfl, upd_same⟩, fun f x e => ?_⟩
      obtain ⟨h1, v, h2, h3⟩ := lookup_zip qv e
      exact ⟨h1, dd, _, v, rfl, upd_same, h2, by rw [← d.hK]; exact h3.le le⟩
  · cases h

def TDS1 (Γ : Ga) (t : Ev → T (Fl × Ev)) : TS := fun D σ H => ∃ W b env, SR Γ.K W b H ∧ Ext Γ.W0 Γ.H0 W H ∧ ER Γ.K Γ.H0 W σ H env ∧ Wc (postS Γ W D) (postE Γ σ W H) b (t env)
theorem Wc.step1 {Γ : Ga} {W : Wd} {H : Hp} {b : Nat} {env : Ev} {σ : L2.St} {α β γ : Type} {rel : Rel α β} {t : Ev → T α} {f : α → T γ} {Q : Nat → γ → Prop} {R : β → Hp → Prop} (S : SR Γ.K W b H) (X0 : Ext Γ.W0 Γ.H0 W H) (r : ER Γ.K Γ.H0 W σ H env)
    (h : Wc Q (postE Γ σ W H) b (t env >>= f)) (k : ∀ b1 a W1 H1 v, Ext W H W1 H1 → SR Γ.K W1 b1 H1 → Ext Γ.W0 Γ.H0 W1 H1 → ER Γ.K Γ.H0 W1 σ H1 env → rel W H W1 H1 a v → Wc Q (fun _ _ => True) b1 (f a) → R v H1) : TD Γ rel t σ H R :=
  ⟨W, b, env, S, X0, r, T.Wc.mono (fun b1 a ha W1 H1 v e1 S1 q => k b1 a W1 H1 v e1 S1 (X0.trans e1 S1) (r.ext e1) q (T.Wc.mono (fun _ _ z => z) (fun _ _ _ => trivial) _ _ ha)) (fun b1 e he => he) _ _ ((T.Wc_bind _ _).mp h)⟩
theorem st1 (GO : GOk G c) {s : MS} {X : Cx} {sc : Scope} {Γ : Ga} {st : Stmt} (d : XD G c sc X Γ) (h : chkT1 c sc s st = true) : PS X st (TDS1 Γ (denS G.C s)) := by
  cases s with
  | ret m =>
    simp only [chkT1] at h
    split at h
    · rename_i e hx
      unfold xRet at hx
      split at hx
      · cases hx
        rw [Bool.and_eq_true, Bool.not_eq_true'] at h
        refine (ps_ret ((sE GO m).v d.o d.hK d.hx d.tk h.1 h.2)).imp fun D σ H ⟨W, b, env, S, X0, r, k⟩ => ?_
        rw [denS] at k
        exact Wc.step1 S X0 r k fun b1 v W1 H1 u e1 S1 X1 r1 q k => k W1 H1 u X1 S1 q
      · cases hx
    · cases h
  | asg i m =>
    simp only [chkT1] at h
    split at h
    · rename_i t v p hx
      obtain rfl := xAsg_inv hx
      simp only [Bool.and_eq_true, Bool.not_eq_true'] at h
      obtain ⟨⟨h1, h2⟩, h3⟩ := h
      split at h3
      · rename_i y py
        simp only [Bool.and_eq_true, decide_eq_true_eq, Bool.not_eq_true'] at h3
        refine (s_setN GO d h1 h2 h3.1.1 h3.1.2 (by rw [h3.2]; rfl)).imp fun D σ H ⟨W, b, env, S, X0, r, k⟩ => ?_
        rw [denS] at k
        refine td_mdV h2 (Wc.step1 S X0 r k fun b1 v W1 H1 u e1 S1 X1 r1 q k => ?_)
        exact k W1 H1 _ e1.le X1 S1 (r1.putV' q)
      · cases h3
    · cases h
  | ex m =>
    simp only [chkT1] at h
    split at h
    · rename_i e p hx
      unfold xExpr at hx
      split at hx
      · cases hx
        rw [Bool.and_eq_true, Bool.not_eq_true'] at h
        refine (ps_expr ((sE GO m).r d.o d.hK d.hx d.tk h.1) (by cases e <;> first | rfl | cases h.2)).imp fun D σ H ⟨W, b, env, S, X0, r, k⟩ => ?_
        rw [denS] at k
        exact Wc.step1 S X0 r k fun b1 v W1 H1 u e1 S1 X1 r1 q k => k W1 H1 σ e1.le X1 S1 r1
      · cases hx
    · cases h
  | _ => simp [chkT1] at h
theorem Wc_tryT {α : Type} {Q : Nat → α → Prop} {E : Nat → Ex → Prop} {h : Ex → Option (T α)} : ∀ (x : T α) (b : Nat), T.Wc Q E b (tryT h x) → T.Wc Q (fun b e => match h e with
    | some t => T.Wc Q E b t
    | none => E b e) b x := by
  intro x
  induction x with
  | ret a => exact fun b h => h
  | stuck => exact fun b h => h
  | draw m k ih => exact fun b ⟨h1, h2, h3⟩ => ⟨h1, h2, fun n a c => ih n _ (h3 n a c)⟩
  | exc e =>
    intro b hh
    show (match h e with
    | some t => T.Wc Q E b t
    | none => E b e)
    have hh : T.Wc Q E b (match h e with
    | some t => t
    | none => .exc e) := hh
    cases hc : h e with
    | some t => rw [hc] at hh; exact hh
    | none => rw [hc] at hh; exact hh
theorem Wc_noxE {α : Type} {Q : Nat → α → Prop} {E E' : Nat → Ex → Prop} : ∀ (x : T α) (b : Nat), T.Wc Q E b (nox x) → T.Wc Q E' b (nox x) := by
  intro x
  induction x with
  | ret a => exact fun b h => h
  | exc e => exact fun b h => h.elim
  | stuck => exact fun b h => h.elim
  | draw m k ih => exact fun b ⟨h1, h2, h3⟩ => ⟨h1, h2, fun n a c => ih n _ (h3 n a c)⟩
section
variable {K : PySem.W.Frag} {W W' : Wd} {H H0 : Hp} {b : Nat} {x : Option (Addr × Option Addr × Nat)}
theorem SR.withX (S : SR K W b H) : SR K { W with x := x } b H := ⟨S.f, S.g⟩
theorem Ext.withX {W0 : Wd} (e : Ext W0 H0 W H) : Ext { W0 with x := x } H0 { W with x := x } H := ⟨⟨e.le.f, e.le.g, rfl⟩, e.same, e.new, e.newg⟩
def notX : PV → Prop
  | .exc _ _ => False
  | _ => True
theorem RV.withX {v : PV} {u : V} (r : RV K W v u) (n : notX v) : RV K { W with x := x } v u := by
  cases r with
  | d q => exact .d q
  | rng e => exact .rng e
  | scr e z => exact .scr e z
  | exc _ _ => exact n.elim
theorem Rows.withX : ∀ {as : List Addr} {xss : List (List PyData)}, Rows K W H as xss → Rows K { W with x := x } H as xss
  | _, _, .nil => .nil
  | _, _, .cons e z q r => .cons e z q (Rows.withX r)
/-- slots where an exception may stand are forgotten -/
theorem ER.gone {σ : L2.St} {env : Ev} (r : ER K H0 W σ H env) : ER K H0 { W with x := x } σ H (env.map Slot.nx) := by
  obtain ⟨len, fp, q1, q2, q3, q4⟩ := r
  refine ⟨by rw [List.length_map]; exact len, fp, fun i => ?_, q2, q3, q4⟩
  rw [at_map _ rfl]
  have s := q1 i
  generalize env.at i = si at s
  generalize fp i = fi at s
  generalize σ[i]? = oi at s
  cases s with
  | un => exact .un
  | @v y u q =>
    cases y with
    | exc _ _ => exact .un
    | d z => exact .v (q.withX trivial)
    | rng => exact .v (q.withX trivial)
    | scr => exact .v (q.withX trivial)
  | own e z q => exact .own e z q
  | own2 e z q => exact .own2 e z q.withX
theorem ER.come {σ : L2.St} {env : Ev} (hx : W.x = none) (r : ER K H0 W σ H env) : ER K H0 { W with x := x } σ H env := by
  obtain ⟨len, fp, q1, q2, q3, q4⟩ := r
  refine ⟨len, fp, fun i => ?_, q2, q3, q4⟩
  have s := q1 i
  generalize env.at i = si at s
  generalize fp i = fi at s
  generalize σ[i]? = oi at s
  cases s with
  | un => exact .un
  | @v y u q =>
    cases q with
    | d q => exact .v (.d q)
    | rng e => exact .v (.rng e)
    | scr e z => exact .v (.scr e z)
    | exc e _ => rw [hx] at e; cases e
  | own e z q => exact .own e z q
  | own2 e z q => exact .own2 e z q.withX
end

theorem xHnd_inv {h : ExceptHandler} {x n : Str} {b : List Stmt} (e : xHnd h = some (x, n, b)) : ∃ p q, h = .ExceptHandler (some (.Name x p)) (some n) b q := by
  unfold xHnd at e
  split at e
  · cases e
    exact ⟨_, _, rfl⟩
  · cases e
theorem xTry_inv {s t : Stmt} {hs : List ExceptHandler} (e : xTry s = some (t, hs)) : ∃ p, s = .Try [t] hs [] [] p := by
  unfold xTry at e
  split at e
  · cases e
    exact ⟨_, rfl⟩
  · cases e
/-- the suites of the clauses are sound -/
def SHs (c : Ck) : MHs → Prop
  | .nil => True
  | .cons _ _ s r => (∀ G : Gf, GOk G c.ht → SSs G c.ht s) ∧ SHs c r
def Gf.wx (G : Gf) (x : Option (Addr × Option Addr × Nat)) : Gf := { G with x := x }
theorem GOk.ht {x : Option (Addr × Option Addr × Nat)} (GO : GOk G c) : GOk (G.wx x) c.ht := ⟨GO.xs, GO.xr, GO.blt, GO.gl, GO.fn, GO.fh, GO.nxt⟩
/-- the frame's part within a suite -/
def Ga.suite (Γ : Ga) (x : Option (Addr × Option Addr × Nat)) : Ga := ⟨Γ.K, { Γ.W0 with x := x }, Γ.H0, Γ.xr, fun _ _ _ _ => False⟩
def tsN (G : Gf) (c : Ck) (Γ : Ga) (s : MSs) : Addr → Value → Option Addr → TS := fun a cls d D σ H => ∃ (k : Nat) (C : Addr), cls = .ref C ∧ k ∈ c.cs ∧ G.mg (Str.ofString (nmX k)) = some (.ref C) ∧ TDS (Γ.suite (some (a, d, k))) (fun env => nox (denSs G.C s env)) D σ H
theorem hsu_ok (GO : GOk G c) {X : Cx} {sc : Scope} {Γ : Ga} (d : XD G c sc X Γ) {s : MSs} {bs : List Stmt} (ih : ∀ G : Gf, GOk G c.ht → SSs G c.ht s) (h : chkSs c.ht sc s bs = true) (a : Addr) (oe : Obj) (cls : Value) (dd : Option Addr) (pn : List (Addr × Obj)) (hz : Zc cls dd oe) (hf : ∃ vs, oe.data = .fields vs) :
    PSs (X.suite a ((a, oe) :: pn)) bs (tsN G c Γ s a cls dd) := by
  refine ⟨fun pins s0 σ H D I q => ?_⟩
  obtain ⟨k, C, ec, hk, hm, q⟩ := q
  subst ec
  have o := d.o
  have oo : XOk (G.wx (some (a, dd, k))) c.ht sc (X.suite a ((a, oe) :: pn)) :=
    ⟨o.hP, o.hw, o.hK, o.hmg, o.hbase, o.hN, o.nd, o.hsc, fun z => Bool.noConfusion z, o.gd, fun z => Bool.noConfusion z, o.un, fun z => Bool.noConfusion z, fun _ => ⟨a, C, oe, dd, k, rfl, hk, List.mem_cons_self, hm, hz, hf⟩, ⟨o.roomH.dp, o.roomH.un⟩⟩
  have dx : XD (G.wx (some (a, dd, k))) c.ht sc (X.suite a ((a, oe) :: pn)) (Γ.suite (some (a, dd, k))) :=
    ⟨oo, d.kd, d.fn, PassesOwn.never, takes0, d.hK, ⟨d.hx.1, rfl⟩, d.stk, d.frm⟩
  refine (ih _ GO.ht dx h).run pins s0 σ H D I ?_
  obtain ⟨W, b, env, S, X0, r, kk⟩ := q
  exact ⟨W, b, env, S, X0, r, Wc_nox _ _ kk⟩
theorem unx_post {Γ : Ga} {W W' : Wd} {D : Ends} {i : Nat} {x : Option (Addr × Option Addr × Nat)} {b : Nat} {p : Fl × Ev} (hx0 : Γ.W0.x = none) (hW : W.x = none) (le : W.Le W') (h : Wc (postS Γ W D) (postX Γ) b (unx i p)) : postS (Γ.suite x) { W' with x := x } (goneD i D) b p := by
  obtain ⟨f, env⟩ := p
  have base : ∀ {W3 : Wd} {H3 : Hp}, Ext { Γ.W0 with x := x } Γ.H0 W3 H3 → Ext Γ.W0 Γ.H0 { W3 with x := none } H3 := fun {W3 H3} e => ⟨⟨e.le.f, e.le.g, hx0.symm⟩, e.same, e.new, e.newg⟩
  have go : ∀ {Q : L2.St → Hp → Prop}, endS Γ W Q b ((env.map Slot.nx).set i .un) → endS (Γ.suite x) { W' with x := x } (fun σ' H' => Q (σ'.set i none) H') b env := fun {Q} h W3 H3 σ3 l3 X3 S3 r3 => by
    refine h { W3 with x := none } H3 (σ3.set i none) ⟨le.f.trans l3.f, fun r e => l3.g r (le.g r e), hW.symm⟩ (base X3) ⟨S3.f, S3.g⟩ ?_
    exact (r3.gone (x := none)).putU' (i := i) (o := none)
  cases f with
  | nx => exact go h
  | bk => exact go h
  | ct => exact go h
  | rt v =>
    intro W3 H3 u X3 S3 q
    cases v with
    | exc k fs => exact h.elim
    | d y => exact h { W3 with x := none } H3 u (base X3) ⟨S3.f, S3.g⟩ (q.withX trivial)
    | rng => exact h { W3 with x := none } H3 u (base X3) ⟨S3.f, S3.g⟩ (q.withX trivial)
    | scr => exact h { W3 with x := none } H3 u (base X3) ⟨S3.f, S3.g⟩ (q.withX trivial)
theorem hds_ok (GO : GOk G c) {X : Cx} {sc : Scope} {Γ : Ga} (d : XD G c sc X Γ) (hot : c.hot = false) : ∀ {hs : MHs} {hds : List ExceptHandler}, SHs c hs → chkH c sc hs hds = true → ∃ l, HdsN X hds l ∧ ∀ {D : Ends} {W : Wd} {b : Nat} {env : Ev} {σ : L2.St} {H : Hp}, SR Γ.K W b H → Ext Γ.W0 Γ.H0 W H → ER Γ.K Γ.H0 W σ H env →
    ∀ (b1 : Nat) (e : Ex), (match denH G.C hs e env with
      | some t => Wc (postS Γ W D) (postX Γ) b1 t
      | none => postX Γ b1 e) → ∀ W' H' cls dd, Ext W H W' H' → SR Γ.K W' b1 H' → Γ.xr W' H' e cls dd → wManyN X.K Γ.wx D l cls dd σ H'
  | .nil, [], _, _ => ⟨[], .nil, fun {D W b env σ H} S X0 r b1 e k W' H' cls dd e1 S1 x => k σ W' H' cls dd (X0.trans e1 S1) S1 x⟩
  | .nil, _ :: _, _, h => by simp [chkH] at h
  | .cons _ _ _ _, [], _, h => by simp [chkH] at h
  | .cons k i s r, hd :: hds, ⟨ih, ihr⟩, h => by
    rw [chkH, Bool.and_eq_true] at h
    obtain ⟨l, hl, hw⟩ := hds_ok GO d hot ihr h.2
    have h := h.1
    cases hx : xHnd hd with
    | none => rw [hx] at h; cases h
    | some q =>
      obtain ⟨x, n, bs⟩ := q
      obtain ⟨p, q, rfl⟩ := xHnd_inv hx
      rw [hx] at h
      simp only [Bool.and_eq_true, decide_eq_true_eq, Bool.not_eq_true'] at h
      obtain ⟨⟨⟨⟨⟨hb, hk⟩, hi⟩, hkd⟩, hne⟩, hc⟩ := h
      obtain ⟨b1, b2, b3⟩ := isB_of hb
      subst b1
      obtain ⟨M, kn, hM⟩ := GO.xs
      obtain ⟨Ck, kc⟩ := kn k hk
      cases bs with
      | nil => cases hne
      | cons b0 bs =>
        refine ⟨(.ref Ck, i, tsN G c Γ s) :: l, .cons ⟨d.o.gl b2, b3, .inl (by rw [d.o.hmg]; exact kc.2.2.1.gC)⟩ (by rw [d.o.hN]; exact hi) (by show X.env.scope.names.lookup n = _; rw [d.o.hsc]; exact kd_of hkd) (hsu_ok GO d ih hc) hl, fun {D W b env σ H} S X0 rr b1 e kk W' H' cls dd e1 S1 xr => ?_⟩
        have xr' := xr
        rw [d.hx.1, GO.xr] at xr'
        obtain ⟨x1, ⟨C, x2, rfl⟩, x3⟩ := xr'
        obtain ⟨C', kc'⟩ := kn e.c x1
        have eC := kc'.2.2.1.gC
        rw [x2] at eC
        cases eC
        have hW0 : Γ.W0.x = none := d.hx.2.trans (d.o.hx0 hot)
        have hW : W.x = none := X0.le.x.trans hW0
        refine ⟨subX e.c k, by rw [d.o.hK]; exact kc'.exm kc (hM e.c x1), fun hs a na => ?_, fun hs => ?_⟩
        · have kk : Wc (postS Γ W D) (postX Γ) b1 (nox (denSs G.C s (env.set i (.v (.exc e.c e.fs)))) >>= unx i) := by
            have ed : denH G.C (.cons k i s r) e env = some (nox (denSs G.C s (env.set i (.v (.exc e.c e.fs)))) >>= unx i) := by
              rw [denH, if_pos hs]
            rw [ed] at kk
            exact kk
          refine ⟨e.c, C, rfl, x1, x2, { W' with x := some (a, dd, e.c) }, b1, env.set i (.v (.exc e.c e.fs)), S1.withX, (X0.trans e1 S1).withX, ?_, ?_⟩
          · refine ER.putV' (ER.come (e1.le.x.trans hW) (rr.ext e1)) ?_
            exact .exc rfl (by rw [← d.hK] at x3; exact x3)
          · have k1 := (T.Wc_bind _ _).mp kk
            have k2 := Wc_noxE (E' := postX (Γ.suite (some (a, dd, e.c)))) _ _ k1
            exact T.Wc.mono (fun b2 p hp => unx_post hW0 hW e1.le hp) (fun _ _ z => z) _ _ k2
        · refine hw S X0 rr b1 e ?_ W' H' _ dd e1 S1 xr
          have ed : denH G.C (.cons k i s r) e env = denH G.C r e env := by
            rw [denH, if_neg (by rw [hs]; simp)]
          rw [← ed]
          exact kk
theorem ss_tryx (GO : GOk G c) {s : MS} {hs : MHs} (ih : SHs c hs) : SS G c (.tryx s hs) := fun {X sc Γ st} d h => by
  unfold chkS at h
  split at h
  · rename_i t hds hx
    obtain ⟨p, rfl⟩ := xTry_inv hx
    simp only [Bool.and_eq_true, Bool.not_eq_true'] at h
    obtain ⟨⟨⟨hot, h1⟩, h2⟩, h3⟩ := h
    obtain ⟨l, hl, hw⟩ := hds_ok GO d hot ih h2
    cases hds with
    | nil => cases h3
    | cons h0 hds =>
      refine (ps_try_manyN (tb := fun W => TDS1 ⟨Γ.K, Γ.W0, Γ.H0, Γ.xr, W⟩ (denS G.C s)) (Wout := Γ.wx) d.stk d.frm (by rw [d.o.hN]; exact d.o.nd) d.tk (fun W pn xe tk own => ?_) hl).imp fun D σ H ⟨W, b, env, S, X0, r, k⟩ => ?_
      · have o := d.o
        have dx : XD G c sc (X.tr pn xe) ⟨Γ.K, Γ.W0, Γ.H0, Γ.xr, W⟩ :=
          ⟨⟨o.hP, o.hw, o.hK, o.hmg, o.hbase, o.hN, o.nd, o.hsc, o.calm, o.gd, o.room, o.un, o.hx0, fun z => Bool.noConfusion (hot.symm.trans z), o.roomH⟩, d.kd, d.fn, own, tk, d.hK, d.hx, d.stk, d.frm⟩
        exact pss_one (st1 GO dx h1)
      · rw [denS] at k
        refine ⟨W, b, env, S, X0, r, ?_⟩
        refine T.Wc.mono (Q := postS Γ W D) ?_ ?_ _ _ (Wc_tryT _ _ k)
        · intro b1 q hq
          obtain ⟨f, e2⟩ := q
          cases f <;> exact hq
        · intro b1 e he
          refine hw S X0 r b1 e ?_
          cases hd : denH G.C hs e env with
          | some t =>
            rw [hd] at he
            exact he
          | none =>
            rw [hd] at he
            exact he
  · cases h
end Mp
namespace Mp
open PySem PySem.Spec PyProof.Rows L2
open Mp.T (Wc)
section
mutual
theorem sS : ∀ (s : MS) {G : Gf} {c : Ck}, GOk G c → SS G c s
  | .asg i e, _, _, GO => ss_asg GO
  | .asgO i e, _, _, GO => ss_asgO GO
  | .asgO2 i g tg it m, _, _, GO => ss_asgO2 GO
  | .mov i j, _, _, GO => ss_mov
  | .unpk tg e, _, _, GO => ss_unpk GO
  | .par is es, _, _, GO => ss_par GO
  | .frz _, _, _, GO => fun d h => by unfold chkS at h; cases h
  | .app i e, _, _, GO => ss_app GO
  | .ext i e, _, _, GO => ss_ext GO
  | .popTo i l e, _, _, GO => ss_popTo GO
  | .popLast i l, _, _, GO => ss_popLast
  | .appPop i l m, _, _, GO => ss_appPop GO
  | .setI l i e, _, _, GO => ss_setI GO
  | .setII l i j m, _, _, GO => ss_setII GO
  | .aug i op e, _, _, GO => ss_aug GO
  | .ex e, _, _, GO => ss_ex GO
  | .ret e, _, _, GO => ss_ret GO
  | .retN, _, _, GO => ss_retN
  | .ite p a b, _, _, GO => ss_ite GO (sSs a GO) (sSs b GO)
  | .for g tg it b, _, _, GO => ss_for GO (sSs b GO)
  | .whl p b, _, _, GO => ss_whl GO (sSs b GO)
  | .brk, _, _, GO => ss_brk
  | .cont, _, _, GO => ss_cont
  | .pass, _, _, GO => ss_pass
  | .never, _, _, GO => ss_never
  | .rais _ _, _, _, GO => ss_rais GO
  | .tryx _ hs, _, c, GO => ss_tryx GO (sHs hs c)
theorem sSs : ∀ (s : MSs) {G : Gf} {c : Ck}, GOk G c → SSs G c s
  | .nil, _, _, GO => sss_nil
  | .cons (.frz _) r, _, _, GO => sss_frz (sSs r GO)
  | .cons s r, _, _, GO => (Classical.em (∃ i, s = .frz i)).elim (fun h => by
      obtain ⟨i, rfl⟩ := h
      exact sss_frz (sSs r GO)) fun h => sss_cons (fun i e => h ⟨i, e⟩) (sS s GO) (sSs r GO)
theorem sHs : ∀ (hs : MHs) (c : Ck), SHs c hs
  | .nil, _ => trivial
  | .cons _ _ s r, c => ⟨fun G GO => sSs s GO, sHs r c⟩
end
end
end Mp
namespace Mp
open PySem PySem.Spec PyProof.Rows L2
open Mp.T (Wc)
section
variable {K : PySem.W.Frag} {W : Wd} {H : Hp} {b : Nat}
theorem RVs.get : ∀ {xs : List PV} {vs : List V} {i : Nat} {x : PV}, RVs K W xs vs → xs[i]? = some x → ∃ v, vs[i]? = some v ∧ RV K W x v
  | _, _, _, _, .nil, h => by simp at h
  | _, _, 0, _, .cons a b, h => by
    simp at h
    subst h
    exact ⟨_, rfl, a⟩
  | _, _, i + 1, _, .cons a b, h => by
    obtain ⟨v, h1, h2⟩ := RVs.get (i := i) b (by simpa using h)
    exact ⟨v, by simpa using h1, h2⟩
theorem at_get : ∀ (env : Ev) (i : Nat), env.at i = (env[i]?).getD .un
  | [], i => by simp [Ev.at]
  | s :: r, 0 => by simp
  | s :: r, i + 1 => by rw [at_succ, at_get r i]; simp
theorem ER.start {xs : List PV} {vs : List V} {N : List Str} {k : Nat} (r : RVs K W xs vs) (hN : N.length - vs.length = k) : ER K H W (start N vs) H (xs.map Slot.v ++ List.replicate k Slot.un) := by
  have hl := r.length
  refine ⟨by unfold L2.start; simp; omega, fun _ => [], fun i => ?_, fun i a ha => (by cases ha), fun _ => .nil, fun i j a ha => (by cases ha)⟩
  rw [at_get]
  by_cases hi : i < xs.length
  · rw [List.getElem?_append_left (by simpa using hi), List.getElem?_map, List.getElem?_eq_getElem hi]
    obtain ⟨v, h1, h2⟩ := r.get (List.getElem?_eq_getElem hi)
    have hi' : i < vs.length := by omega
    have e : (L2.start N vs)[i]? = some (some v) := by
      unfold L2.start
      rw [List.getElem?_append_left (by simpa using hi'), List.getElem?_map, h1]
      rfl
    rw [e]
    exact .v h2
  · rw [List.getElem?_append_right (by simpa using Nat.le_of_not_lt hi)]
    rw [List.getElem?_replicate]
    split <;> exact .un
end
theorem RVs.cutD {K : PySem.W.Frag} {W : Wd} : ∀ {n : Nat} {xs : List PV} {vs : List V} {ds : List PyData}, RVs K W xs vs → n ≤ xs.length → xs.drop n = ds.map PV.d → RVs K W (xs.take n) (vs.take n) ∧ DvAll K W.F (vs.drop n) ds
  | 0, xs, vs, ds, r, _, e => by
    rw [List.drop_zero] at e
    subst e
    refine ⟨.nil, ?_⟩
    rw [List.drop_zero]
    have key : ∀ {ds : List PyData} {vs : List V}, RVs K W (ds.map PV.d) vs → DvAll K W.F vs ds := by
      intro ds
      induction ds with
      | nil =>
        intro vs r
        cases r
        exact .nil
      | cons d ds ih =>
        intro vs r
        cases r with
        | cons a b =>
          cases a with
          | d a => exact .cons a (ih b)
    exact key r
  | n + 1, [], vs, ds, r, h, e => by simp at h
  | n + 1, x :: xs, _, ds, .cons a b, h, e => by
    obtain ⟨h1, h2⟩ := RVs.cutD (n := n) b (by simpa using h) (by simpa using e)
    exact ⟨.cons a h1, h2⟩
theorem un_of {k : Nat} {A : Around} (h : Room k A) : A.units + 150 < cLine := by
  have := h.un
  omega
/-- a def whose text is checked against its literal -/
theorem fn_den {P : Program} {w : World} {K : PySem.W.Frag} {mg : Str → Option Value} {base : Heap} {n : Nat} {f : Addr} {name qual : Str} {params : Arguments} {body : List Stmt} {scope : Scope} {dV kV doc pm cdv ct oc : Value} {an od : Option Addr}
    {osl : Array (Option Value)} {ps : List Str} {xr : Wd → Hp → Ex → Value → Option Addr → Prop} {C : Ctx} {c : Ck} {fd : FD} (hot : c.hot = false) (GO : GOk ⟨P, w, K, mg, base, n, xr, C, none⟩ c)
    (lk : K.lookup f = some ⟨oc, od, .func (PySem.W.fnOf name qual params body scope dV kV doc pm an cdv ct), osl⟩) (hcd : PySem.W.codeIn K cdv qual = true) (S : FnScope c.N ps scope) (hst : fd.star = false) (hps : ps.length = fd.np) (hns : c.N.length = fd.ns)
    (hc : chkSs c scope fd.body body = true) : FnOkG P w K mg base (n + 1) f (PySem.W.fnOf name qual params body scope dV kV doc pm an cdv ct) ps (spD K xr (runF C fd)) := by
  have rn : ∀ xs, runF C fd xs = (need (xs.length = fd.np) >>= fun _ => denSs C fd.body (xs.map Slot.v ++ List.replicate (fd.ns - fd.np) Slot.un) >>= fun p => match p.1 with
      | .rt v => T.ret v
      | .nx => T.ret (.d .none)
      | _ => T.stuck) := fun xs => by
    rw [runF, argsF, hst]
    simp only [Bool.false_eq_true, if_false, T.assoc]
    rfl
  have ln : ∀ vs H Q E, spD K xr (runF C fd) vs H Q E → vs.length = ps.length := fun vs H Q E ⟨W, b, xs, S, _, r, k⟩ => by
    rw [rn] at k
    obtain ⟨h, _⟩ := need_Wc k
    rw [← r.length, h, hps]
  refine fn_ofG lk hcd S ln fun A outer s H vs Q E hr hgd hsp => ?_
  have lv := ln _ _ _ _ hsp
  obtain ⟨W, b, xs, S0, hx, r, k⟩ := hsp
  rw [rn] at k
  obtain ⟨hxs, k⟩ := need_Wc k
  have d : XD ⟨P, w, K, mg, base, n, xr, C, none⟩ c scope (cxOf (L2.CX P w) P w K mg base c.N qual scope f cdv A outer s H E) ⟨K, W, H, xr, fun cls d _ H' => E cls d H'⟩ :=
    ⟨⟨rfl, rfl, rfl, rfl, rfl, rfl, S.nd, rfl, fun _ => rfl, hgd, fun _ => hr, un_of hr, fun _ => rfl, fun z => Bool.noConfusion (hot.symm.trans z), L2H.roomH_of hr⟩, S.kind, fun _ => rfl, passes_of rfl, takes_of rfl rfl rfl rfl, rfl, ⟨rfl, hx⟩, rfl, rfl⟩
  refine ⟨_, sSs fd.body GO d hc, W, b, _, S0, Ext.refl _ _, ER.start (k := fd.ns - fd.np) r (by rw [hns, lv, hps]), ?_⟩
  refine T.Wc.mono (fun b1 p hp => ?_) (fun b1 e he σ W' H' cls d X' S' x => he W' H' cls d X' S' x) _ _ ((T.Wc_bind _ _).mp k)
  obtain ⟨fl, e1⟩ := p
  cases fl with
  | nx => exact fun W' H' σ' l X' S' r' => hp W' H' .non X' S' (.d .non)
  | bk => exact hp.elim
  | ct => exact hp.elim
  | rt v => exact fun W' H' u X' S' q => hp W' H' u X' S' q
/-- the same, the last parameter takes what is left over -/
theorem fn_denS {P : Program} {w : World} {K : PySem.W.Frag} {mg : Str → Option Value} {base : Heap} {n : Nat} {f : Addr} {name qual : Str} {params : Arguments} {body : List Stmt} {scope : Scope} {dV kV doc pm cdv ct oc : Value} {an od : Option Addr}
    {osl : Array (Option Value)} {ps : List Str} {pv : Str} {xr : Wd → Hp → Ex → Value → Option Addr → Prop} {C : Ctx} {c : Ck} {fd : FD} (hot : c.hot = false) (GO : GOk ⟨P, w, K, mg, base, n, xr, C, none⟩ c)
    (lk : K.lookup f = some ⟨oc, od, .func (PySem.W.fnOf name qual params body scope dV kV doc pm an cdv ct), osl⟩) (hcd : PySem.W.codeIn K cdv qual = true) (S : FnScope c.N (ps ++ [pv]) scope) (hst : fd.star = true) (hps : ps.length + 1 = fd.np) (hns : c.N.length = fd.ns)
    (hb : ∀ us rest : List Value, us.length = ps.length → bindArgs (PySem.W.fnOf name qual params body scope dV kV doc pm an cdv ct) ⟨us ++ rest, []⟩ = (newTuple rest >>= fun t => pure (ps.zip us ++ [(pv, t)])))
    (hc : chkSs c scope fd.body body = true) : FnRG P w K mg base (n + 1) f (spD K xr (runF C fd)) := by
  refine fun A outer s H us vs Q E hr hg e0 r hsp => fn_starG (sp := fun vs H Q E => ∃ (W : Wd) (b : Nat) (xs : List PV), SR K W b H ∧ W.x = none ∧ RVs K W xs vs ∧ vs.length = fd.np ∧
    Wc (fun b' v => ∀ W' H' V, Ext W H W' H' → SR K W' b' H' → RV K W' v V → Q V H') (fun b' e => ∀ W' H' cls d, Ext W H W' H' → SR K W' b' H' → xr W' H' e cls d → E cls d H') b (denSs C fd.body (xs.map Slot.v ++ List.replicate (fd.ns - fd.np) Slot.un) >>= fun p => match p.1 with
      | .rt v => T.ret v
      | .nx => T.ret (.d .none)
      | _ => T.stuck)) lk hcd S hb (fun A outer s H vs Q E hr hgd hsp => ?_) A outer s H us vs Q E hr hg e0 r ?_
  · obtain ⟨W, b, xs, S0, hx, r, lv, k⟩ := hsp
    have d : XD ⟨P, w, K, mg, base, n, xr, C, none⟩ c scope (cxOf (L2.CX P w) P w K mg base c.N qual scope f cdv A outer s H E) ⟨K, W, H, xr, fun cls d _ H' => E cls d H'⟩ :=
      ⟨⟨rfl, rfl, rfl, rfl, rfl, rfl, S.nd, rfl, fun _ => rfl, hgd, fun _ => hr, un_of hr, fun _ => rfl, fun z => Bool.noConfusion (hot.symm.trans z), L2H.roomH_of hr⟩, S.kind, fun _ => rfl, passes_of rfl, takes_of rfl rfl rfl rfl, rfl, ⟨rfl, hx⟩, rfl, rfl⟩
    refine ⟨_, sSs fd.body GO d hc, W, b, _, S0, Ext.refl _ _, ER.start (k := fd.ns - fd.np) r (by rw [hns, lv]), ?_⟩
    refine T.Wc.mono (fun b1 p hp => ?_) (fun b1 e he σ W' H' cls d X' S' x => he W' H' cls d X' S' x) _ _ ((T.Wc_bind _ _).mp k)
    obtain ⟨fl, e1⟩ := p
    cases fl with
    | nx => exact fun W' H' σ' l X' S' r' => hp W' H' .non X' S' (.d .non)
    | bk => exact hp.elim
    | ct => exact hp.elim
    | rt v => exact fun W' H' u X' S' q => hp W' H' u X' S' q
  · obtain ⟨W, b, xs, S0, hx, rv, k⟩ := hsp
    rw [runF, argsF, hst] at k
    simp only [if_true, T.assoc] at k
    obtain ⟨h1, k⟩ := need_Wc k
    obtain ⟨ds, e1, k⟩ := Wc_plain plain_asDs k
    obtain ⟨h2, k⟩ := need_Wc k
    have e1 := asDs_ret e1
    have hn : fd.np - 1 = ps.length := by omega
    rw [hn] at h1 e1 k
    obtain ⟨r1, r2⟩ := rv.cutD h1 e1
    have lv := rv.length
    have hl2 : (vs.drop ps.length).length ≤ sizeLine := by rw [r2.length]; exact SL_le h2
    refine ⟨vs.take ps.length, vs.drop ps.length, (List.take_append_drop _ _).symm, by rw [List.length_take]; omega, hl2, fun p o hp ho => ?_⟩
    obtain ⟨W', g1, g2, g3⟩ := new_tup (W := W) ho S0 hp hl2 r2
    refine ⟨W', b, xs.take ps.length ++ [.d (.tuple ds)], g2, g1.le.x.trans hx, ?_, by rw [List.length_append, List.length_take]; simp; omega, ?_⟩
    · have key : ∀ {xs : List PV} {vs : List V}, RVs K W xs vs → RVs K W' (xs ++ [.d (.tuple ds)]) (vs ++ [.ref p]) := by
        intro xs vs r
        induction r with
        | nil => exact .cons g3 .nil
        | cons a b ih => exact .cons (a.le g1.le) ih
      exact key r1
    · refine T.Wc.mono (fun b1 v h W2 H2 V X2 S2 q => h W2 H2 V (g1.trans X2 S2) S2 q) (fun b1 e h W2 H2 cls d X2 S2 x => h W2 H2 cls d (g1.trans X2 S2) S2 x) _ _ k
theorem unH_of {k : Nat} {A : Around} (h : L2H.RoomH k A) : A.units + 150 < cLine := by
  have := h.un
  omega
/-- a def that is called while an exception is handled -/
theorem fn_denH {P : Program} {w : World} {K : PySem.W.Frag} {mg : Str → Option Value} {base : Heap} {n : Nat} {f : Addr} {name qual : Str} {params : Arguments} {body : List Stmt} {scope : Scope} {dV kV doc pm cdv ct oc : Value} {an od : Option Addr}
    {osl : Array (Option Value)} {ps : List Str} {xr : Wd → Hp → Ex → Value → Option Addr → Prop} {C : Ctx} {c : Ck} {fd : FD} (hot : c.hot = true) (GO : ∀ x, GOk ⟨P, w, K, mg, base, n, xr, C, x⟩ c)
    (lk : K.lookup f = some ⟨oc, od, .func (PySem.W.fnOf name qual params body scope dV kV doc pm an cdv ct), osl⟩) (hcd : PySem.W.codeIn K cdv qual = true) (S : FnScope c.N ps scope) (hst : fd.star = false) (hps : ps.length = fd.np) (hns : c.N.length = fd.ns)
    (hb : L2.Binds K (PySem.W.fnOf name qual params body scope dV kV doc pm an cdv ct) ps []) (hc : chkSs c scope fd.body body = true) : FnHG P w K mg base c.cs (n + 1) f (spX K xr (runF C fd)) := by
  have rn : ∀ xs, runF C fd xs = (need (xs.length = fd.np) >>= fun _ => denSs C fd.body (xs.map Slot.v ++ List.replicate (fd.ns - fd.np) Slot.un) >>= fun p => match p.1 with
      | .rt v => T.ret v
      | .nx => T.ret (.d .none)
      | _ => T.stuck) := fun xs => by
    rw [runF, argsF, hst]
    simp only [Bool.false_eq_true, if_false, T.assoc]
    rfl
  have ln : ∀ a d kx vs H Q E, spX K xr (runF C fd) a d kx vs H Q E → vs.length = ps.length := fun a d kx vs H Q E ⟨W, b, xs, S, _, r, k⟩ => by
    rw [rn] at k
    obtain ⟨h, _⟩ := need_Wc k
    rw [← r.length, h, hps]
  refine fn_ofHG lk hcd S ln hb fun A outer s H vs Q E a Cx oe d kx hr hgd hz hf hkx hmx hsp => ?_
  have lv := ln _ _ _ _ _ _ _ hsp
  obtain ⟨W, b, xs, S0, hx, r, k⟩ := hsp
  rw [rn] at k
  obtain ⟨hxs, k⟩ := need_Wc k
  have d0 : XD ⟨P, w, K, mg, base, n, xr, C, some (a, d, kx)⟩ c scope (L2H.cxH (L2.CX P w) P w K mg base c.N qual scope f cdv A outer s H E (a, oe)) ⟨K, W, H, xr, fun cls d _ H' => E cls d H'⟩ :=
    ⟨⟨rfl, rfl, rfl, rfl, rfl, rfl, S.nd, rfl, fun z => Bool.noConfusion (hot.symm.trans z), hgd, fun z => Bool.noConfusion (hot.symm.trans z), unH_of hr, fun z => Bool.noConfusion (hot.symm.trans z), fun _ => ⟨a, Cx, oe, d, kx, rfl, hkx, List.mem_cons_self, hmx, hz, hf⟩, hr⟩,
      S.kind, fun _ => rfl, passes_of rfl, takes_of rfl rfl rfl rfl, rfl, ⟨rfl, hx⟩, rfl, rfl⟩
  refine ⟨_, sSs fd.body (GO _) d0 hc, W, b, _, S0, Ext.refl _ _, ER.start (k := fd.ns - fd.np) r (by rw [hns, lv, hps]), ?_⟩
  refine T.Wc.mono (fun b1 p hp => ?_) (fun b1 e he σ W' H' cls d X' S' x => he W' H' cls d X' S' x) _ _ ((T.Wc_bind _ _).mp k)
  obtain ⟨fl, e1⟩ := p
  cases fl with
  | nx => exact fun W' H' σ' l X' S' r' => hp W' H' .non X' S' (.d .non)
  | bk => exact hp.elim
  | ct => exact hp.elim
  | rt v => exact fun W' H' u X' S' q => hp W' H' u X' S' q
end Mp
namespace Mp
open PySem PySem.Spec PyProof.Rows L2
open Mp.T (Wc)
/-- how its parameters are bound -/
def BD (K : PySem.W.Frag) (fd : FD) (F : FuncData) (ps : List Str) : Prop := (fd.star = false ∧ L2.Binds K F ps [] ∧ ps.length = fd.np) ∨
  (fd.star = true ∧ ∃ (qs : List Str) (pv : Str), ps = qs ++ [pv] ∧ qs.length + 1 = fd.np ∧ ∀ us rest : List Value, us.length = qs.length → bindArgs F ⟨us ++ rest, []⟩ = (newTuple rest >>= fun t => pure (qs.zip us ++ [(pv, t)])))
theorem bd_star0 {B : List Value → Sem (List (Str × Value))} {pv : Str} (h0 : B [] = (newTuple [] >>= fun t => pure [(pv, t)])) (h1 : ∀ r rs, B (r :: rs) = (newTuple (r :: rs) >>= fun t => pure [(pv, t)])) :
    ∀ us rest : List Value, us.length = ([] : List Str).length → B (us ++ rest) = (newTuple rest >>= fun t => pure (([] : List Str).zip us ++ [(pv, t)]))
  | [], [], _ => h0
  | [], r :: rs, _ => h1 r rs
/-- the text of a def of the program, checked against its literal -/
def DefOk (K : PySem.W.Frag) (mg : Str → Option Value) (nm hm : Nat → Option Str) (gs cs : List Nat) (hot : Bool) (x : Str) (fd : FD) : Prop :=
  ∃ (N ps : List Str) (f : Addr) (name qual : Str) (params : Arguments) (body : List Stmt) (scope : Scope) (dV kV doc pm cdv ct oc : Value) (an od : Option Addr) (osl : Array (Option Value)),
    mg x = some (.ref f) ∧ PySem.W.keepIn K (.ref f) = true ∧ BD K fd (PySem.W.fnOf name qual params body scope dV kV doc pm an cdv ct) ps ∧
    K.lookup f = some ⟨oc, od, .func (PySem.W.fnOf name qual params body scope dV kV doc pm an cdv ct), osl⟩ ∧ PySem.W.codeIn K cdv qual = true ∧ FnScope N ps scope ∧ N.length = fd.ns ∧
    chkSs ⟨N, nm, gs, cs, false, hot, hm⟩ scope fd.body body = true ∧ (hot = true → fd.star = false)
structure TabOk (P : Program) (w : World) (K : PySem.W.Frag) (mg : Str → Option Value) (base : Heap) (nm hm : Nat → Option Str) (gs cs : List Nat) (tb : Nat → Option FD) : Prop where
  xs : ∃ M, (∀ k ∈ cs, ∃ C, XKn K mg M k C) ∧ ∀ k ∈ cs, XKn K mg M 2 M ∨ 27 ≤ k
  blt : ∀ x ∈ bltNames, mg (Str.ofString x) = none
  gl : ∀ k ∈ gs, ∃ u v, mg (Str.ofString (gnm k)) = some u ∧ RelV v u ∧ ∀ F, Dv K F v (gv k)
  df : ∀ f x, nm f = some x → ∃ fd, tb f = some fd ∧ DefOk K mg nm hm gs cs false x fd
  dh : ∀ f x, hm f = some x → ∃ fd, tb f = some fd ∧ DefOk K mg nm hm gs cs true x fd
  nxt : ∃ fa fd ps, mg (Str.ofString "_law_next") = some (.ref fa) ∧ PySem.W.keepIn K (.ref fa) = true ∧ L2.Binds K fd ps [] ∧ FnOkG P w K mg base 1 fa fd ps (spN K)
variable {P : Program} {w : World} {K : PySem.W.Frag} {mg : Str → Option Value} {base : Heap} {nm hm : Nat → Option Str} {gs cs : List Nat} {tb : Nat → Option FD} {sub : Nat → Nat → Bool}
theorem gok_n (t : TabOk P w K mg base nm hm gs cs tb) : ∀ (n : Nat) (N : List Str) (hot : Bool) (x : Option (Addr × Option Addr × Nat)), GOk ⟨P, w, K, mg, base, n + 1, XRel K mg cs, ⟨callF tb sub n, sub⟩, x⟩ ⟨N, nm, gs, cs, false, hot, hm⟩
  | n, N, hot, x => by
    refine ⟨t.xs, rfl, t.blt, t.gl, fun f x h => ?_, fun f x h => ?_, ?_⟩
    · obtain ⟨fd, h1, N', ps, fa, name, qual, params, body, scope, dV, kV, doc, pm, cdv, ct, oc, an, od, osl, a1, a2, a3, a4, a5, a6, a8, a9, _⟩ := t.df f x h
      refine ⟨fa, a1, a2, ?_⟩
      cases n with
      | zero =>
        have no : ∀ vs H Q E, ¬ spD K (XRel K mg cs) (callF tb sub 0 f) vs H Q E := fun vs H Q E ⟨W, b, xs, S, _, r, k⟩ => k
        exact fun A outer s H us vs Q E _ _ _ _ h => (no vs H Q E h).elim
      | succ n =>
        have e : callF tb sub (n + 1) f = runF ⟨callF tb sub n, sub⟩ fd := by
          funext vs
          rw [callF, h1]
          rfl
        show FnRG P w K mg base (n + 1 + 1) fa (spD K (XRel K mg cs) (callF tb sub (n + 1) f))
        rw [e]
        rcases a3 with ⟨s1, s2, s3⟩ | ⟨s1, qs, pv, s2, s3, s4⟩
        · exact (fn_den (c := ⟨N', nm, gs, cs, false, false, hm⟩) rfl (gok_n t n N' false none) a4 a5 a6 s1 s3 a8 a9).raw s2
        · subst s2
          exact fn_denS (c := ⟨N', nm, gs, cs, false, false, hm⟩) rfl (gok_n t n N' false none) a4 a5 a6 s1 s3 a8 s4 a9
    · obtain ⟨fd, h1, N', ps, fa, name, qual, params, body, scope, dV, kV, doc, pm, cdv, ct, oc, an, od, osl, a1, a2, a3, a4, a5, a6, a8, a9, a10⟩ := t.dh f x h
      refine ⟨fa, a1, a2, ?_⟩
      cases n with
      | zero =>
        have no : ∀ a d kx vs H Q E, ¬ spX K (XRel K mg cs) (callF tb sub 0 f) a d kx vs H Q E := fun a d kx vs H Q E ⟨W, b, xs, S, _, r, k⟩ => k
        exact fun A outer s H us vs Q E a C oe d kx _ _ _ _ _ _ _ _ _ h => (no _ _ _ _ _ _ _ h).elim
      | succ n =>
        have e : callF tb sub (n + 1) f = runF ⟨callF tb sub n, sub⟩ fd := by
          funext vs
          rw [callF, h1]
          rfl
        show FnHG P w K mg base cs (n + 1 + 1) fa (spX K (XRel K mg cs) (callF tb sub (n + 1) f))
        rw [e]
        rcases a3 with ⟨s1, s2, s3⟩ | ⟨s1, _⟩
        · exact fn_denH (c := ⟨N', nm, gs, cs, false, true, hm⟩) rfl (fun y => gok_n t n N' true y) a4 a5 a6 s1 s3 a8 s2 a9
        · rw [a10 rfl] at s1
          cases s1
    · obtain ⟨fa, fd, ps, h1, h2, h3, F⟩ := t.nxt
      exact ⟨fa, fd, ps, h1, h2, h3, F.mono (Nat.succ_le_succ (Nat.zero_le n))⟩
end Mp
namespace Mp
open PySem PySem.Spec PyProof.Rows L2
open Mp.T (Wc)
def CPowW (i j : Int) : Prop := 0 ≤ j ∧ (Builtin.Int.intBits i : Int) * j ≤ 2 ^ 27
theorem op_powW {X : Cx} : OpR X (binaryOp .Pow) (rI CPowW fun i j => .int (i ^ j.toNat)) := opI fun _ _ _ _ _ _ _ hc q => pow_int hc.1 hc.2 q
theorem powW_ok {i : Int} {a : Nat} (ha : i.natAbs < 2 ^ a) (h : a ≤ 1000000) : CPowW i 3 := by
  have x := PyProof.Rows.intBits_le ha
  exact ⟨by omega, by omega⟩
def nextN : List Str := ["_law_drawn", "_law_many", "_law_cells", "_law_turn", "_law_rests", "_law_spot", "_law_digit", "_law_mixed", "_law_again"]
theorem nextN_ok : ∀ x ∈ nextN, (x == ("__debug__" : Str)) = false ∧ (x == ("__classdict__" : Str)) = false := by decide +kernel
section
variable {X : Cx}
/-- behind a draw -/
theorem next_after {K : PySem.W.Frag} {W : Wd} {H : Hp} {b : Nat} {r : Rg} {t : Nat} {rests rests' : List Int} (S : SR K W b H) (hg : W.g = some r) (hb : 0 < b) (e1 : H r.d = some (.lst [.ref r.c, .int t, .ref r.r])) (ht : t + b ≤ BIG) (e2 : H r.r = some (.lst (rests.map V.int)))
    (hl : rests'.length = r.cells.length) (hr : ∀ x ∈ rests', 0 ≤ x ∧ x.natAbs < 2 ^ 1100000) {H' : Hp} (d1 : H' r.d = some (.lst [.ref r.c, .int ((t : Int) + 1), .ref r.r])) (d2 : H' r.r = some (.lst (rests'.map V.int))) (d3 : ∀ a, a ≠ r.d → a ≠ r.r → H' a = H a) : Ext W H W H' ∧ SR K W (b - 1) H' := by
  obtain ⟨⟨h0, h1, h2, h3, h4, h5, _⟩, f1, f2, f3⟩ := S.g r hg
  have keep : ∀ a, ¬ W.isG a → H' a = H a := fun a n => d3 a (fun e => n ⟨r, hg, .inl e⟩) fun e => n ⟨r, hg, .inr e⟩
  have lf : HLe W.F H' := fun a o e => by
    rw [d3 a (fun q => by rw [q, f1] at e; cases e) (fun q => by rw [q, f2] at e; cases e)]
    exact S.f a o e
  refine ⟨⟨Wd.Le.refl W, fun a o e n => (keep a n).trans e, fun a h h' => absurd h' h, fun r e e' => by rw [e'] at e; cases e⟩, ⟨lf, fun r' hr' => ?_⟩⟩
  rw [hg] at hr'
  cases hr'
  exact ⟨⟨h0, h1, h2, lf.sqL f3, h4, h5, t + 1, rests', by rw [d1]; simp, by omega, d2, hl, hr⟩, f1, f2, f3⟩
theorem small_pow {x : Int} {n k : Nat} (h0 : 0 ≤ x) (h : x < (n : Int)) (hn : n ≤ 2 ^ k) : x.natAbs < 2 ^ k := by omega
set_option maxRecDepth 400000 in
theorem next_body {p1 p2 p3 p4 p5 p6 p7 p8 p9 p10 p11 p12 p13 p14 p15 p16 p17 p18 p19 p20 p21 p22 p23 p24 p25 p26 p27 p28 p29 p30 p31 p32 p33 p34 p35 p36 p37 p38 p39 p40 p41 p42 p43 p44 p45 p46 p47 p48 p49 p50 p51 p52 p53 p54 p55 p56 p57 p58 p59 p60 p61 p62 p63 p64 p65 p66 p67 p68 p69 p70 p71 p72 p73 p74 p75 p76 p77 p78 p79 p80 p81 p82 p83 p84 p85 p86 p87 p88 p89 p90 : Pos}
    (hN : X.N = nextN) (hl : ∀ x ∈ nextN, X.env.scope.names.lookup x = some .local) (hg : Gl X "len") (hm : X.mg "len" = none) (hc : X.calm = true) :
    ∃ t, PSs X [
      .Assign [.Tuple [.Name "_law_cells" p1, .Name "_law_turn" p2, .Name "_law_rests" p3] 0 p4] (.Name "_law_drawn" p5) p6,
      .Assign [.Name "_law_spot" p7] (.BinOp (.Name "_law_turn" p8) .Mod (.Call (.Name "len" p9) [.Name "_law_cells" p10] [] p11) p12) p13,
      .Assign [.Subscript (.Name "_law_drawn" p14) (.Constant (.int 1) 0 p15) p16] (.BinOp (.Name "_law_turn" p17) .Add (.Constant (.int 1) 0 p18) p19) p20,
      .If (.Compare (.Subscript (.Name "_law_rests" p21) (.Name "_law_spot" p22) p23) [.Gt] [.Constant (.int 0) 0 p24] p25) [
        .Assign [.Name "_law_digit" p26] (.BinOp (.Subscript (.Name "_law_rests" p27) (.Name "_law_spot" p28) p29) .Mod (.Name "_law_many" p30) p31) p32,
        .Assign [.Subscript (.Name "_law_rests" p33) (.Name "_law_spot" p34) p35] (.BinOp (.Subscript (.Name "_law_rests" p36) (.Name "_law_spot" p37) p38) .FloorDiv (.Name "_law_many" p39) p40) p41,
        .Return (some (.Name "_law_digit" p42)) p43] [] p44,
      .Assign [.Name "_law_mixed" p45] (.BinOp (.BinOp (.BinOp (.BinOp (.BinOp (.Subscript (.Name "_law_cells" p46) (.Name "_law_spot" p47) p48) .Mod (.Constant (.int 2147483629) 0 p49) p50) .Add (.BinOp (.Constant (.int 48611) 0 p51) .Mult (.Name "_law_turn" p52) p53) p54) .Add (.Constant (.int 12007) 0 p55) p56) .Pow (.Constant (.int 3) 0 p57) p58) .Mod (.Constant (.int 2147483587) 0 p59) p60) p61,
      .Assign [.Name "_law_again" p62] (.BinOp (.BinOp (.BinOp (.BinOp (.Name "_law_mixed" p63) .Add (.BinOp (.BinOp (.Constant (.int 6007) 0 p64) .Mult (.Name "_law_turn" p65) p66) .Mult (.Name "_law_turn" p67) p68) p69) .Add (.Constant (.int 53) 0 p70) p71) .Pow (.Constant (.int 3) 0 p72) p73) .Mod (.Constant (.int 2147483563) 0 p74) p75) p76,
      .Return (some (.BinOp (.BinOp (.BinOp (.BinOp (.Name "_law_again" p77) .Mult (.Constant (.int 2147483423) 0 p78) p79) .Add (.Name "_law_mixed" p80) p81) .Mod (.Constant (.int 4611686018427387847) 0 p82) p83) .Mod (.Name "_law_many" p84) p85)) p86] t ∧
      ∀ D (W : Wd) (H : Hp) (b : Nat) (r : Rg) (m : Int), SR X.K W b H → W.g = some r → 0 < m → m < 2 ^ 200 → 0 < b → (∀ n W' H', 0 ≤ n → n < m → Ext W H W' H' → SR X.K W' (b - 1) H' → D.rt (.int n) H') → t D (start nextN [.ref r.d, .int m]) H := by
  have nd : X.N.Nodup := by rw [hN]; decide +kernel
  have v : ∀ {i : Nat} {x : Str} {p : Pos}, nextN[i]? = some x → PE X (.Name x p) (tVar i) := fun {i x p} h =>
    pe_var (by rw [hN]; exact h) (.inl (hl x (List.mem_of_getElem? h))) (nextN_ok x (List.mem_of_getElem? h)).1 (nextN_ok x (List.mem_of_getElem? h)).2
  have n : ∀ {i : Nat} {x : Str} {p : Pos}, nextN[i]? = some x → PG X (.Name x p) (gName i) := fun {i x p} h => pg_name nd (by rw [hN]; exact h) (.inl (hl x (List.mem_of_getElem? h))) (.inr (hl x (List.mem_of_getElem? h)))
  refine ⟨_, pss_cons (ps_asg (v (i := 0) rfl) (pg_unl hc (pgs_cons (n (i := 2) rfl) (pgs_cons (n (i := 3) rfl) (pgs_cons (n (i := 4) rfl) pgs_nil))) rfl rfl) rfl rfl rfl)
    (pss_cons (ps_asg (pe_op op_mod (v (i := 3) rfl) (pe_callB call_len_seq hg hm (by decide +kernel) (pa_cons (v (i := 2) rfl) pa_nil))) (n (i := 5) rfl))
    (pss_cons (ps_asg (pe_op op_add (v (i := 3) rfl) pe_int) (pg_sub (v (i := 0) rfl) pe_int set_list) rfl rfl rfl)
    (pss_cons (ps_if (pt_cmpR op_gt (pe_ix ix_list (v (i := 4) rfl) (v (i := 5) rfl) (fun _ _ => rfl)) pe_int rfl)
      (pss_cons (ps_asg (pe_op op_mod (pe_ix ix_list (v (i := 4) rfl) (v (i := 5) rfl) (fun _ _ => rfl)) (v (i := 1) rfl)) (n (i := 6) rfl))
      (pss_cons (ps_asg (pe_op op_fdivW (pe_ix ix_list (v (i := 4) rfl) (v (i := 5) rfl) (fun _ _ => rfl)) (v (i := 1) rfl)) (pg_sub (v (i := 4) rfl) (v (i := 5) rfl) set_list) rfl rfl rfl)
      (pss_one (ps_ret (v (i := 6) rfl))))) pss_nil)
    (pss_cons (ps_asg (pe_op op_mod (pe_op op_powW (pe_op op_add (pe_op op_add (pe_op op_mod (pe_ix ix_list (v (i := 2) rfl) (v (i := 5) rfl) (fun _ _ => rfl)) pe_int) (pe_op op_mulW pe_int (v (i := 3) rfl))) pe_int) pe_int) pe_int) (n (i := 7) rfl))
    (pss_cons (ps_asg (pe_op op_mod (pe_op op_powW (pe_op op_add (pe_op op_add (v (i := 7) rfl) (pe_op op_mulW (pe_op op_mulW pe_int (v (i := 3) rfl)) (v (i := 3) rfl))) pe_int) pe_int) pe_int) (n (i := 8) rfl))
    (pss_one (ps_ret (pe_op op_mod (pe_op op_mod (pe_op op_add (pe_op op_mulW (v (i := 8) rfl) pe_int) (v (i := 7) rfl)) pe_int) (v (i := 1) rfl))))))))), fun D W H b r m S hg' h0 hm2 hb hQ => ?_⟩
  obtain ⟨⟨g0, g1, g2, g3, g4, g5, t, rests, e1, ht, e2, hrl, hr⟩, f1, f2, f3⟩ := S.g r hg'
  have hcl : (0 : Int) < ((r.cells.map V.int).length : Int) := by rw [List.length_map]; omega
  generalize hs : t % r.cells.length = s
  have hs1 : s < r.cells.length := by rw [← hs]; exact Nat.mod_lt _ g1
  have hs2 : (t : Int) % ((r.cells.map V.int).length : Int) = (s : Int) := by rw [List.length_map, ← hs]; rfl
  have hx0 : rests[s]? = some rests[s] := List.getElem?_eq_getElem (by omega)
  generalize rests[s] = x0 at hx0
  have hc0 : r.cells[s]? = some r.cells[s] := List.getElem?_eq_getElem hs1
  generalize r.cells[s] = c0 at hc0
  have at1 : ∀ {zs : List Int} {z : Int}, zs[s]? = some z → atI (zs.map V.int) ((s : Nat) : Int) = some (.int z) := fun {zs z} h => by
    have hl : s < zs.length := (List.getElem?_eq_some_iff.mp h).1
    unfold atI
    rw [place_ix, List.length_map]
    have : place zs.length (s : Int) = some s := by
      unfold place
      rw [if_pos (by omega), if_pos (by omega)]
      rfl
    rw [this]
    show (zs.map V.int)[s]? = _
    rw [List.getElem?_map, h]
    rfl
  have hx1 := hr x0 (List.mem_of_getElem? hx0)
  refine ⟨.ref r.d, rfl, r.d, [.ref r.c, .int t, .ref r.r], rfl, SqL.of e1, rfl, .ref r.c, _, rfl, .int t, _, rfl, .ref r.r, _, rfl, rfl, ?_⟩
  refine ⟨.int t, rfl, .ref r.c, rfl, r.c, r.cells.map V.int, rfl, .inl g3, t, _, rfl, rfl, hcl, ?_⟩
  dsimp only
  rw [hs2]
  refine ⟨.int t, rfl, (t : Int), 1, rfl, rfl, .ref r.d, rfl, r.d, [.ref r.c, .int t, .ref r.r], 1, 1, rfl, rfl, e1, rfl, ?_⟩
  generalize hH1 : upd H r.d (.lst ([V.ref r.c, .int t, .ref r.r].set 1 (.int ((t : Int) + 1)))) = H1
  have k1 : H1 r.d = some (.lst [.ref r.c, .int ((t : Int) + 1), .ref r.r]) := by rw [← hH1]; exact upd_same
  have k2 : H1 r.r = some (.lst (rests.map V.int)) := by rw [← hH1, upd_ne (Ne.symm g0)]; exact e2
  have k3 : ∀ a, a ≠ r.d → H1 a = H a := fun a n => by rw [← hH1]; exact upd_ne n
  have lf : HLe W.F H1 := fun a o e => by
    rw [k3 a (fun q => by rw [q, f1] at e; cases e)]
    exact S.f a o e
  refine ⟨.ref r.r, rfl, .int s, rfl, r.r, rests.map V.int, s, .int x0, rfl, rfl, SqL.of k2, at1 hx0, x0, 0, rfl, rfl, _, rfl, ?_⟩
  have htb : (t : Int).natAbs < 2 ^ 20001 := by
    have : t ≤ 2 ^ 20000 := by unfold BIG at ht; omega
    have h2 : (2 : Nat) ^ 20000 < 2 ^ 20001 := Nat.pow_lt_pow_right (by omega) (by omega)
    show t < 2 ^ 20001
    omega
  dsimp only
  by_cases hpos : 0 < x0
  · rw [if_pos (decide_eq_true hpos)]
    refine ⟨.ref r.r, rfl, .int s, rfl, r.r, rests.map V.int, s, .int x0, rfl, rfl, SqL.of k2, at1 hx0, .int m, rfl, x0, m, rfl, rfl, h0, ?_⟩
    have hdm : CDivW x0 m := wide_div (b := 200) h0 (by omega) (by omega) (by omega)
    refine ⟨.ref r.r, rfl, .int s, rfl, r.r, rests.map V.int, s, .int x0, rfl, rfl, SqL.of k2, at1 hx0, .int m, rfl, x0, m, rfl, rfl, hdm, .ref r.r, rfl, .int s, rfl, r.r, rests.map V.int, s, s, rfl, rfl, k2, ?_, ?_⟩
    · rw [place_ix, List.length_map]
      unfold place
      rw [if_pos (by omega), if_pos (by omega)]
      rfl
    · refine ⟨.int (x0 % m), rfl, ?_⟩
      have hd0 : 0 ≤ x0 / m := Int.ediv_nonneg hx1.1 (by omega)
      have hd1 : x0 / m ≤ x0 := Int.ediv_le_self _ hx1.1
      obtain ⟨q1, q2⟩ := next_after (rests' := rests.set s (x0 / m)) (H' := upd H1 r.r (.lst ((rests.map V.int).set s (.int (x0 / m))))) S hg' hb e1 ht e2 (by rw [List.length_set]; exact hrl) (fun z hz => by
        rcases List.mem_or_eq_of_mem_set hz with hz | rfl
        · exact hr z hz
        · exact ⟨hd0, Nat.lt_of_le_of_lt (by omega) hx1.2⟩) (by rw [upd_ne g0]; exact k1) (by rw [upd_same, List.map_set]) (fun a n1 n2 => by rw [upd_ne n2]; exact k3 a n1)
      exact hQ (x0 % m) W _ (Int.emod_nonneg _ (by omega)) (Int.emod_lt_of_pos _ h0) q1 q2
  · rw [if_neg (by rw [decide_eq_true_eq]; exact hpos)]
    have mod_lt : ∀ (x : Int) (n : Nat), 0 < n → n ≤ 2 ^ 64 → (x % (n : Int)).natAbs < 2 ^ 64 := fun x n h1 h2 => by
      have a1 := Int.emod_nonneg x (show (n : Int) ≠ 0 by omega)
      have a2 := Int.emod_lt_of_pos x (show (0 : Int) < n by omega)
      omega
    have addl : ∀ {x y : Int} {a c : Nat}, x.natAbs < 2 ^ a → y.natAbs < 2 ^ a → a < c → (x + y).natAbs < 2 ^ c := fun {x y a c} h1 h2 h3 => by
      have h4 : (2 : Nat) ^ (a + 1) ≤ 2 ^ c := Nat.pow_le_pow_right (by omega) h3
      rw [Nat.pow_succ] at h4
      omega
    have up : ∀ {x : Int} {a c : Nat}, x.natAbs < 2 ^ a → a ≤ c → x.natAbs < 2 ^ c := fun {x a c} h1 h2 => Nat.lt_of_lt_of_le h1 (Nat.pow_le_pow_right (by omega) h2)
    have lit : ∀ (k : Nat), k < 2 ^ 64 → ((k : Int)).natAbs < 2 ^ 64 := fun k h => by omega
    have hm1 : (48611 : Int).natAbs < 2 ^ 64 := by decide
    have hm2' : (6007 : Int).natAbs < 2 ^ 64 := by decide
    have w1 : CMulW 48611 (t : Int) := wide_mul (a := 64) (b := 20001) hm1 htb (by omega) (by omega) (by omega)
    have w1b := wide_lt hm1 htb
    have w2 : CMulW 6007 (t : Int) := wide_mul (a := 64) (b := 20001) hm2' htb (by omega) (by omega) (by omega)
    have w2b := wide_lt hm2' htb
    have w3 : CMulW (6007 * (t : Int)) (t : Int) := wide_mul (a := 64 + 20001) (b := 20001) w2b htb (by omega) (by omega) (by omega)
    have w3b := wide_lt w2b htb
    have sum1 : (c0 % 2147483629 + 48611 * (t : Int) + 12007).natAbs < 2 ^ 20100 :=
      addl (a := 20099) (addl (a := 20098) (up (mod_lt c0 2147483629 (by omega) (by omega)) (by omega)) (up w1b (by omega)) (by omega)) (up (lit 12007 (by omega)) (by omega)) (by omega)
    generalize hmx : (c0 % 2147483629 + 48611 * (t : Int) + 12007) ^ (3 : Int).toNat % 2147483587 = mx
    have mxb : mx.natAbs < 2 ^ 64 := by rw [← hmx]; exact mod_lt _ 2147483587 (by omega) (by omega)
    have sum2 : (mx + 6007 * (t : Int) * (t : Int) + 53).natAbs < 2 ^ 40200 :=
      addl (a := 40199) (addl (a := 40198) (up mxb (by omega)) (up w3b (by omega)) (by omega)) (up (lit 53 (by omega)) (by omega)) (by omega)
    generalize hag : (mx + 6007 * (t : Int) * (t : Int) + 53) ^ (3 : Int).toNat % 2147483563 = ag
    have agb : ag.natAbs < 2 ^ 64 := by rw [← hag]; exact mod_lt _ 2147483563 (by omega) (by omega)
    have w4 : CMulW ag 2147483423 := wide_mul (a := 64) (b := 64) agb (by decide) (by omega) (by omega) (by omega)
    obtain ⟨q1, q2⟩ := next_after (rests' := rests) (H' := H1) S hg' hb e1 ht e2 hrl hr k1 k2 fun a h1 _ => k3 a h1
    refine ⟨.ref r.c, rfl, .int s, rfl, r.c, r.cells.map V.int, s, .int c0, rfl, rfl, lf.sqL f3, at1 hc0, c0, 2147483629, rfl, rfl, by omega, .int t, rfl, 48611, t, rfl, rfl, w1, _, _, rfl, rfl, _, 12007, rfl, rfl, _, 3, rfl, rfl, powW_ok sum1 (by omega), _, 2147483587, rfl, rfl, by omega, ?_⟩
    dsimp only
    rw [hmx]
    refine ⟨.int mx, rfl, .int t, rfl, 6007, t, rfl, rfl, w2, .int t, rfl, _, t, rfl, rfl, w3, mx, _, rfl, rfl, _, 53, rfl, rfl, _, 3, rfl, rfl, powW_ok sum2 (by omega), _, 2147483563, rfl, rfl, by omega, ?_⟩
    dsimp only
    rw [hag]
    exact ⟨.int ag, rfl, ag, 2147483423, rfl, rfl, w4, .int mx, rfl, _, mx, rfl, rfl, _, 4611686018427387847, rfl, rfl, by omega, .int m, rfl, _, m, rfl, rfl, h0, hQ _ W H1 (Int.emod_nonneg _ (by omega)) (Int.emod_lt_of_pos _ h0) q1 q2⟩
end
theorem next_fn {P : Program} {w : World} {K : PySem.W.Frag} {mg : Str → Option Value} {base : Heap} {n : Nat} {f : Addr} {name qual : Str} {params : Arguments} {p1 p2 p3 p4 p5 p6 p7 p8 p9 p10 p11 p12 p13 p14 p15 p16 p17 p18 p19 p20 p21 p22 p23 p24 p25 p26 p27 p28 p29 p30 p31 p32 p33 p34 p35 p36 p37 p38 p39 p40 p41 p42 p43 p44 p45 p46 p47 p48 p49 p50 p51 p52 p53 p54 p55 p56 p57 p58 p59 p60 p61 p62 p63 p64 p65 p66 p67 p68 p69 p70 p71 p72 p73 p74 p75 p76 p77 p78 p79 p80 p81 p82 p83 p84 p85 p86 : Pos} {scope : Scope} {dV kV doc pm cdv ct oc : Value} {an od : Option Addr}
    {osl : Array (Option Value)} (lk : K.lookup f = some ⟨oc, od, .func (PySem.W.fnOf name qual params [
      .Assign [.Tuple [.Name "_law_cells" p1, .Name "_law_turn" p2, .Name "_law_rests" p3] 0 p4] (.Name "_law_drawn" p5) p6,
      .Assign [.Name "_law_spot" p7] (.BinOp (.Name "_law_turn" p8) .Mod (.Call (.Name "len" p9) [.Name "_law_cells" p10] [] p11) p12) p13,
      .Assign [.Subscript (.Name "_law_drawn" p14) (.Constant (.int 1) 0 p15) p16] (.BinOp (.Name "_law_turn" p17) .Add (.Constant (.int 1) 0 p18) p19) p20,
      .If (.Compare (.Subscript (.Name "_law_rests" p21) (.Name "_law_spot" p22) p23) [.Gt] [.Constant (.int 0) 0 p24] p25) [
        .Assign [.Name "_law_digit" p26] (.BinOp (.Subscript (.Name "_law_rests" p27) (.Name "_law_spot" p28) p29) .Mod (.Name "_law_many" p30) p31) p32,
        .Assign [.Subscript (.Name "_law_rests" p33) (.Name "_law_spot" p34) p35] (.BinOp (.Subscript (.Name "_law_rests" p36) (.Name "_law_spot" p37) p38) .FloorDiv (.Name "_law_many" p39) p40) p41,
        .Return (some (.Name "_law_digit" p42)) p43] [] p44,
      .Assign [.Name "_law_mixed" p45] (.BinOp (.BinOp (.BinOp (.BinOp (.BinOp (.Subscript (.Name "_law_cells" p46) (.Name "_law_spot" p47) p48) .Mod (.Constant (.int 2147483629) 0 p49) p50) .Add (.BinOp (.Constant (.int 48611) 0 p51) .Mult (.Name "_law_turn" p52) p53) p54) .Add (.Constant (.int 12007) 0 p55) p56) .Pow (.Constant (.int 3) 0 p57) p58) .Mod (.Constant (.int 2147483587) 0 p59) p60) p61,
      .Assign [.Name "_law_again" p62] (.BinOp (.BinOp (.BinOp (.BinOp (.Name "_law_mixed" p63) .Add (.BinOp (.BinOp (.Constant (.int 6007) 0 p64) .Mult (.Name "_law_turn" p65) p66) .Mult (.Name "_law_turn" p67) p68) p69) .Add (.Constant (.int 53) 0 p70) p71) .Pow (.Constant (.int 3) 0 p72) p73) .Mod (.Constant (.int 2147483563) 0 p74) p75) p76,
      .Return (some (.BinOp (.BinOp (.BinOp (.BinOp (.Name "_law_again" p77) .Mult (.Constant (.int 2147483423) 0 p78) p79) .Add (.Name "_law_mixed" p80) p81) .Mod (.Constant (.int 4611686018427387847) 0 p82) p83) .Mod (.Name "_law_many" p84) p85)) p86] scope dV kV doc pm an cdv ct), osl⟩) (hcd : PySem.W.codeIn K cdv qual = true) (S : FnScope nextN ["_law_drawn", "_law_many"] scope)
    (hl : ∀ x ∈ nextN, scope.names.lookup x = some .local) (hg : scope.names.lookup (Str.ofString "len") = some NameKind.globalImplicit) (hm : mg (Str.ofString "len") = none) :
    FnOkG P w K mg base (n + 1) f (PySem.W.fnOf name qual params [
      .Assign [.Tuple [.Name "_law_cells" p1, .Name "_law_turn" p2, .Name "_law_rests" p3] 0 p4] (.Name "_law_drawn" p5) p6,
      .Assign [.Name "_law_spot" p7] (.BinOp (.Name "_law_turn" p8) .Mod (.Call (.Name "len" p9) [.Name "_law_cells" p10] [] p11) p12) p13,
      .Assign [.Subscript (.Name "_law_drawn" p14) (.Constant (.int 1) 0 p15) p16] (.BinOp (.Name "_law_turn" p17) .Add (.Constant (.int 1) 0 p18) p19) p20,
      .If (.Compare (.Subscript (.Name "_law_rests" p21) (.Name "_law_spot" p22) p23) [.Gt] [.Constant (.int 0) 0 p24] p25) [
        .Assign [.Name "_law_digit" p26] (.BinOp (.Subscript (.Name "_law_rests" p27) (.Name "_law_spot" p28) p29) .Mod (.Name "_law_many" p30) p31) p32,
        .Assign [.Subscript (.Name "_law_rests" p33) (.Name "_law_spot" p34) p35] (.BinOp (.Subscript (.Name "_law_rests" p36) (.Name "_law_spot" p37) p38) .FloorDiv (.Name "_law_many" p39) p40) p41,
        .Return (some (.Name "_law_digit" p42)) p43] [] p44,
      .Assign [.Name "_law_mixed" p45] (.BinOp (.BinOp (.BinOp (.BinOp (.BinOp (.Subscript (.Name "_law_cells" p46) (.Name "_law_spot" p47) p48) .Mod (.Constant (.int 2147483629) 0 p49) p50) .Add (.BinOp (.Constant (.int 48611) 0 p51) .Mult (.Name "_law_turn" p52) p53) p54) .Add (.Constant (.int 12007) 0 p55) p56) .Pow (.Constant (.int 3) 0 p57) p58) .Mod (.Constant (.int 2147483587) 0 p59) p60) p61,
      .Assign [.Name "_law_again" p62] (.BinOp (.BinOp (.BinOp (.BinOp (.Name "_law_mixed" p63) .Add (.BinOp (.BinOp (.Constant (.int 6007) 0 p64) .Mult (.Name "_law_turn" p65) p66) .Mult (.Name "_law_turn" p67) p68) p69) .Add (.Constant (.int 53) 0 p70) p71) .Pow (.Constant (.int 3) 0 p72) p73) .Mod (.Constant (.int 2147483563) 0 p74) p75) p76,
      .Return (some (.BinOp (.BinOp (.BinOp (.BinOp (.Name "_law_again" p77) .Mult (.Constant (.int 2147483423) 0 p78) p79) .Add (.Name "_law_mixed" p80) p81) .Mod (.Constant (.int 4611686018427387847) 0 p82) p83) .Mod (.Name "_law_many" p84) p85)) p86] scope dV kV doc pm an cdv ct) ["_law_drawn", "_law_many"] (spN K) := by
  refine fn_ofG lk hcd S (fun vs H Q E ⟨W, b, r, m, _, _, e, _⟩ => by rw [e]; rfl) fun A outer s H vs Q E hr hgd hsp => ?_
  obtain ⟨W, b, r, m, S0, g, rfl, m0, m1, hb, hQ⟩ := hsp
  obtain ⟨t, h1, h2⟩ := next_body (X := cxOf (L2.CX P w) P w K mg base nextN qual scope f cdv A outer s H E) (p87 := p1) (p88 := p1) (p89 := p1) (p90 := p1) rfl hl hg hm rfl
  exact ⟨t, h1, h2 { nx := fun _ H' => Q .non H', rt := Q } W H b r m S0 g m0 m1 hb hQ⟩
end Mp
namespace Mp
open PySem PySem.Spec PyProof.Rows L2
open Mp.T (Wc)
def drawsN : List Str := ["_law_script", "_law_cells", "_law_cell"]
/-- the promise of _law_draws -/
def spI (K : PySem.W.Frag) : Sp := fun vs H Q _ => ∃ (W : Wd) (b : Nat) (a : Addr) (ns : List Int), SR K W b H ∧ W.g = none ∧ vs = [.ref a] ∧ SqL K H a (ns.map V.int) ∧ ns.length ≤ 63 ∧ (∀ x ∈ ns, x.natAbs < 2 ^ 1100000) ∧ b ≤ BIG ∧
  ∀ (r : Rg) W' H', W'.g = some r → Ext W H W' H' → SR K W' b H' → Q (.ref r.d) H'
def cellsOf (ns : List Int) : List Int := ns ++ List.replicate (if ns.length = 0 then 1 else 0) 0
def restOf (x : Int) : Int := x * (if 10 ^ 18 ≤ x then 1 else 0)
section
variable {X : Cx}
theorem draws_body {s : Scope} {p1 p2 p3 p4 p5 p6 p7 p8 p9 p10 p11 p12 p13 p14 p15 p16 p17 p18 p19 p20 p21 p22 p23 p24 p25 p26 p27 p28 p29 p30 p31 p32 p33 p34 p35 p36 : Pos}
    (hN : X.N = drawsN) (h0 : X.env.scope.names.lookup (Str.ofString "_law_script") = some NameKind.local) (h1 : X.env.scope.names.lookup (Str.ofString "_law_cells") = some NameKind.local)
    (hb : blkC drawsN X.env.scope s [(Str.ofString "_law_cell", 2)] = true) (hs : (relS s X.env.scope).names.lookup (Str.ofString "_law_cell") = some NameKind.local) (hi : (relS s X.env.scope).names.lookup (Str.ofString "int") = some NameKind.globalImplicit)
    (g1 : Gl X "list") (g2 : Gl X "int") (g3 : Gl X "len") (m1 : X.mg "list" = none) (m2 : X.mg "int" = none) (m3 : X.mg "len" = none) (hc : X.calm = true) :
    ∃ t, PSs X [
      .Assign [.Name "_law_cells" p1] (.BinOp (.Call (.Name "list" p2) [.Subscript (.Name "_law_script" p3) (.Slice none (some (.Constant (.int 63) 0 p4)) none p5) p6] [] p7) .Add
        (.BinOp (.List [.Constant (.int 0) 0 p8] p9) .Mult (.Call (.Name "int" p10) [.Compare (.Call (.Name "len" p11) [.Name "_law_script" p12] [] p13) [.Eq] [.Constant (.int 0) 0 p14] p15] [] p16) p17) p18) p19,
      .Return (some (.List [.Name "_law_cells" p20, .Constant (.int 0) 0 p21, .ListComp (.BinOp (.Name "_law_cell" p22) .Mult (.Call (.Name "int" p23) [.Compare (.Name "_law_cell" p24) [.GtE] [.BinOp (.Constant (.int 10) 0 p25) .Pow (.Constant (.int 18) 0 p26) p27] p28] [] p29) p30)
        [⟨.Name "_law_cell" p31, .Name "_law_cells" p32, [], 0⟩] s p33] p34)) p35] t ∧
      ∀ (D : Ends) (H : Hp) (vs : List V) (E : XK), spI X.K vs H D.rt E → t D (start drawsN vs) H := by
  have nd : X.N.Nodup := by rw [hN]; decide +kernel
  have v0 : ∀ {p : Pos}, PE X (.Name "_law_script" p) (tVar 0) := pe_var (by rw [hN]; rfl) (.inl h0) (by decide +kernel) (by decide +kernel)
  have v1 : ∀ {p : Pos}, PE X (.Name "_law_cells" p) (tVar 1) := pe_var (by rw [hN]; rfl) (.inl h1) (by decide +kernel) (by decide +kernel)
  refine ⟨_, pss_cons (ps_asg (pe_op op_cat (pe_callTy call_list_of g1 m1 (by decide +kernel) (pa_cons (pe_slice sl_list v0 po_none (po_some pe_int)) pa_nil))
      (pe_op op_rep (pe_lst (pa_cons pe_int pa_nil)) (pe_callTy call_int1 g2 m2 (by decide +kernel) (pa_cons (pe_cmpR op_eq (pe_callB call_len_seq g3 m3 (by decide +kernel) (pa_cons v0 pa_nil)) pe_int rfl) pa_nil)))) (pg_name nd (i := 1) (by rw [hN]; rfl) (.inl h1) (.inr h1)))
    (pss_one (ps_ret (pe_lst (pa_cons v1 (pa_cons pe_int (pa_cons (pe_lc hc nd (pi_list v1) (by rw [hN]; exact blkOk_by hb)
      (fun s' H C cl fp => pg_name (i := 2) nd (by show X.N[2]? = _; rw [hN]; rfl) (.inl hs) (.inr hs)) (fun _ _ _ _ _ => pts_nil)
      (fun s' H C cl fp => pe_op op_mul (pe_var (i := 2) (by show X.N[2]? = _; rw [hN]; rfl) (.inl hs) (by decide +kernel) (by decide +kernel))
        (pe_callTy call_int1 hi m2 (by decide +kernel) (pa_cons (pe_cmpR op_ge (pe_var (i := 2) (by show X.N[2]? = _; rw [hN]; rfl) (.inl hs) (by decide +kernel) (by decide +kernel)) (pe_op op_pow pe_int pe_int) rfl) pa_nil)))) pa_nil)))))), fun D H vs E ⟨W, b, a, ns, S, hg, e, ha, hl, hbits, hbig, hQ⟩ => ?_⟩
  subst e
  have sq : ∀ {H' : Hp}, HLe H H' → SqL X.K H' a (ns.map V.int) := fun h => h.sqL ha
  have lay : ∀ {H1 : Hp} {p : Addr} {o : HO}, H1 p = none → HLe H1 (upd H1 p o) := fun {H1 p o} n c u e => by
    rw [upd_ne (ne_of_none e n)]
    exact e
  have ecut : cutV (ns.map V.int) none (some 63) = ns.map V.int := by
    unfold cutV
    have e1 : HT.sIx (ns.map V.int).length (ns.map V.int).length (some 63) = ns.length := by
      rw [cutP_eq, List.length_map]
      unfold cutP
      rw [if_neg (by omega)]
      omega
    have e0 : HT.sIx (ns.map V.int).length 0 none = 0 := rfl
    rw [e1, e0]
    simp only [List.drop_zero, Nat.sub_zero]
    exact List.take_of_length_le (by simp)
  refine ⟨.ref a, rfl, 63, rfl, a, ns.map V.int, rfl, ha, fun p1 n1 => ?_⟩
  rw [ecut]
  refine ⟨p1, _, rfl, .inl (SqL.of upd_same), fun p2 n2 => ?_⟩
  refine ⟨by rw [sizeLine_eq]; simp, fun p3 n3 => ?_⟩
  have l1 := lay n1 (o := .lst (ns.map V.int))
  have l2 := l1.trans (lay n2 (o := .lst (ns.map V.int)))
  have l3 := l2.trans (lay n3 (o := .lst [.int 0]))
  refine ⟨.ref a, rfl, a, ns.map V.int, rfl, .inl (sq l3), ?_⟩
  generalize hk : decide (V.int ((ns.map V.int).length : Int) = V.int 0) = kb
  have hkb : kb = decide (ns.length = 0) := by
    rw [← hk, dec_int, List.length_map, Bool.eq_iff_iff]
    simp
  refine ⟨rfl, ?_⟩
  rw [hk]
  refine .inr ⟨kb, rfl, p3, _, [.int 0], rfl, rfl, upd_same, by split <;> omega, by split <;> omega, by rw [sizeLine_eq]; split <;> simp, fun p4 n4 => ?_⟩
  have hrep : (List.replicate ((if kb = true then (1 : Int) else 0)).toNat [V.int 0]).flatten = (List.replicate (if ns.length = 0 then 1 else 0) (0 : Int)).map V.int := by
    rw [hkb]
    by_cases hz : ns.length = 0
    · simp [hz]
    · simp [hz]
  rw [hrep]
  generalize hH3 : upd (upd (upd H p1 (HO.lst (ns.map V.int))) p2 (HO.lst (ns.map V.int))) p3 (HO.lst [V.int 0]) = H3 at *
  have l4 := l3.trans (lay n4 (o := .lst ((List.replicate (if ns.length = 0 then 1 else 0) (0 : Int)).map V.int)))
  have p2at : H3 p2 = some (.lst (ns.map V.int)) := by
    rw [← hH3]
    exact lay n3 _ _ upd_same
  have hcl : (cellsOf ns).length ≤ 63 ∧ 0 < (cellsOf ns).length := by
    unfold cellsOf
    rw [List.length_append, List.length_replicate]
    split <;> omega
  refine ⟨p2, p4, _, _, rfl, rfl, lay n4 _ _ p2at, upd_same, ?_, fun c nc => ?_⟩
  · have := hcl.1
    unfold cellsOf at this
    rw [List.length_append] at this
    rw [List.length_map, List.length_map, sizeLine_eq]
    omega
  rw [← List.map_append]
  have ecell : ns ++ List.replicate (if ns.length = 0 then 1 else 0) (0 : Int) = cellsOf ns := rfl
  rw [ecell]
  generalize hH4 : upd H3 p4 (HO.lst ((List.replicate (if ns.length = 0 then 1 else 0) (0 : Int)).map V.int)) = H4 at *
  have l5 := l4.trans (lay nc (o := .lst ((cellsOf ns).map V.int)))
  have cat : upd H4 c (.lst ((cellsOf ns).map V.int)) c = some (.lst ((cellsOf ns).map V.int)) := upd_same
  generalize hH5 : upd H4 c (.lst ((cellsOf ns).map V.int)) = H5 at *
  refine ⟨.ref c, rfl, .ref c, rfl, c, rfl, ⟨_, SqL.of cat⟩, fun Dr nDr => ?_⟩
  have ncD : c ≠ Dr := fun e => by rw [e, nDr] at cat; cases cat
  refine lc_it (walk_list (K := X.K) (a := c) (xs := (cellsOf ns).map V.int)) (fun i H2 => H2 = upd H5 Dr (.lst (((cellsOf ns).take i).map fun x => V.int (restOf x)))) (by simp) (fun i H2 hi e => ?_) (fun i x H2 H' hi e y => ?_) fun H2 e => ?_
  · subst e
    exact SqL.of (by rw [upd_ne ncD]; exact cat)
  · subst e
    obtain ⟨rfl, hx⟩ := y
    rw [List.getElem?_map, Option.map_eq_some_iff] at hx
    obtain ⟨z, hz, rfl⟩ := hx
    refine ⟨rfl, ?_⟩
    show _
    refine ⟨.int z, rfl, .int z, rfl, 10, 18, rfl, rfl, ?_, z, _, rfl, rfl, ?_⟩
    · exact ⟨by omega, by omega, by decide⟩
    · have hlen : i < (cellsOf ns).length := by
        rw [List.length_map] at hi
        exact hi
      refine .inr ⟨_, rfl, z, _, rfl, rfl, .inr (by split <;> exact ⟨by omega, by omega⟩), _, upd_same, ?_, ?_⟩
      · rw [List.length_map, List.length_take, sizeLine_eq]
        have := hcl.1
        omega
      · have e2 : ((cellsOf ns).take (i + 1)).map (fun x => V.int (restOf x)) = ((cellsOf ns).take i).map (fun x => V.int (restOf x)) ++ [V.int (restOf z)] := by
          rw [List.take_add_one, hz]
          simp
        show upd (upd H5 Dr _) Dr _ = upd H5 Dr _
        rw [e2]
        have er : V.int (z * (if decide ((10 : Int) ^ (18 : Int).toNat ≤ z) = true then 1 else 0)) = V.int (restOf z) := by
          unfold restOf
          congr 2
          by_cases h : (10 : Int) ^ 18 ≤ z
          · have h' : (10 : Int) ^ (18 : Int).toNat ≤ z := h
            rw [if_pos h, if_pos (decide_eq_true h')]
          · have h' : ¬ (10 : Int) ^ (18 : Int).toNat ≤ z := h
            rw [if_neg h, if_neg (by rw [decide_eq_true_eq]; exact h')]
        funext q
        by_cases hq : q = Dr
        · subst hq
          rw [upd_same, upd_same]
          dsimp only
          rw [er]
        · rw [upd_ne hq, upd_ne hq, upd_ne hq]
  · subst e
    rw [List.length_map, List.take_length]
    have l6 := l5.trans (lay nDr (o := .lst ((cellsOf ns).map fun x => V.int (restOf x))))
    refine ⟨by rw [sizeLine_eq]; simp, fun d nd' => ?_⟩
    have l7 := l6.trans (lay nd' (o := .lst [V.ref c, .int 0, .ref Dr]))
    have none_of : ∀ {H1 H2 : Hp} {q : Addr}, HLe H1 H2 → H2 q = none → H1 q = none := fun {H1 H2 q} h n => by
      cases e : H1 q with
      | none => rfl
      | some o => rw [h q o e] at n; cases n
    have nc0 : H c = none := none_of l4 nc
    have nDr0 : H Dr = none := none_of l5 nDr
    have nd0 : H d = none := none_of l6 nd'
    have ndD : d ≠ Dr := fun e => by rw [e, upd_same] at nd'; cases nd'
    have ndc : d ≠ c := fun e => by
      rw [e, upd_ne ncD, cat] at nd'
      cases nd'
    have wF : ∀ {q : Addr}, H q = none → W.F q = none := fun n => S.noF n
    refine hQ ⟨d, c, Dr, cellsOf ns⟩ ⟨upd W.F c (.lst ((cellsOf ns).map V.int)), some ⟨d, c, Dr, cellsOf ns⟩, W.x⟩ _ rfl ⟨⟨lay (wF nc0), fun r e => (by rw [hg] at e; cases e), rfl⟩, fun q o e _ => l7 q o e, fun q n1 n2 => ?_, fun r e _ => ?_⟩ ⟨fun q o e => ?_, fun r e => ?_⟩
    · by_cases hq : q = c
      · rw [hq]; exact nc0
      · have n1' : upd W.F c (.lst ((cellsOf ns).map V.int)) q ≠ none := n1
        rw [upd_ne hq] at n1'
        exact absurd n2 n1'
    · cases e
      exact ⟨nd0, nDr0⟩
    · by_cases hq : q = c
      · subst hq
        have e' : upd W.F q (.lst ((cellsOf ns).map V.int)) q = some o := e
        rw [upd_same] at e'
        cases e'
        rw [upd_ne (Ne.symm ndc), upd_ne ncD]
        exact cat
      · have e' : upd W.F c (.lst ((cellsOf ns).map V.int)) q = some o := e
        rw [upd_ne hq] at e'
        exact l7 q o (S.f q o e')
    · cases e
      have fc : upd W.F c (.lst ((cellsOf ns).map V.int)) c = some (.lst ((cellsOf ns).map V.int)) := upd_same
      refine ⟨⟨ndD, hcl.2, hcl.1, SqL.of (by rw [upd_ne (Ne.symm ndc), upd_ne ncD]; exact cat), Ne.symm ndc, ncD, 0, (cellsOf ns).map restOf, upd_same, by omega, ?_, by rw [List.length_map], fun x hx => ?_⟩, ?_, ?_, SqL.of fc⟩
      · rw [upd_ne (Ne.symm ndD), upd_same, List.map_map]
        rfl
      · obtain ⟨y, hy, rfl⟩ := List.mem_map.mp hx
        have hyb : y.natAbs < 2 ^ 1100000 := by
          rcases List.mem_append.mp hy with hy | hy
          · exact hbits y hy
          · rw [(List.mem_replicate.mp hy).2]
            exact Nat.two_pow_pos _
        unfold restOf
        split
        · rename_i h
          rw [Int.mul_one]
          exact ⟨Int.le_trans (by decide) h, hyb⟩
        · rw [Int.mul_zero]
          exact ⟨Int.le_refl _, Nat.two_pow_pos _⟩
      · show upd W.F c _ d = none
        rw [upd_ne ndc]
        exact wF nd0
      · show upd W.F c _ Dr = none
        rw [upd_ne (Ne.symm ncD)]
        exact wF nDr0
end
theorem draws_fn {P : Program} {w : World} {K : PySem.W.Frag} {mg : Str → Option Value} {base : Heap} {n : Nat} {f : Addr} {name qual : Str} {params : Arguments} {s : Scope} {p1 p2 p3 p4 p5 p6 p7 p8 p9 p10 p11 p12 p13 p14 p15 p16 p17 p18 p19 p20 p21 p22 p23 p24 p25 p26 p27 p28 p29 p30 p31 p32 p33 p34 p35 : Pos} {scope : Scope} {dV kV doc pm cdv ct oc : Value} {an od : Option Addr}
    {osl : Array (Option Value)} (lk : K.lookup f = some ⟨oc, od, .func (PySem.W.fnOf name qual params [
      .Assign [.Name "_law_cells" p1] (.BinOp (.Call (.Name "list" p2) [.Subscript (.Name "_law_script" p3) (.Slice none (some (.Constant (.int 63) 0 p4)) none p5) p6] [] p7) .Add
        (.BinOp (.List [.Constant (.int 0) 0 p8] p9) .Mult (.Call (.Name "int" p10) [.Compare (.Call (.Name "len" p11) [.Name "_law_script" p12] [] p13) [.Eq] [.Constant (.int 0) 0 p14] p15] [] p16) p17) p18) p19,
      .Return (some (.List [.Name "_law_cells" p20, .Constant (.int 0) 0 p21, .ListComp (.BinOp (.Name "_law_cell" p22) .Mult (.Call (.Name "int" p23) [.Compare (.Name "_law_cell" p24) [.GtE] [.BinOp (.Constant (.int 10) 0 p25) .Pow (.Constant (.int 18) 0 p26) p27] p28] [] p29) p30)
        [⟨.Name "_law_cell" p31, .Name "_law_cells" p32, [], 0⟩] s p33] p34)) p35] scope dV kV doc pm an cdv ct), osl⟩) (hcd : PySem.W.codeIn K cdv qual = true) (S : FnScope drawsN ["_law_script"] scope)
    (h0 : scope.names.lookup (Str.ofString "_law_script") = some NameKind.local) (h1 : scope.names.lookup (Str.ofString "_law_cells") = some NameKind.local)
    (hb : blkC drawsN scope s [(Str.ofString "_law_cell", 2)] = true) (hs : (relS s scope).names.lookup (Str.ofString "_law_cell") = some NameKind.local) (hi : (relS s scope).names.lookup (Str.ofString "int") = some NameKind.globalImplicit)
    (g1 : scope.names.lookup (Str.ofString "list") = some NameKind.globalImplicit) (g2 : scope.names.lookup (Str.ofString "int") = some NameKind.globalImplicit) (g3 : scope.names.lookup (Str.ofString "len") = some NameKind.globalImplicit)
    (m1 : mg (Str.ofString "list") = none) (m2 : mg (Str.ofString "int") = none) (m3 : mg (Str.ofString "len") = none) :
    FnOkG P w K mg base (n + 1) f (PySem.W.fnOf name qual params [
      .Assign [.Name "_law_cells" p1] (.BinOp (.Call (.Name "list" p2) [.Subscript (.Name "_law_script" p3) (.Slice none (some (.Constant (.int 63) 0 p4)) none p5) p6] [] p7) .Add
        (.BinOp (.List [.Constant (.int 0) 0 p8] p9) .Mult (.Call (.Name "int" p10) [.Compare (.Call (.Name "len" p11) [.Name "_law_script" p12] [] p13) [.Eq] [.Constant (.int 0) 0 p14] p15] [] p16) p17) p18) p19,
      .Return (some (.List [.Name "_law_cells" p20, .Constant (.int 0) 0 p21, .ListComp (.BinOp (.Name "_law_cell" p22) .Mult (.Call (.Name "int" p23) [.Compare (.Name "_law_cell" p24) [.GtE] [.BinOp (.Constant (.int 10) 0 p25) .Pow (.Constant (.int 18) 0 p26) p27] p28] [] p29) p30)
        [⟨.Name "_law_cell" p31, .Name "_law_cells" p32, [], 0⟩] s p33] p34)) p35] scope dV kV doc pm an cdv ct) ["_law_script"] (spI K) := by
  refine fn_ofG lk hcd S (fun vs H Q E ⟨W, b, a, ns, _, _, e, _⟩ => by rw [e]; rfl) fun A outer s1 H vs Q E hr hgd hsp => ?_
  obtain ⟨t, k1, k2⟩ := draws_body (X := cxOf (L2.CX P w) P w K mg base drawsN qual scope f cdv A outer s1 H E) (s := s) (p36 := p1) rfl h0 h1 hb hs hi g1 g2 g3 m1 m2 m3 rfl
  exact ⟨t, k1, k2 { nx := fun _ H' => Q .non H', rt := Q } H vs E hsp⟩
end Mp
namespace Mp
open PySem PySem.Spec PyProof.Rows L2
open Mp.T (Wc)
/-- the promise of the law: it answers True -/
def spL (K : PySem.W.Frag) : Sp := fun vs H Q _ => ∃ (a : Addr) (ns : List Int), vs = [.ref a] ∧ SqL K H a (ns.map V.int) ∧ ns.length ≤ 63 ∧ (∀ x ∈ ns, x.natAbs < 2 ^ 1100000) ∧ ∀ H', Q (.bl true) H'
theorem ER.uns {K : PySem.W.Frag} {H0 H : Hp} {W : Wd} {σ : L2.St} {n : Nat} (h : σ.length = n) : ER K H0 W σ H (List.replicate n Slot.un) := by
  refine ⟨by rw [List.length_replicate]; exact h, fun _ => [], fun i => ?_, fun i a ha => (by cases ha), fun _ => .nil, fun i j a ha => (by cases ha)⟩
  rw [at_get, List.getElem?_replicate]
  split <;> exact .un
theorem law_den {P : Program} {w : World} {K : PySem.W.Frag} {mg : Str → Option Value} {base : Heap} {n k : Nat} {f : Addr} {name qual : Str} {params : Arguments} {p1 p2 p3 p4 p5 : Pos} {rest : List Stmt} {scope : Scope} {dV kV doc pm cdv ct oc : Value} {an od : Option Addr}
    {osl : Array (Option Value)} {xr : Wd → Hp → Ex → Value → Option Addr → Prop} {C : Ctx} {c : Ck} {rs : MSs} {fa : Addr} {fd : FuncData} (hot : c.hot = false) (GO : GOk ⟨P, w, K, mg, base, n, xr, C, none⟩ c)
    (hm : mg (Str.ofString "_law_draws") = some (.ref fa)) (hk : PySem.W.keepIn K (.ref fa) = true) (hbd : L2.Binds K fd ["_law_script"] []) (F : FnOkG P w K mg base n fa fd ["_law_script"] (spI K))
    (lk : K.lookup f = some ⟨oc, od, .func (PySem.W.fnOf name qual params (.Assign [.Name "_law_drawn" p1] (.Call (.Name "_law_draws" p2) [.Name "_law_script" p3] [] p4) p5 :: rest) scope dV kV doc pm an cdv ct), osl⟩)
    (hcd : PySem.W.codeIn K cdv qual = true) (S : FnScope c.N ["_law_script"] scope)
    (n0 : c.N[0]? = some (Str.ofString "_law_script")) (nk : c.N[k]? = some (Str.ofString "_law_drawn")) (l0 : scope.names.lookup (Str.ofString "_law_script") = some NameKind.local) (lkk : scope.names.lookup (Str.ofString "_law_drawn") = some NameKind.local ∨ scope.names.lookup (Str.ofString "_law_drawn") = some NameKind.cell)
    (gd : scope.names.lookup (Str.ofString "_law_draws") = some NameKind.globalImplicit) (hc : chkSs c scope rs rest = true)
    (hden : Wc (fun _ p => p.1 = Fl.rt (.d (.bool true))) (fun _ _ => False) BIG (denSs C rs ((List.replicate c.N.length Slot.un).set k (.v .rng)))) :
    FnOkG P w K mg base (n + 1) f (PySem.W.fnOf name qual params (.Assign [.Name "_law_drawn" p1] (.Call (.Name "_law_draws" p2) [.Name "_law_script" p3] [] p4) p5 :: rest) scope dV kV doc pm an cdv ct) ["_law_script"] (spL K) := by
  refine fn_ofG lk hcd S (fun vs H Q E ⟨a, ns, e, _⟩ => by rw [e]; rfl) fun A outer s H vs Q E hr hgd hsp => ?_
  obtain ⟨a, ns, rfl, ha, hl, hb, hQ⟩ := hsp
  have d : XD ⟨P, w, K, mg, base, n, xr, C, none⟩ c scope (cxOf (L2.CX P w) P w K mg base c.N qual scope f cdv A outer s H E) ⟨K, ⟨fun _ => none, none, none⟩, H, xr, fun cls d _ H' => E cls d H'⟩ :=
    ⟨⟨rfl, rfl, rfl, rfl, rfl, rfl, S.nd, rfl, fun _ => rfl, hgd, fun _ => hr, un_of hr, fun _ => rfl, fun z => Bool.noConfusion (hot.symm.trans z), L2H.roomH_of hr⟩, S.kind, fun _ => rfl, passes_of rfl, takes_of rfl rfl rfl rfl, rfl, ⟨rfl, rfl⟩, rfl, rfl⟩
  have S0 : SR K ⟨fun _ => none, none, none⟩ BIG H := ⟨fun _ _ e => (by cases e), fun _ e => (by cases e)⟩
  refine ⟨_, pss_cons (lkk.elim (fun lkk => ps_set S.nd nk (.inl lkk) (pe_callG F (d.o.room hot) d.o.gd gd hm hk hbd d.tk (pa_cons (pe_var n0 (.inl l0) (by decide +kernel) (by decide +kernel)) pa_nil rfl) (by decide +kernel) rfl rfl) rfl (.inr lkk)) fun lkk => ps_set S.nd nk (.inr lkk) (pe_callG F (d.o.room hot) d.o.gd gd hm hk hbd d.tk (pa_cons (pe_var n0 (.inl l0) (by decide +kernel) (by decide +kernel)) pa_nil rfl) (by decide +kernel) rfl rfl) rfl (.inl rfl)) (sSs rs GO d hc), ?_⟩
  have e0 : (start c.N [V.ref a])[0]? = some (some (V.ref a)) := rfl
  have hlen : (start c.N [V.ref a]).length = c.N.length := by
    have : 0 < c.N.length := (List.getElem?_eq_some_iff.mp n0).1
    unfold L2.start
    simp
    omega
  refine ⟨.ref a, e0, ⟨fun _ => none, none, none⟩, BIG, a, ns, S0, rfl, rfl, ha, hl, hb, Nat.le_refl _, fun r W' H' hg X' S' => ?_⟩
  refine ⟨W', BIG, _, S', X', (ER.uns (K := K) (H0 := H) (W := W') (H := H') hlen).putV' (i := k) (.rng hg), ?_⟩
  refine T.Wc.mono (fun b1 p hp => ?_) (fun _ _ z => z.elim) _ _ hden
  obtain ⟨fl, e⟩ := p
  have hp : fl = Fl.rt (.d (.bool true)) := hp
  subst hp
  intro W2 H2 u X2 S2 q
  cases q with
  | d q =>
    cases q
    exact hQ H2
end Mp
namespace Mp
open PySem PySem.Spec PyProof.Rows L2
theorem bits_lt {k : Int} (h : Builtin.Int.intBits k ≤ 1048576) : k.natAbs < 2 ^ 1100000 := by
  have h1 : k.natAbs < 2 ^ Builtin.Int.intBits k := by
    unfold Builtin.Int.intBits
    split
    · rename_i z
      first
        | (rw [z]; exact Nat.one_pos)
        | (simp at z; omega)
    · exact Nat.lt_log2_self
  exact Nat.lt_of_lt_of_le h1 (Nat.pow_le_pow_right (by omega) (by omega))
theorem walk_ofG {l : PySem.W.OpenLaw} {n k : Nat} {q : Program} {loose : List Str} {XP : (Str → Option Value) → Heap → Prop} {YP : World → Heap → Prop} {d : DefRec} {K : Params → PySem.W.Frag} {x : Str}
    (hn : l.most = some n) (hn2 : n ≤ 63) (hdf : d.params.defaults = []) (hr : Room k callerA)
    (hY : ∀ (w : World) (h : Heap), YP w h → (K w.params).In h)
    (F : ∀ (w : World) (mg : Str → Option Value) (fa : Addr) (h : Heap), (K w.params).In h → h.Ns mainGlobals mg → mg d.name = some (.ref fa) →
      ∃ fd : FuncData, (∀ (s : Shared) (u : Value), BindsTo s fd ⟨[u], []⟩ [(x, u)]) ∧
        ∀ base : Heap, (K w.params).In base → base.Ns mainGlobals mg → FnOkG l.prog w (K w.params) mg base k fa fd [x] (spL (K w.params))) :
    PySem.W.WalkO q loose XP YP l.row.toRowW d [] (fun f vs => PySem.call f vs) := by
  refine Att.attach_callB hn hdf fun w s₀ s₁ mg mb fa o pm cd doc a vs ns G Y ho hd hcd hmg hobj hints hlen hbits hg => ?_
  have KX := hY w _ Y
  obtain ⟨fd, hb, hF⟩ := F w mg fa _ KX G.T.g hmg
  exact law_callG KX G.T.g G.T.b G.T.builtins G.T.nolimit hg hobj hints (Nat.le_trans hlen (Nat.le_trans hn2 (by rw [sizeLine_eq]; omega))) hr hF hb fun H hO hS => ⟨a, ns, rfl, hS, Nat.le_trans hlen hn2, fun z hz => bits_lt (hbits z hz), fun _ => rfl⟩
end Mp
namespace Mp
open PySem Mp.T
theorem few_nox {α : Type} : ∀ (x : T α) {c : Nat}, Few c x → Few c (nox x) := by
  intro x
  induction x with
  | ret a => exact fun _ => trivial
  | exc e => exact fun _ => trivial
  | stuck => exact fun _ => trivial
  | draw m k ih => exact fun ⟨h1, h2⟩ => ⟨h1, fun n => ih n (h2 n)⟩
theorem few_mapT {α β : Type} {f : α → T β} {c : Nat} (h : ∀ x, Few c (f x)) : ∀ xs : List α, Few (xs.length * c) (mapT f xs)
  | [] => trivial
  | x :: xs => by
    rw [mapT, List.length_cons, Nat.succ_mul, Nat.add_comm]
    refine Few.bind _ (h x) fun y => ?_
    exact (Few.bind (d := 0) _ (few_mapT h xs) fun ys => trivial)
theorem few_filT {α β : Type} {f : α → T (Option β)} {c : Nat} (h : ∀ x, Few c (f x)) : ∀ xs : List α, Few (xs.length * c) (filT f xs)
  | [] => trivial
  | x :: xs => by
    rw [filT, List.length_cons, Nat.succ_mul, Nat.add_comm]
    refine Few.bind _ (h x) fun y => ?_
    exact (Few.bind (d := 0) _ (few_filT h xs) fun ys => trivial)
theorem few_appT {α β : Type} {f : α → T (List β)} {c : Nat} (h : ∀ x, Few c (f x)) : ∀ xs : List α, Few (xs.length * c) (appT f xs)
  | [] => trivial
  | x :: xs => by
    rw [appT, List.length_cons, Nat.succ_mul, Nat.add_comm]
    refine Few.bind _ (h x) fun y => ?_
    exact (Few.bind (d := 0) _ (few_appT h xs) fun ys => trivial)
theorem few_forG {body : PyData → Ev → T (Fl × Ev)} {c : Nat} (h : ∀ x env, Few c (body x env)) : ∀ (xs : List PyData) (env : Ev), Few (xs.length * c) (forG body xs env)
  | [], env => trivial
  | x :: xs, env => by
    rw [forG, List.length_cons, Nat.succ_mul, Nat.add_comm]
    refine Few.bind _ (h x env) fun p => ?_
    obtain ⟨f, e⟩ := p
    cases f with
    | nx => exact few_forG h xs e
    | ct => exact few_forG h xs e
    | bk => trivial
    | rt v => trivial
theorem few_whlG {c : Ev → T Bool} {body : Ev → T (Fl × Ev)} {a b : Nat} (hc : ∀ env, Few a (c env)) (h : ∀ env, Few b (body env)) : ∀ (n : Nat) (env : Ev), Few (n * (a + b)) (whlG c body n env)
  | 0, env => trivial
  | n + 1, env => by
    rw [whlG, Nat.succ_mul, Nat.add_comm, Nat.add_assoc]
    refine Few.bind _ (hc env) fun t => ?_
    cases t with
    | false => trivial
    | true =>
      refine Few.bind _ (h env) fun p => ?_
      obtain ⟨f, e⟩ := p
      cases f with
      | nx => exact few_whlG hc h n e
      | ct => exact few_whlG hc h n e
      | bk => trivial
      | rt v => trivial
end Mp
namespace Mp
open PySem Mp.T
section
variable {α β : Type}
theorem Few.l {f : α → T β} {x : T α} {c : Nat} (h : Few c x) (k : ∀ a, Few 0 (f a)) : Few c (x >>= f) := Few.bind (d := 0) x h k
theorem Few.r {f : α → T β} {x : T α} {d : Nat} (h : Few 0 x) (k : ∀ a, Few d (f a)) : Few d (x >>= f) := by
  have := Few.bind x h k
  rwa [Nat.zero_add] at this
theorem few_ret {a : α} {c : Nat} : Few c (T.ret a) := trivial
theorem few_need {p : Prop} [Decidable p] : Few 0 (need p) := by unfold need; split <;> trivial
theorem few_opt {o : Option α} : Few 0 (opt o) := by cases o <;> trivial
theorem few_asD (v : PV) : Few 0 (asD v) := by cases v <;> trivial
theorem few_asInt (v : PyData) : Few 0 (asInt v) := by cases v <;> trivial
theorem few_asBool (v : PyData) : Few 0 (asBool v) := by cases v <;> trivial
theorem few_asSeq (v : PyData) : Few 0 (asSeq v) := by cases v <;> trivial
theorem few_asTup (v : PyData) : Few 0 (asTup v) := by cases v <;> trivial
theorem few_asList (v : PyData) : Few 0 (asList v) := by cases v <;> trivial
theorem few_asListD (v : PyData) : Few 0 (asListD v) := by cases v <;> trivial
theorem few_enumK (v : PyData) : Few 0 (enumK v) := by cases v <;> trivial
theorem few_zipK (v w : PyData) : Few 0 (zipK v w) := by cases v <;> cases w <;> trivial
theorem few_sortD (v : List PyData) : Few 0 (sortD v) := by unfold sortD; split <;> trivial
theorem few_reprD (v : PyData) : Few 0 (reprD v) := Few.r few_need fun _ => trivial
theorem few_rangeD (a b : Int) : Few 0 (rangeD a b) := Few.r few_need fun _ => trivial
theorem few_guardL (g : Bool) (xs : List PyData) : Few 0 (guardL g xs) := by
  unfold guardL
  split
  · exact few_need
  · trivial
theorem few_sliceD (a b : Option Int) (x : PyData) : Few 0 (sliceD a b x) := by cases x <;> trivial
theorem few_seqAt (xs : List PyData) (i : Int) : Few 0 (seqAt xs i) := by
  unfold seqAt
  split
  · split <;> trivial
  · trivial
theorem few_eqD (a b : PyData) : Few 0 (eqD a b) := by
  unfold eqD
  split
  · trivial
  · exact Few.r few_need fun _ => trivial
theorem few_inD (a : PyData) (b : List PyData) : Few 0 (inD a b) := Few.r few_need fun _ => trivial
theorem few_indexD (a : PyData) (b : List PyData) : Few 0 (indexD a b) := Few.r few_need fun _ => few_opt
theorem few_countD (a : PyData) (b : List PyData) : Few 0 (countD a b) := Few.r few_need fun _ => trivial
theorem few_ltD (a b : PyData) : Few 0 (ltD a b) := by
  unfold ltD
  split
  · trivial
  · exact Few.r few_opt fun _ => Few.r few_opt fun _ => trivial
  · trivial
theorem few_leD (a b : PyData) : Few 0 (leD a b) := by
  unfold leD
  split <;> trivial
theorem few_o1 (op : O1) (x : PyData) : Few 0 (o1 op x) := by
  unfold o1
  split <;> first
    | exact trivial
    | exact few_reprD _
    | exact Few.r (few_sortD _) fun _ => trivial
    | exact Few.r few_opt fun _ => Few.r few_need fun _ => trivial
    | exact Few.r few_opt fun _ => trivial
theorem few_o2 (op : O2) (x y : PyData) : Few 0 (o2 op x y) := by
  unfold o2
  split <;> first
    | exact trivial
    | exact few_seqAt _ _
    | exact Few.r few_need fun _ => trivial
    | exact Few.r (few_eqD _ _) fun _ => trivial
    | exact Few.r (few_ltD _ _) fun _ => trivial
    | exact Few.r (few_leD _ _) fun _ => trivial
    | exact Few.r (few_inD _ _) fun _ => trivial
    | exact Few.r (few_countD _ _) fun _ => trivial
    | exact Few.r (few_indexD _ _) fun _ => trivial
theorem few_asgT (tg : MT) (x : PyData) (env : Ev) : Few 0 (asgT tg x env) := by
  cases tg with
  | nm i => trivial
  | tp is => exact Few.r (few_asTup _) fun _ => Few.r few_need fun _ => trivial
theorem few_asDs : ∀ vs : List PV, Few 0 (asDs vs)
  | [] => trivial
  | x :: xs => Few.r (few_asD x) fun _ => Few.r (few_asDs xs) fun _ => trivial
theorem few_argsF (fd : FD) (vs : List PV) : Few 0 (argsF fd vs) := by
  unfold argsF
  split
  · exact Few.r few_need fun _ => Few.r (few_asDs _) fun _ => Few.r few_need fun _ => trivial
  · exact Few.r few_need fun _ => trivial
theorem few_ownAt (env : Ev) (i : Nat) : Few 0 (ownAt env i) := by unfold ownAt; split <;> trivial
theorem few_own2At (env : Ev) (i : Nat) : Few 0 (own2At env i) := by unfold own2At; split <;> trivial
theorem few_parSet : ∀ (is : List (Bool × Nat)) (vs : List PV) (env : Ev), Few 0 (parSet is vs env)
  | [], [], env => trivial
  | (true, i) :: is, v :: vs, env => Few.r (Few.r (few_asD _) few_asList) fun _ => few_parSet is vs _
  | (false, i) :: is, v :: vs, env => few_parSet is vs _
  | [], _ :: _, env => trivial
  | (true, i) :: is, [], env => trivial
  | (false, i) :: is, [], env => trivial
theorem few_tryT {h : Ex → Option (T α)} {d : Nat} (k : ∀ e t, h e = some t → Few d t) : ∀ (x : T α) {c : Nat}, Few c x → Few (c + d) (tryT h x) := by
  intro x
  induction x with
  | ret a => exact fun _ => trivial
  | exc e =>
    intro c _
    rw [tryT]
    cases hh : h e with
    | none => trivial
    | some t => exact Few.mono _ (by omega) (k e t hh)
  | stuck => exact fun _ => trivial
  | draw m f ih =>
    intro c ⟨h1, h2⟩
    refine ⟨by omega, fun n => ?_⟩
    have e : c + d - 1 = (c - 1) + d := by omega
    rw [e]
    exact ih n (h2 n)
theorem few_needB {p : Prop} [Decidable p] {x : T α} {c : Nat} (h : p → Few c x) : Few c (need p >>= fun _ => x) := by
  unfold need
  split
  · rename_i q
    exact h q
  · trivial
/-- a guarded walk -/
theorem few_g {g : Bool} {xs : List PyData} {x : T α} {c : Nat} (h : g = true ∨ c = 0) (k : Few (xs.length * c) x) : Few (if g then SL * c else 0) (guardL g xs >>= fun _ => x) := by
  unfold guardL
  cases g with
  | false =>
    rcases h with h | h
    · cases h
    · subst h
      exact k
  | true =>
    simp only [if_true]
    unfold need
    split
    · rename_i hl
      exact Few.mono _ (Nat.mul_le_mul_right c hl) k
    · trivial
end
mutual
/-- how many draws at most -/
def wE (B : Nat → Nat) : ME → Nat
  | .var _ => 0
  | .rd _ => 0
  | .gl _ => 0
  | .k _ => 0
  | .dict0 => 0
  | .brw e => wE B e
  | .tup es => wEs B es
  | .lst es => wEs B es
  | .o1 _ a => wE B a
  | .o2 _ a b => wE B a + wE B b
  | .mth _ a b => wE B a + wE B b
  | .slL a b => wE B a + wE B b
  | .slU a b => wE B a + wE B b
  | .slLU a b c => wE B a + (wE B b + wE B c)
  | .and a b => wE B a + wE B b
  | .or a b => wE B a + wE B b
  | .ife c a b => wE B c + (wE B a + wE B b)
  | .chain _ _ a b c => wE B a + (wE B b + wE B c)
  | .call f as => wEs B as + B f
  | .draw _ m => wE B m + 1
  | .isi _ a => wE B a
  | .lc g _ it e => wI B it + (if g then SL * wE B e else 0)
  | .lcIf g _ it c e => wI B it + (if g then SL * (wE B c + wE B e) else 0)
  | .lc2 _ _ i1 _ i2 e => wI B i1 + 4096 * (wI B i2 + 4096 * wE B e)
  | .fld a _ => wE B a
  | .isx _ a => wE B a
  | .alone a => wE B a
  | .ofI _ it => wI B it
def wEs (B : Nat → Nat) : MEs → Nat
  | .nil => 0
  | .cons e r => wE B e + wEs B r
  | .star e r => wE B e + wEs B r
def wI (B : Nat → Nat) : MI → Nat
  | .seq e => wE B e
  | .range a b => wE B a + wE B b
  | .range1 b => wE B b
  | .range3 _ _ _ => 0
  | .enum e => wE B e
  | .zip a b => wE B a + wE B b
end
mutual
/-- walks that do not say so do not draw -/
def kE (B : Nat → Nat) : ME → Bool
  | .var _ => true
  | .rd _ => true
  | .gl _ => true
  | .k _ => true
  | .dict0 => true
  | .brw e => kE B e
  | .tup es => kEs B es
  | .lst es => kEs B es
  | .o1 _ a => kE B a
  | .o2 _ a b => kE B a && kE B b
  | .mth _ a b => kE B a && kE B b
  | .slL a b => kE B a && kE B b
  | .slU a b => kE B a && kE B b
  | .slLU a b c => kE B a && (kE B b && kE B c)
  | .and a b => kE B a && kE B b
  | .or a b => kE B a && kE B b
  | .ife c a b => kE B c && (kE B a && kE B b)
  | .chain _ _ a b c => kE B a && (kE B b && kE B c)
  | .call f as => kEs B as
  | .draw _ m => kE B m
  | .isi _ a => kE B a
  | .lc g _ it e => kI B it && (kE B e && (g || wE B e == 0))
  | .lcIf g _ it c e => kI B it && (kE B c && (kE B e && (g || wE B c + wE B e == 0)))
  | .lc2 _ _ i1 _ i2 e => kI B i1 && (kI B i2 && kE B e)
  | .fld a _ => kE B a
  | .isx _ a => kE B a
  | .alone a => kE B a
  | .ofI _ it => kI B it
def kEs (B : Nat → Nat) : MEs → Bool
  | .nil => true
  | .cons e r => kE B e && kEs B r
  | .star e r => kE B e && kEs B r
def kI (B : Nat → Nat) : MI → Bool
  | .seq e => kE B e
  | .range a b => kE B a && kE B b
  | .range1 b => kE B b
  | .range3 _ _ _ => true
  | .enum e => kE B e
  | .zip a b => kE B a && kE B b
end
mutual
def wS (B : Nat → Nat) : MS → Nat
  | .asg _ e => wE B e
  | .asgO _ e => wE B e
  | .asgO2 _ g _ it e => wI B it + (if g then SL * wE B e else 0)
  | .mov _ _ => 0
  | .unpk _ e => wE B e
  | .par _ es => wEs B es
  | .frz _ => 0
  | .app _ e => wE B e
  | .ext _ e => wE B e
  | .popTo _ _ e => wE B e
  | .popLast _ _ => 0
  | .appPop _ _ e => wE B e
  | .setI _ i e => wE B e + wE B i
  | .setII _ i j e => wE B e + (wE B i + wE B j)
  | .aug i _ e => wE B e
  | .ex e => wE B e
  | .ret e => wE B e
  | .retN => 0
  | .ite c a b => wE B c + (wSs B a + wSs B b)
  | .for g _ it b => wI B it + (if g then SL * wSs B b else 0)
  | .whl c b => SL * (wE B c + wSs B b)
  | .brk => 0
  | .cont => 0
  | .pass => 0
  | .never => 0
  | .rais _ es => wEs B es
  | .tryx b hs => wS B b + wH B hs
def wSs (B : Nat → Nat) : MSs → Nat
  | .nil => 0
  | .cons s r => wS B s + wSs B r
def wH (B : Nat → Nat) : MHs → Nat
  | .nil => 0
  | .cons _ _ s r => wSs B s + wH B r
end
mutual
def kS (B : Nat → Nat) : MS → Bool
  | .asg _ e => kE B e
  | .asgO _ e => kE B e
  | .asgO2 _ g _ it e => kI B it && (kE B e && (g || wE B e == 0))
  | .mov _ _ => true
  | .unpk _ e => kE B e
  | .par _ es => kEs B es
  | .frz _ => true
  | .app _ e => kE B e
  | .ext _ e => kE B e
  | .popTo _ _ e => kE B e
  | .popLast _ _ => true
  | .appPop _ _ e => kE B e
  | .setI _ i e => kE B e && kE B i
  | .setII _ i j e => kE B e && (kE B i && kE B j)
  | .aug i _ e => kE B e
  | .ex e => kE B e
  | .ret e => kE B e
  | .retN => true
  | .ite c a b => kE B c && (kSs B a && kSs B b)
  | .for g _ it b => kI B it && (kSs B b && (g || wSs B b == 0))
  | .whl c b => kE B c && kSs B b
  | .brk => true
  | .cont => true
  | .pass => true
  | .never => true
  | .rais _ es => kEs B es
  | .tryx b hs => kS B b && kH B hs
def kSs (B : Nat → Nat) : MSs → Bool
  | .nil => true
  | .cons s r => kS B s && kSs B r
def kH (B : Nat → Nat) : MHs → Bool
  | .nil => true
  | .cons _ _ s r => kSs B s && kH B r
end
theorem few_orL {a b : Nat} {α : Type} {x : T α} (h : Few a x) : Few (a + b) x := Few.mono _ (Nat.le_add_right _ _) h
theorem few_orR {a b : Nat} {α : Type} {x : T α} (h : Few b x) : Few (a + b) x := Few.mono _ (Nat.le_add_left _ _) h
section
variable {C : Ctx} {B : Nat → Nat} (hB : ∀ f vs, Few (B f) (C.call f vs))
include hB
mutual
theorem few_E : ∀ (e : ME) (env : Ev), kE B e = true → Few (wE B e) (denE C e env)
  | .var _, env, h => by
    simp only [denE]
    split <;> trivial
  | .rd _, env, h => by
    simp only [denE]
    split <;> trivial
  | .gl _, env, h => trivial
  | .k _, env, h => trivial
  | .dict0, env, h => trivial
  | .brw e, env, h => by
    simp only [denE, wE, kE] at h ⊢
    exact Few.l (few_nox _ (few_E e _ h)) fun _ => Few.r (few_asD _) fun _ => Few.r few_need fun _ => trivial
  | .tup es, env, h => by
    simp only [denE, wE, kE] at h ⊢
    exact Few.l (few_Es es _ h) fun _ => Few.r few_need fun _ => trivial
  | .lst es, env, h => by
    simp only [denE, wE, kE] at h ⊢
    exact Few.l (few_Es es _ h) fun _ => Few.r few_need fun _ => trivial
  | .o1 op a, env, h => by
    simp only [denE, wE, kE] at h ⊢
    exact Few.l (Few.l (few_E a _ h) few_asD) fun _ => Few.r (few_o1 _ _) fun _ => trivial
  | .o2 op a b, env, h => by
    simp only [denE, wE, kE, Bool.and_eq_true] at h ⊢
    exact Few.bind _ (Few.l (few_E a _ h.1) few_asD) fun _ => Few.l (Few.l (few_E b _ h.2) few_asD) fun _ => Few.r (few_o2 _ _ _) fun _ => trivial
  | .mth op a b, env, h => by
    simp only [denE, wE, kE, Bool.and_eq_true] at h ⊢
    exact Few.bind _ (Few.l (few_E a _ h.1) few_asD) fun _ => Few.r (few_asListD _) fun _ => Few.l (Few.l (few_E b _ h.2) few_asD) fun _ => Few.r (few_o2 _ _ _) fun _ => trivial
  | .slL a b, env, h => by
    simp only [denE, wE, kE, Bool.and_eq_true] at h ⊢
    exact Few.bind _ (Few.l (few_E a _ h.1) few_asD) fun _ => Few.l (Few.l (Few.l (few_E b _ h.2) few_asD) few_asInt) fun _ => Few.r (few_sliceD _ _ _) fun _ => trivial
  | .slU a b, env, h => by
    simp only [denE, wE, kE, Bool.and_eq_true] at h ⊢
    exact Few.bind _ (Few.l (few_E a _ h.1) few_asD) fun _ => Few.l (Few.l (Few.l (few_E b _ h.2) few_asD) few_asInt) fun _ => Few.r (few_sliceD _ _ _) fun _ => trivial
  | .slLU a b c, env, h => by
    simp only [denE, wE, kE, Bool.and_eq_true] at h ⊢
    exact Few.bind _ (Few.l (few_E a _ h.1) few_asD) fun _ => Few.bind _ (Few.l (Few.l (few_E b _ h.2.1) few_asD) few_asInt) fun _ => Few.l (Few.l (Few.l (few_E c _ h.2.2) few_asD) few_asInt) fun _ => Few.r (few_sliceD _ _ _) fun _ => trivial
  | .and a b, env, h => by
    simp only [denE, wE, kE, Bool.and_eq_true] at h ⊢
    refine Few.bind _ (Few.l (Few.l (few_E a _ h.1) few_asD) few_asBool) fun p => ?_
    cases p
    · trivial
    · exact few_E b _ h.2
  | .or a b, env, h => by
    simp only [denE, wE, kE, Bool.and_eq_true] at h ⊢
    refine Few.bind _ (Few.l (Few.l (few_E a _ h.1) few_asD) few_asBool) fun p => ?_
    cases p
    · exact few_E b _ h.2
    · trivial
  | .ife c a b, env, h => by
    simp only [denE, wE, kE, Bool.and_eq_true] at h ⊢
    refine Few.bind _ (Few.l (Few.l (few_E c _ h.1) few_asD) few_asBool) fun p => ?_
    cases p
    · exact few_orR (few_E b _ h.2.2)
    · exact few_orL (few_E a _ h.2.1)
  | .chain p q a b c, env, h => by
    simp only [denE, wE, kE, Bool.and_eq_true] at h ⊢
    refine Few.bind _ (Few.l (few_E a _ h.1) few_asD) fun _ => Few.bind _ (Few.l (few_E b _ h.2.1) few_asD) fun _ => Few.r (Few.r (few_o2 _ _ _) few_asBool) fun r => ?_
    cases r
    · trivial
    · exact Few.l (Few.l (few_E c _ h.2.2) few_asD) fun _ => Few.r (few_o2 _ _ _) fun _ => trivial
  | .call f as, env, h => by
    simp only [denE, wE, kE] at h ⊢
    exact Few.bind _ (few_As as _ h) fun vs => hB f vs
  | .draw g m, env, h => by
    simp only [denE, wE, kE] at h ⊢
    split
    · exact Few.bind _ (Few.l (Few.l (few_E m _ h) few_asD) few_asInt) fun _ => Few.r few_need fun _ => ⟨Nat.one_pos, fun _ => trivial⟩
    · trivial
  | .isi _ a, env, h => by
    simp only [denE, wE, kE] at h ⊢
    exact Few.l (Few.l (few_E a _ h) few_asD) fun _ => trivial
  | .lc g tg it e, env, h => by
    simp only [denE, wE, kE, Bool.and_eq_true, Bool.or_eq_true, beq_iff_eq] at h ⊢
    refine Few.bind _ (few_I it _ h.1) fun xs => few_g h.2.2 ?_
    exact Few.l (few_mapT (fun x => few_nox _ (Few.r (few_asgT _ _ _) fun _ => Few.l (few_E e _ h.2.1) few_asD)) xs) fun _ => trivial
  | .lcIf g tg it c e, env, h => by
    simp only [denE, wE, kE, Bool.and_eq_true, Bool.or_eq_true, beq_iff_eq] at h ⊢
    refine Few.bind _ (few_I it _ h.1) fun xs => few_g h.2.2.2 ?_
    refine Few.l (few_filT (fun x => few_nox _ (Few.r (few_asgT _ _ _) fun _ => Few.bind _ (Few.l (Few.l (few_E c _ h.2.1) few_asD) few_asBool) fun p => ?_)) xs) fun _ => trivial
    cases p
    · trivial
    · exact Few.l (Few.l (few_E e _ h.2.2.1) few_asD) fun _ => trivial
  | .lc2 g t1 i1 t2 i2 e, env, h => by
    simp only [denE, wE, kE, Bool.and_eq_true] at h ⊢
    refine Few.bind _ (few_I i1 _ h.1) fun xs => few_needB fun hl => ?_
    refine Few.l (Few.mono _ (Nat.mul_le_mul_right _ hl) (few_appT (fun x => few_nox _ (Few.r (few_asgT _ _ _) fun _ => Few.bind _ (few_I i2 _ h.2.1) fun ys => few_needB fun hl2 => ?_)) xs)) fun _ => trivial
    exact Few.mono _ (Nat.mul_le_mul_right _ hl2) (few_mapT (fun x => Few.r (few_asgT _ _ _) fun _ => Few.l (few_E e _ h.2.2) few_asD) ys)
  | .fld a f, env, h => by
    simp only [denE, wE, kE] at h ⊢
    refine Few.l (few_E a _ h) fun v => ?_
    split
    · exact Few.r few_opt fun _ => trivial
    · trivial
  | .isx ks a, env, h => by
    simp only [denE, wE, kE] at h ⊢
    refine Few.l (few_E a _ h) fun v => ?_
    split <;> trivial
  | .alone a, env, h => by
    simp only [denE, wE, kE] at h ⊢
    refine Few.l (few_E a _ h) fun v => ?_
    split <;> trivial
  | .ofI l it, env, h => by
    simp only [denE, wE, kE] at h ⊢
    exact Few.l (few_I it _ h) fun v => trivial
theorem few_Es : ∀ (es : MEs) (env : Ev), kEs B es = true → Few (wEs B es) (denEs C es env)
  | .nil, env, h => trivial
  | .cons e r, env, h => by
    simp only [denEs, wEs, kEs, Bool.and_eq_true] at h ⊢
    exact Few.bind _ (Few.l (few_E e _ h.1) few_asD) fun _ => Few.l (few_Es r _ h.2) fun _ => trivial
  | .star e r, env, h => by
    simp only [denEs, wEs, kEs, Bool.and_eq_true] at h ⊢
    exact Few.bind _ (Few.l (Few.l (few_E e _ h.1) few_asD) few_asSeq) fun _ => Few.l (few_Es r _ h.2) fun _ => trivial
theorem few_As : ∀ (es : MEs) (env : Ev), kEs B es = true → Few (wEs B es) (denAs C es env)
  | .nil, env, h => trivial
  | .cons e r, env, h => by
    simp only [denAs, wEs, kEs, Bool.and_eq_true] at h ⊢
    exact Few.bind _ (few_E e _ h.1) fun _ => Few.l (few_As r _ h.2) fun _ => trivial
  | .star e r, env, h => by
    simp only [denAs, wEs, kEs, Bool.and_eq_true] at h ⊢
    exact Few.bind _ (Few.l (Few.l (few_E e _ h.1) few_asD) few_asSeq) fun _ => Few.l (few_As r _ h.2) fun _ => trivial
theorem few_I : ∀ (it : MI) (env : Ev), kI B it = true → Few (wI B it) (denI C it env)
  | .seq e, env, h => by
    simp only [denI, wI, kI] at h ⊢
    exact Few.l (Few.l (few_E e _ h) few_asD) few_asSeq
  | .range a b, env, h => by
    simp only [denI, wI, kI, Bool.and_eq_true] at h ⊢
    exact Few.bind _ (Few.l (Few.l (few_E a _ h.1) few_asD) few_asInt) fun _ => Few.l (Few.l (Few.l (few_E b _ h.2) few_asD) few_asInt) fun _ => few_rangeD _ _
  | .range1 b, env, h => by
    simp only [denI, wI, kI] at h ⊢
    exact Few.l (Few.l (Few.l (few_E b _ h) few_asD) few_asInt) fun _ => few_rangeD _ _
  | .range3 _ _ _, env, h => trivial
  | .enum e, env, h => by
    simp only [denI, wI, kI] at h ⊢
    exact Few.l (Few.l (Few.l (few_E e _ h) few_asD) few_enumK) fun _ => trivial
  | .zip a b, env, h => by
    simp only [denI, wI, kI, Bool.and_eq_true] at h ⊢
    exact Few.bind _ (Few.l (few_E a _ h.1) few_asD) fun _ => Few.l (Few.l (few_E b _ h.2) few_asD) fun _ => Few.r (few_zipK _ _) fun _ => trivial
end
mutual
theorem few_S : ∀ (s : MS) (env : Ev), kS B s = true → Few (wS B s) (denS C s env)
  | .asg i e, env, h => by
    simp only [denS, wS, kS] at h ⊢
    exact Few.l (few_E hB e _ h) fun _ => trivial
  | .asgO i e, env, h => by
    simp only [denS, wS, kS] at h ⊢
    exact Few.l (Few.l (Few.l (few_E hB e _ h) few_asD) few_asList) fun _ => trivial
  | .asgO2 i g tg it e, env, h => by
    simp only [denS, wS, kS, Bool.and_eq_true, Bool.or_eq_true, beq_iff_eq] at h ⊢
    refine Few.bind _ (few_I hB it _ h.1) fun xs => few_g h.2.2 ?_
    exact Few.l (few_mapT (fun x => few_nox _ (Few.r (few_asgT _ _ _) fun _ => Few.l (Few.l (few_E hB e _ h.2.1) few_asD) few_asList)) xs) fun _ => trivial
  | .mov i j, env, h => by
    simp only [denS, wS, kS] at h ⊢
    exact Few.l (few_ownAt _ _) fun _ => trivial
  | .unpk tg e, env, h => by
    simp only [denS, wS, kS] at h ⊢
    exact Few.l (Few.l (few_E hB e _ h) few_asD) fun _ => Few.r (few_asgT _ _ _) fun _ => trivial
  | .par is es, env, h => by
    simp only [denS, wS, kS] at h ⊢
    exact Few.l (few_As hB es _ h) fun _ => Few.r (few_parSet _ _ _) fun _ => trivial
  | .frz i, env, h => trivial
  | .app i e, env, h => by
    simp only [denS, wS, kS] at h ⊢
    exact Few.r (few_ownAt _ _) fun _ => Few.l (Few.l (few_E hB e _ h) few_asD) fun _ => Few.r few_need fun _ => trivial
  | .ext i e, env, h => by
    simp only [denS, wS, kS] at h ⊢
    exact Few.r (few_ownAt _ _) fun _ => Few.l (Few.l (Few.l (few_E hB e _ h) few_asD) few_asSeq) fun _ => Few.r few_need fun _ => trivial
  | .popTo i l e, env, h => by
    simp only [denS, wS, kS] at h ⊢
    exact Few.r (few_ownAt _ _) fun _ => Few.l (Few.l (Few.l (few_E hB e _ h) few_asD) few_asInt) fun _ => Few.r few_opt fun _ => Few.r few_opt fun _ => trivial
  | .popLast i l, env, h => by
    simp only [denS, wS, kS] at h ⊢
    exact Few.r (few_ownAt _ _) fun _ => Few.r few_opt fun _ => trivial
  | .appPop i l e, env, h => by
    simp only [denS, wS, kS] at h ⊢
    exact Few.r (few_ownAt _ _) fun _ => Few.r (few_ownAt _ _) fun _ => Few.l (Few.l (Few.l (few_E hB e _ h) few_asD) few_asInt) fun _ => Few.r few_opt fun _ => Few.r few_opt fun _ => Few.r few_need fun _ => trivial
  | .setI l i e, env, h => by
    simp only [denS, wS, kS, Bool.and_eq_true] at h ⊢
    exact Few.bind _ (Few.l (few_E hB e _ h.1) few_asD) fun _ => Few.r (few_ownAt _ _) fun _ => Few.l (Few.l (Few.l (few_E hB i _ h.2) few_asD) few_asInt) fun _ => Few.r few_opt fun _ => trivial
  | .setII l i j e, env, h => by
    simp only [denS, wS, kS, Bool.and_eq_true] at h ⊢
    exact Few.bind _ (Few.l (few_E hB e _ h.1) few_asD) fun _ => Few.r (few_own2At _ _) fun _ => Few.bind _ (Few.l (Few.l (few_E hB i _ h.2.1) few_asD) few_asInt) fun _ => Few.r few_opt fun _ => Few.r few_opt fun _ =>
      Few.l (Few.l (Few.l (few_E hB j _ h.2.2) few_asD) few_asInt) fun _ => Few.r few_opt fun _ => trivial
  | .aug i op e, env, h => by
    simp only [denS, wS, kS] at h ⊢
    exact Few.r (Few.r (Few.r (few_E hB (.var i) env rfl) few_asD) few_asInt) fun _ => Few.l (Few.l (Few.l (few_E hB e _ h) few_asD) few_asInt) fun _ => Few.r (few_o2 _ _ _) fun _ => trivial
  | .ex e, env, h => by
    simp only [denS, wS, kS] at h ⊢
    exact Few.l (few_E hB e _ h) fun _ => trivial
  | .ret e, env, h => by
    simp only [denS, wS, kS] at h ⊢
    exact Few.l (few_E hB e _ h) fun _ => trivial
  | .retN, env, h => trivial
  | .ite c a b, env, h => by
    simp only [denS, wS, kS, Bool.and_eq_true] at h ⊢
    refine Few.bind _ (Few.l (Few.l (few_E hB c _ h.1) few_asD) few_asBool) fun p => ?_
    cases p
    · exact few_orR (few_Ss b _ h.2.2)
    · exact few_orL (few_Ss a _ h.2.1)
  | .for g tg it b, env, h => by
    simp only [denS, wS, kS, Bool.and_eq_true, Bool.or_eq_true, beq_iff_eq] at h ⊢
    refine Few.bind _ (few_I hB it _ h.1) fun xs => few_g h.2.2 ?_
    exact few_forG (fun x env => Few.r (few_asgT _ _ _) fun _ => few_Ss b _ h.2.1) xs env
  | .whl c b, env, h => by
    simp only [denS, wS, kS, Bool.and_eq_true] at h ⊢
    exact few_whlG (fun env => Few.l (Few.l (few_E hB c _ h.1) few_asD) few_asBool) (fun env => few_Ss b _ h.2) _ _
  | .brk, env, h => trivial
  | .cont, env, h => trivial
  | .pass, env, h => trivial
  | .never, env, h => trivial
  | .rais c es, env, h => by
    simp only [denS, wS, kS] at h ⊢
    exact Few.l (few_Es hB es _ h) fun _ => Few.r few_need fun _ => trivial
  | .tryx b hs, env, h => by
    simp only [denS, wS, kS, Bool.and_eq_true] at h ⊢
    exact few_tryT (fun e t ht => few_H hs e env t h.2 ht) _ (few_S b _ h.1)
theorem few_Ss : ∀ (ss : MSs) (env : Ev), kSs B ss = true → Few (wSs B ss) (denSs C ss env)
  | .nil, env, h => trivial
  | .cons s r, env, h => by
    simp only [denSs, wSs, kSs, Bool.and_eq_true] at h ⊢
    refine Few.bind _ (few_S s env h.1) fun p => ?_
    obtain ⟨f, e⟩ := p
    cases f with
    | nx => exact few_Ss r e h.2
    | bk => trivial
    | ct => trivial
    | rt v => trivial
theorem few_H : ∀ (hs : MHs) (e : Ex) (env : Ev) (t : T (Fl × Ev)), kH B hs = true → denH C hs e env = some t → Few (wH B hs) t
  | .nil, e, env, t, h, ht => by
    rw [denH] at ht
    cases ht
  | .cons k i s r, e, env, t, h, ht => by
    simp only [wH, kH, Bool.and_eq_true] at h ⊢
    rw [denH] at ht
    split at ht
    · cases ht
      exact few_orL (Few.l (few_nox _ (few_Ss s _ h.1)) fun p => by
        obtain ⟨f, e2⟩ := p
        cases f with
        | rt v => cases v <;> trivial
        | _ => trivial)
    · exact few_orR (few_H r e env t h.2 ht)
end
end
/-- tables as lists -/
def tbL (l : List (Nat × Str × FD)) : Nat → Option FD := fun f => (l.find? fun d => d.1 == f).map fun d => d.2.2
def nmL (l : List (Nat × Str × FD)) : Nat → Option Str := fun f => (l.find? fun d => d.1 == f).map fun d => d.2.1
theorem few_tab {l : List (Nat × Str × FD)} {B : Nat → Nat} (h : (l.all fun d => kSs B d.2.2.body && decide (wSs B d.2.2.body ≤ B d.1)) = true) : ∀ f fd, tbL l f = some fd → kSs B fd.body = true ∧ wSs B fd.body ≤ B f := by
  intro f fd e
  unfold tbL at e
  cases q : l.find? (fun d => d.1 == f) with
  | none => rw [q] at e; cases e
  | some d =>
    rw [q] at e
    cases e
    have h1 := List.all_eq_true.mp h d (List.mem_of_find?_eq_some q)
    rw [Bool.and_eq_true, decide_eq_true_eq] at h1
    have h2 := List.find?_some q
    simp only [beq_iff_eq] at h2
    rw [← h2]
    exact h1
/-- the numbers of a table: each def's body draws at most as often as its number says -/
theorem few_callF {tb : Nat → Option FD} {sub : Nat → Nat → Bool} {B : Nat → Nat} (h : ∀ f fd, tb f = some fd → kSs B fd.body = true ∧ wSs B fd.body ≤ B f) : ∀ (n f : Nat) (vs : List PV), Few (B f) (callF tb sub n f vs)
  | 0, f, vs => trivial
  | n + 1, f, vs => by
    rw [callF]
    cases e : tb f with
    | none => trivial
    | some fd =>
      obtain ⟨h1, h2⟩ := h f fd e
      show Few (B f) (runF ⟨callF tb sub n, sub⟩ fd vs)
      unfold runF
      refine Few.r (few_argsF _ _) fun _ => Few.l (Few.mono _ h2 (few_Ss (C := ⟨callF tb sub n, sub⟩) (fun g us => few_callF h n g us) fd.body _ h1)) fun p => ?_
      obtain ⟨fl, e⟩ := p
      cases fl <;> trivial
theorem n_sc {a b c n : Nat} (h : a ≤ c * b) : n * a ≤ c * (n * b) := by
  rw [Nat.mul_left_comm]
  exact Nat.mul_le_mul_left n h
theorem g_sc {g : Bool} {a b c : Nat} (h : a ≤ c * b) : (if g = true then SL * a else 0) ≤ c * (if g = true then SL * b else 0) := by
  cases g
  · simp
  · simpa using n_sc (n := SL) h
mutual
theorem w_scE {c : Nat} (hc : 1 ≤ c) {B : Nat → Nat} : ∀ x : ME, wE (fun f => c * B f) x ≤ c * wE B x
  | .var _ => Nat.zero_le _
  | .rd _ => Nat.zero_le _
  | .gl _ => Nat.zero_le _
  | .k _ => Nat.zero_le _
  | .dict0 => Nat.zero_le _
  | .brw e => by
    have h0 := w_scE (B := B) hc e
    simp only [wE, Nat.mul_add]
    omega
  | .tup es => by
    have h0 := w_scEs (B := B) hc es
    simp only [wE, Nat.mul_add]
    omega
  | .lst es => by
    have h0 := w_scEs (B := B) hc es
    simp only [wE, Nat.mul_add]
    omega
  | .o1 _ a => by
    have h0 := w_scE (B := B) hc a
    simp only [wE, Nat.mul_add]
    omega
  | .o2 _ a b => by
    have h0 := w_scE (B := B) hc a
    have h1 := w_scE (B := B) hc b
    simp only [wE, Nat.mul_add]
    omega
  | .mth _ a b => by
    have h0 := w_scE (B := B) hc a
    have h1 := w_scE (B := B) hc b
    simp only [wE, Nat.mul_add]
    omega
  | .slL a b => by
    have h0 := w_scE (B := B) hc a
    have h1 := w_scE (B := B) hc b
    simp only [wE, Nat.mul_add]
    omega
  | .slU a b => by
    have h0 := w_scE (B := B) hc a
    have h1 := w_scE (B := B) hc b
    simp only [wE, Nat.mul_add]
    omega
  | .slLU a b d => by
    have h0 := w_scE (B := B) hc a
    have h1 := w_scE (B := B) hc b
    have h2 := w_scE (B := B) hc d
    simp only [wE, Nat.mul_add]
    omega
  | .and a b => by
    have h0 := w_scE (B := B) hc a
    have h1 := w_scE (B := B) hc b
    simp only [wE, Nat.mul_add]
    omega
  | .or a b => by
    have h0 := w_scE (B := B) hc a
    have h1 := w_scE (B := B) hc b
    simp only [wE, Nat.mul_add]
    omega
  | .ife d a b => by
    have h0 := w_scE (B := B) hc d
    have h1 := w_scE (B := B) hc a
    have h2 := w_scE (B := B) hc b
    simp only [wE, Nat.mul_add]
    omega
  | .chain _ _ a b d => by
    have h0 := w_scE (B := B) hc a
    have h1 := w_scE (B := B) hc b
    have h2 := w_scE (B := B) hc d
    simp only [wE, Nat.mul_add]
    omega
  | .call f as => by
    have h0 := w_scEs (B := B) hc as
    simp only [wE, Nat.mul_add]
    omega
  | .draw _ m => by
    have h0 := w_scE (B := B) hc m
    simp only [wE, Nat.mul_add]
    omega
  | .isi _ a => by
    have h0 := w_scE (B := B) hc a
    simp only [wE, Nat.mul_add]
    omega
  | .lc g _ it e => by
    have h1 := w_scI (B := B) hc it
    have h2 := g_sc (g := g) (w_scE (B := B) hc e)
    simp only [wE, Nat.mul_add c (wI B _)]
    omega
  | .lcIf g _ it d e => by
    have h1 := w_scI (B := B) hc it
    have h2 := g_sc (g := g) (Nat.le_trans (Nat.add_le_add (w_scE (B := B) hc d) (w_scE (B := B) hc e)) (Nat.le_of_eq (Nat.mul_add _ _ _).symm))
    simp only [wE, Nat.mul_add c (wI B _)]
    omega
  | .lc2 _ _ i1 _ i2 e => by
    have h1 := w_scI (B := B) hc i1
    have h2 := n_sc (n := 4096) (w_scE (B := B) hc e)
    have h3 := w_scI (B := B) hc i2
    have h4 := n_sc (n := 4096) (Nat.le_trans (Nat.add_le_add h3 h2) (Nat.le_of_eq (Nat.mul_add _ _ _).symm))
    simp only [wE, Nat.mul_add c (wI B i1)]
    omega
  | .fld a _ => by
    have h0 := w_scE (B := B) hc a
    simp only [wE, Nat.mul_add]
    omega
  | .isx _ a => by
    have h0 := w_scE (B := B) hc a
    simp only [wE, Nat.mul_add]
    omega
  | .alone a => by
    have h0 := w_scE (B := B) hc a
    simp only [wE, Nat.mul_add]
    omega
  | .ofI _ it => by
    have h0 := w_scI (B := B) hc it
    simp only [wE, Nat.mul_add]
    omega
theorem w_scEs {c : Nat} (hc : 1 ≤ c) {B : Nat → Nat} : ∀ x : MEs, wEs (fun f => c * B f) x ≤ c * wEs B x
  | .nil => Nat.zero_le _
  | .cons e r => by
    have h0 := w_scE (B := B) hc e
    have h1 := w_scEs (B := B) hc r
    simp only [wEs, Nat.mul_add]
    omega
  | .star e r => by
    have h0 := w_scE (B := B) hc e
    have h1 := w_scEs (B := B) hc r
    simp only [wEs, Nat.mul_add]
    omega
theorem w_scI {c : Nat} (hc : 1 ≤ c) {B : Nat → Nat} : ∀ x : MI, wI (fun f => c * B f) x ≤ c * wI B x
  | .seq e => by
    have h0 := w_scE (B := B) hc e
    simp only [wI, Nat.mul_add]
    omega
  | .range a b => by
    have h0 := w_scE (B := B) hc a
    have h1 := w_scE (B := B) hc b
    simp only [wI, Nat.mul_add]
    omega
  | .range1 b => by
    have h0 := w_scE (B := B) hc b
    simp only [wI, Nat.mul_add]
    omega
  | .range3 _ _ _ => Nat.zero_le _
  | .enum e => by
    have h0 := w_scE (B := B) hc e
    simp only [wI, Nat.mul_add]
    omega
  | .zip a b => by
    have h0 := w_scE (B := B) hc a
    have h1 := w_scE (B := B) hc b
    simp only [wI, Nat.mul_add]
    omega
end
mutual
theorem w_scS {c : Nat} (hc : 1 ≤ c) {B : Nat → Nat} : ∀ x : MS, wS (fun f => c * B f) x ≤ c * wS B x
  | .asg _ e => by
    have h0 := w_scE (B := B) hc e
    simp only [wS, Nat.mul_add]
    omega
  | .asgO _ e => by
    have h0 := w_scE (B := B) hc e
    simp only [wS, Nat.mul_add]
    omega
  | .asgO2 _ g _ it e => by
    have h1 := w_scI (B := B) hc it
    have h2 := g_sc (g := g) (w_scE (B := B) hc e)
    simp only [wS, Nat.mul_add c (wI B _)]
    omega
  | .mov _ _ => Nat.zero_le _
  | .unpk _ e => by
    have h0 := w_scE (B := B) hc e
    simp only [wS, Nat.mul_add]
    omega
  | .par _ es => by
    have h0 := w_scEs (B := B) hc es
    simp only [wS, Nat.mul_add]
    omega
  | .frz _ => Nat.zero_le _
  | .app _ e => by
    have h0 := w_scE (B := B) hc e
    simp only [wS, Nat.mul_add]
    omega
  | .ext _ e => by
    have h0 := w_scE (B := B) hc e
    simp only [wS, Nat.mul_add]
    omega
  | .popTo _ _ e => by
    have h0 := w_scE (B := B) hc e
    simp only [wS, Nat.mul_add]
    omega
  | .popLast _ _ => Nat.zero_le _
  | .appPop _ _ e => by
    have h0 := w_scE (B := B) hc e
    simp only [wS, Nat.mul_add]
    omega
  | .setI _ i e => by
    have h0 := w_scE (B := B) hc e
    have h1 := w_scE (B := B) hc i
    simp only [wS, Nat.mul_add]
    omega
  | .setII _ i j e => by
    have h0 := w_scE (B := B) hc e
    have h1 := w_scE (B := B) hc i
    have h2 := w_scE (B := B) hc j
    simp only [wS, Nat.mul_add]
    omega
  | .aug _ _ e => by
    have h0 := w_scE (B := B) hc e
    simp only [wS, Nat.mul_add]
    omega
  | .ex e => by
    have h0 := w_scE (B := B) hc e
    simp only [wS, Nat.mul_add]
    omega
  | .ret e => by
    have h0 := w_scE (B := B) hc e
    simp only [wS, Nat.mul_add]
    omega
  | .retN => Nat.zero_le _
  | .ite d a b => by
    have h0 := w_scE (B := B) hc d
    have h1 := w_scSs (B := B) hc a
    have h2 := w_scSs (B := B) hc b
    simp only [wS, Nat.mul_add]
    omega
  | .for g _ it b => by
    have h1 := w_scI (B := B) hc it
    have h2 := g_sc (g := g) (w_scSs (B := B) hc b)
    simp only [wS, Nat.mul_add c (wI B _)]
    omega
  | .whl d b => by
    have h2 := n_sc (n := SL) (Nat.le_trans (Nat.add_le_add (w_scE (B := B) hc d) (w_scSs (B := B) hc b)) (Nat.le_of_eq (Nat.mul_add _ _ _).symm))
    simp only [wS]
    exact h2
  | .brk => Nat.zero_le _
  | .cont => Nat.zero_le _
  | .pass => Nat.zero_le _
  | .never => Nat.zero_le _
  | .rais _ es => by
    have h0 := w_scEs (B := B) hc es
    simp only [wS, Nat.mul_add]
    omega
  | .tryx b hs => by
    have h0 := w_scS (B := B) hc b
    have h1 := w_scH (B := B) hc hs
    simp only [wS, Nat.mul_add]
    omega
theorem w_scSs {c : Nat} (hc : 1 ≤ c) {B : Nat → Nat} : ∀ x : MSs, wSs (fun f => c * B f) x ≤ c * wSs B x
  | .nil => Nat.zero_le _
  | .cons s r => by
    have h0 := w_scS (B := B) hc s
    have h1 := w_scSs (B := B) hc r
    simp only [wSs, Nat.mul_add]
    omega
theorem w_scH {c : Nat} (hc : 1 ≤ c) {B : Nat → Nat} : ∀ x : MHs, wH (fun f => c * B f) x ≤ c * wH B x
  | .nil => Nat.zero_le _
  | .cons _ _ s r => by
    have h0 := w_scSs (B := B) hc s
    have h1 := w_scH (B := B) hc r
    simp only [wH, Nat.mul_add]
    omega
end
mutual
theorem k_scE {c : Nat} (hc : 1 ≤ c) {B : Nat → Nat} : ∀ x : ME, kE B x = true → kE (fun f => c * B f) x = true
  | .var _ => fun _ => by simp [kE]
  | .rd _ => fun _ => by simp [kE]
  | .gl _ => fun _ => by simp [kE]
  | .k _ => fun _ => by simp [kE]
  | .dict0 => fun _ => by simp [kE]
  | .brw e => fun h => by
    simp only [kE, Bool.and_eq_true, Bool.or_eq_true, beq_iff_eq] at h ⊢
    exact k_scE hc e h
  | .tup es => fun h => by
    simp only [kE, Bool.and_eq_true, Bool.or_eq_true, beq_iff_eq] at h ⊢
    exact k_scEs hc es h
  | .lst es => fun h => by
    simp only [kE, Bool.and_eq_true, Bool.or_eq_true, beq_iff_eq] at h ⊢
    exact k_scEs hc es h
  | .o1 _ a => fun h => by
    simp only [kE, Bool.and_eq_true, Bool.or_eq_true, beq_iff_eq] at h ⊢
    exact k_scE hc a h
  | .o2 _ a b => fun h => by
    simp only [kE, Bool.and_eq_true, Bool.or_eq_true, beq_iff_eq] at h ⊢
    exact ⟨k_scE hc a h.1, k_scE hc b h.2⟩
  | .mth _ a b => fun h => by
    simp only [kE, Bool.and_eq_true, Bool.or_eq_true, beq_iff_eq] at h ⊢
    exact ⟨k_scE hc a h.1, k_scE hc b h.2⟩
  | .slL a b => fun h => by
    simp only [kE, Bool.and_eq_true, Bool.or_eq_true, beq_iff_eq] at h ⊢
    exact ⟨k_scE hc a h.1, k_scE hc b h.2⟩
  | .slU a b => fun h => by
    simp only [kE, Bool.and_eq_true, Bool.or_eq_true, beq_iff_eq] at h ⊢
    exact ⟨k_scE hc a h.1, k_scE hc b h.2⟩
  | .slLU a b d => fun h => by
    simp only [kE, Bool.and_eq_true, Bool.or_eq_true, beq_iff_eq] at h ⊢
    exact ⟨k_scE hc a h.1, k_scE hc b h.2.1, k_scE hc d h.2.2⟩
  | .and a b => fun h => by
    simp only [kE, Bool.and_eq_true, Bool.or_eq_true, beq_iff_eq] at h ⊢
    exact ⟨k_scE hc a h.1, k_scE hc b h.2⟩
  | .or a b => fun h => by
    simp only [kE, Bool.and_eq_true, Bool.or_eq_true, beq_iff_eq] at h ⊢
    exact ⟨k_scE hc a h.1, k_scE hc b h.2⟩
  | .ife d a b => fun h => by
    simp only [kE, Bool.and_eq_true, Bool.or_eq_true, beq_iff_eq] at h ⊢
    exact ⟨k_scE hc d h.1, k_scE hc a h.2.1, k_scE hc b h.2.2⟩
  | .chain _ _ a b d => fun h => by
    simp only [kE, Bool.and_eq_true, Bool.or_eq_true, beq_iff_eq] at h ⊢
    exact ⟨k_scE hc a h.1, k_scE hc b h.2.1, k_scE hc d h.2.2⟩
  | .call f as => fun h => by
    simp only [kE, Bool.and_eq_true, Bool.or_eq_true, beq_iff_eq] at h ⊢
    exact k_scEs hc as h
  | .draw _ m => fun h => by
    simp only [kE, Bool.and_eq_true, Bool.or_eq_true, beq_iff_eq] at h ⊢
    exact k_scE hc m h
  | .isi _ a => fun h => by
    simp only [kE, Bool.and_eq_true, Bool.or_eq_true, beq_iff_eq] at h ⊢
    exact k_scE hc a h
  | .lc g _ it e => fun h => by
    simp only [kE, Bool.and_eq_true, Bool.or_eq_true, beq_iff_eq] at h ⊢
    have w0 := w_scE (B := B) hc e
    refine ⟨k_scI hc it (h.1), k_scE hc e (h.2.1), h.2.2.imp id fun z => ?_⟩
    rw [z] at w0
    omega
  | .lcIf g _ it d e => fun h => by
    simp only [kE, Bool.and_eq_true, Bool.or_eq_true, beq_iff_eq] at h ⊢
    have w0 := w_scE (B := B) hc d
    have w1 := w_scE (B := B) hc e
    refine ⟨k_scI hc it (h.1), k_scE hc d (h.2.1), k_scE hc e (h.2.2.1), h.2.2.2.imp id fun z => ?_⟩
    have z1 : wE B d = 0 := by omega
    have z2 : wE B e = 0 := by omega
    rw [z1] at w0
    rw [z2] at w1
    omega
  | .lc2 _ _ i1 _ i2 e => fun h => by
    simp only [kE, Bool.and_eq_true, Bool.or_eq_true, beq_iff_eq] at h ⊢
    exact ⟨k_scI hc i1 h.1, k_scI hc i2 h.2.1, k_scE hc e h.2.2⟩
  | .fld a _ => fun h => by
    simp only [kE, Bool.and_eq_true, Bool.or_eq_true, beq_iff_eq] at h ⊢
    exact k_scE hc a h
  | .isx _ a => fun h => by
    simp only [kE, Bool.and_eq_true, Bool.or_eq_true, beq_iff_eq] at h ⊢
    exact k_scE hc a h
  | .alone a => fun h => by
    simp only [kE, Bool.and_eq_true, Bool.or_eq_true, beq_iff_eq] at h ⊢
    exact k_scE hc a h
  | .ofI _ it => fun h => by
    simp only [kE, Bool.and_eq_true, Bool.or_eq_true, beq_iff_eq] at h ⊢
    exact k_scI hc it h
theorem k_scEs {c : Nat} (hc : 1 ≤ c) {B : Nat → Nat} : ∀ x : MEs, kEs B x = true → kEs (fun f => c * B f) x = true
  | .nil => fun _ => by simp [kEs]
  | .cons e r => fun h => by
    simp only [kEs, Bool.and_eq_true, Bool.or_eq_true, beq_iff_eq] at h ⊢
    exact ⟨k_scE hc e h.1, k_scEs hc r h.2⟩
  | .star e r => fun h => by
    simp only [kEs, Bool.and_eq_true, Bool.or_eq_true, beq_iff_eq] at h ⊢
    exact ⟨k_scE hc e h.1, k_scEs hc r h.2⟩
theorem k_scI {c : Nat} (hc : 1 ≤ c) {B : Nat → Nat} : ∀ x : MI, kI B x = true → kI (fun f => c * B f) x = true
  | .seq e => fun h => by
    simp only [kI, Bool.and_eq_true, Bool.or_eq_true, beq_iff_eq] at h ⊢
    exact k_scE hc e h
  | .range a b => fun h => by
    simp only [kI, Bool.and_eq_true, Bool.or_eq_true, beq_iff_eq] at h ⊢
    exact ⟨k_scE hc a h.1, k_scE hc b h.2⟩
  | .range1 b => fun h => by
    simp only [kI, Bool.and_eq_true, Bool.or_eq_true, beq_iff_eq] at h ⊢
    exact k_scE hc b h
  | .range3 _ _ _ => fun _ => by simp [kI]
  | .enum e => fun h => by
    simp only [kI, Bool.and_eq_true, Bool.or_eq_true, beq_iff_eq] at h ⊢
    exact k_scE hc e h
  | .zip a b => fun h => by
    simp only [kI, Bool.and_eq_true, Bool.or_eq_true, beq_iff_eq] at h ⊢
    exact ⟨k_scE hc a h.1, k_scE hc b h.2⟩
end
mutual
theorem k_scS {c : Nat} (hc : 1 ≤ c) {B : Nat → Nat} : ∀ x : MS, kS B x = true → kS (fun f => c * B f) x = true
  | .asg _ e => fun h => by
    simp only [kS, Bool.and_eq_true, Bool.or_eq_true, beq_iff_eq] at h ⊢
    exact k_scE hc e h
  | .asgO _ e => fun h => by
    simp only [kS, Bool.and_eq_true, Bool.or_eq_true, beq_iff_eq] at h ⊢
    exact k_scE hc e h
  | .asgO2 _ g _ it e => fun h => by
    simp only [kS, Bool.and_eq_true, Bool.or_eq_true, beq_iff_eq] at h ⊢
    have w0 := w_scE (B := B) hc e
    refine ⟨k_scI hc it (h.1), k_scE hc e (h.2.1), h.2.2.imp id fun z => ?_⟩
    rw [z] at w0
    omega
  | .mov _ _ => fun _ => by simp [kS]
  | .unpk _ e => fun h => by
    simp only [kS, Bool.and_eq_true, Bool.or_eq_true, beq_iff_eq] at h ⊢
    exact k_scE hc e h
  | .par _ es => fun h => by
    simp only [kS, Bool.and_eq_true, Bool.or_eq_true, beq_iff_eq] at h ⊢
    exact k_scEs hc es h
  | .frz _ => fun _ => by simp [kS]
  | .app _ e => fun h => by
    simp only [kS, Bool.and_eq_true, Bool.or_eq_true, beq_iff_eq] at h ⊢
    exact k_scE hc e h
  | .ext _ e => fun h => by
    simp only [kS, Bool.and_eq_true, Bool.or_eq_true, beq_iff_eq] at h ⊢
    exact k_scE hc e h
  | .popTo _ _ e => fun h => by
    simp only [kS, Bool.and_eq_true, Bool.or_eq_true, beq_iff_eq] at h ⊢
    exact k_scE hc e h
  | .popLast _ _ => fun _ => by simp [kS]
  | .appPop _ _ e => fun h => by
    simp only [kS, Bool.and_eq_true, Bool.or_eq_true, beq_iff_eq] at h ⊢
    exact k_scE hc e h
  | .setI _ i e => fun h => by
    simp only [kS, Bool.and_eq_true, Bool.or_eq_true, beq_iff_eq] at h ⊢
    exact ⟨k_scE hc e h.1, k_scE hc i h.2⟩
  | .setII _ i j e => fun h => by
    simp only [kS, Bool.and_eq_true, Bool.or_eq_true, beq_iff_eq] at h ⊢
    exact ⟨k_scE hc e h.1, k_scE hc i h.2.1, k_scE hc j h.2.2⟩
  | .aug _ _ e => fun h => by
    simp only [kS, Bool.and_eq_true, Bool.or_eq_true, beq_iff_eq] at h ⊢
    exact k_scE hc e h
  | .ex e => fun h => by
    simp only [kS, Bool.and_eq_true, Bool.or_eq_true, beq_iff_eq] at h ⊢
    exact k_scE hc e h
  | .ret e => fun h => by
    simp only [kS, Bool.and_eq_true, Bool.or_eq_true, beq_iff_eq] at h ⊢
    exact k_scE hc e h
  | .retN => fun _ => by simp [kS]
  | .ite d a b => fun h => by
    simp only [kS, Bool.and_eq_true, Bool.or_eq_true, beq_iff_eq] at h ⊢
    exact ⟨k_scE hc d h.1, k_scSs hc a h.2.1, k_scSs hc b h.2.2⟩
  | .for g _ it b => fun h => by
    simp only [kS, Bool.and_eq_true, Bool.or_eq_true, beq_iff_eq] at h ⊢
    have w0 := w_scSs (B := B) hc b
    refine ⟨k_scI hc it (h.1), k_scSs hc b (h.2.1), h.2.2.imp id fun z => ?_⟩
    rw [z] at w0
    omega
  | .whl d b => fun h => by
    simp only [kS, Bool.and_eq_true, Bool.or_eq_true, beq_iff_eq] at h ⊢
    exact ⟨k_scE hc d h.1, k_scSs hc b h.2⟩
  | .brk => fun _ => by simp [kS]
  | .cont => fun _ => by simp [kS]
  | .pass => fun _ => by simp [kS]
  | .never => fun _ => by simp [kS]
  | .rais _ es => fun h => by
    simp only [kS, Bool.and_eq_true, Bool.or_eq_true, beq_iff_eq] at h ⊢
    exact k_scEs hc es h
  | .tryx b hs => fun h => by
    simp only [kS, Bool.and_eq_true, Bool.or_eq_true, beq_iff_eq] at h ⊢
    exact ⟨k_scS hc b h.1, k_scH hc hs h.2⟩
theorem k_scSs {c : Nat} (hc : 1 ≤ c) {B : Nat → Nat} : ∀ x : MSs, kSs B x = true → kSs (fun f => c * B f) x = true
  | .nil => fun _ => by simp [kSs]
  | .cons s r => fun h => by
    simp only [kSs, Bool.and_eq_true, Bool.or_eq_true, beq_iff_eq] at h ⊢
    exact ⟨k_scS hc s h.1, k_scSs hc r h.2⟩
theorem k_scH {c : Nat} (hc : 1 ≤ c) {B : Nat → Nat} : ∀ x : MHs, kH B x = true → kH (fun f => c * B f) x = true
  | .nil => fun _ => by simp [kH]
  | .cons _ _ s r => fun h => by
    simp only [kH, Bool.and_eq_true, Bool.or_eq_true, beq_iff_eq] at h ⊢
    exact ⟨k_scSs hc s h.1, k_scH hc r h.2⟩
end
/-- a table whose defs may call themselves: the numbers grow by q from depth to depth -/
theorem few_tabQ {l : List (Nat × Str × FD)} {B : Nat → Nat} {q : Nat} (h : (l.all fun d => kSs B d.2.2.body && decide (wSs B d.2.2.body ≤ q * B d.1)) = true) : ∀ f fd, tbL l f = some fd → kSs B fd.body = true ∧ wSs B fd.body ≤ q * B f := by
  intro f fd e
  unfold tbL at e
  cases z : l.find? (fun d => d.1 == f) with
  | none => rw [z] at e; cases e
  | some d =>
    rw [z] at e
    cases e
    have h1 := List.all_eq_true.mp h d (List.mem_of_find?_eq_some z)
    rw [Bool.and_eq_true, decide_eq_true_eq] at h1
    have h2 := List.find?_some z
    simp only [beq_iff_eq] at h2
    rw [← h2]
    exact h1
def QQ : Nat := 1152921504606846976
theorem QQ_pos : 0 < QQ := by decide
theorem few_callQ {tb : Nat → Option FD} {sub : Nat → Nat → Bool} {B : Nat → Nat} {q : Nat} (hq : 1 ≤ q) (h : ∀ f fd, tb f = some fd → kSs B fd.body = true ∧ wSs B fd.body ≤ q * B f) : ∀ (n f : Nat) (vs : List PV), Few (q ^ n * B f) (callF tb sub n f vs)
  | 0, f, vs => trivial
  | n + 1, f, vs => by
    rw [callF]
    cases e : tb f with
    | none => trivial
    | some fd =>
      obtain ⟨h1, h2⟩ := h f fd e
      have hp : 1 ≤ q ^ n := Nat.pow_pos hq
      have h3 : wSs (fun f => q ^ n * B f) fd.body ≤ q ^ (n + 1) * B f := by
        refine Nat.le_trans (w_scSs hp fd.body) ?_
        rw [Nat.pow_succ, Nat.mul_assoc]
        exact Nat.mul_le_mul_left _ h2
      show Few (q ^ (n + 1) * B f) (runF ⟨callF tb sub n, sub⟩ fd vs)
      unfold runF
      refine Few.r (few_argsF _ _) fun _ => Few.l (Few.mono _ h3 (few_Ss (C := ⟨callF tb sub n, sub⟩) (fun g us => few_callQ hq h n g us) fd.body _ (k_scSs hp fd.body h1))) fun p => ?_
      obtain ⟨fl, e⟩ := p
      cases fl <;> trivial
end Mp
namespace Mp
open PySem PySem.Spec PyProof.Rows L2
def GlOk (K : PySem.W.Frag) (g : Nat) : Prop := ∃ u v, PySem.W.nsIn K mainGlobals (Str.ofString (gnm g)) = some (some u) ∧ RelV v u ∧ ∀ F, Dv K F v (gv g)
theorem gl_of {K : PySem.W.Frag} {h : Heap} {mg : Str → Option Value} {g : Nat} (X : K.In h) (G : h.Ns mainGlobals mg) : GlOk K g → ∃ u v, mg (Str.ofString (gnm g)) = some u ∧ RelV v u ∧ ∀ F, Dv K F v (gv g)
  | ⟨u, v, h1, h2, h3⟩ => ⟨u, v, PySem.W.mg_of X G h1, h2, h3⟩
theorem gl_int {K : PySem.W.Frag} {g : Nat} {i : Int} {t : Tok} (h : PySem.W.nsIn K mainGlobals (Str.ofString (gnm g)) = some (some (.int i t))) (e : gv g = .int i) : GlOk K g :=
  ⟨_, .int i, h, ⟨t, rfl⟩, fun F => by rw [e]; exact .int i⟩
theorem tab_df {K : PySem.W.Frag} {mg : Str → Option Value} {gs cs : List Nat} {nm hm : Nat → Option Str} {hot : Bool} {big : List (Nat × Str × FD)} : ∀ {l : List (Nat × Str × FD)}, (∀ d ∈ l, tbL big d.1 = some d.2.2 ∧ DefOk K mg nm hm gs cs hot d.2.1 d.2.2) → ∀ f x, nmL l f = some x → ∃ fd, tbL big f = some fd ∧ DefOk K mg nm hm gs cs hot x fd := by
  intro l h f x e
  unfold nmL at e
  cases q : l.find? (fun d => d.1 == f) with
  | none => rw [q] at e; cases e
  | some d =>
    rw [q] at e
    cases e
    have h2 := List.find?_some q
    simp only [beq_iff_eq] at h2
    obtain ⟨h3, h4⟩ := h d (List.mem_of_find?_eq_some q)
    rw [h2] at h3
    exact ⟨_, h3, h4⟩
end Mp
namespace Mp
open PySem PySem.Spec PyProof.Rows L2 PySem.XM PySem.W
/-- what the written part says of the class k, at C (M: MergeError) -/
def XKs (K : PySem.W.Frag) (M k : Nat) (C : Addr) : Prop := nsIn K mainGlobals (Str.ofString (nmX k)) = some (some (.ref C)) ∧ ∀ mg : Str → Option Value, mg (Str.ofString (nmX k)) = some (.ref C) → XKn K mg M k C
theorem xkn_mg {K : PySem.W.Frag} {h : Heap} {mg : Str → Option Value} {M k : Nat} {C : Addr} (X : K.In h) (G : h.Ns mainGlobals mg) (q : XKs K M k C) : XKn K mg M k C := q.2 mg (PySem.W.mg_of X G q.1)
theorem bs_of {k : Nat} : Bs (tlX k) (nwX k) := by
  unfold tlX nwX
  split
  · exact .ve
  · exact .le
theorem tl_of {M k : Nat} (h2 : 2 ≤ k) : excTail (tlX k) (bmX M k) = true := by
  unfold tlX bmX
  by_cases a : k = 2
  · subst a
    rfl
  · rw [if_neg a]
    by_cases b : k ≤ 26
    · rw [if_pos b, if_pos b]
      rfl
    · rw [if_neg b, if_neg b]
      rfl
theorem xks_of {K : PySem.W.Frag} {M k : Nat} {C N : Addr} {nm q : Str} {bs bm : List Value} {sn : List Str} {sub : List Value} {ab : Bool} {col : Option Bool} {dd : Option Addr} {m0 m1 m2 m3 m5 : Option Value} {nw : String} (hk : 2 ≤ k ∧ k ≤ 28)
    (aC : nsIn K mainGlobals (Str.ofString (nmX k)) = some (some (.ref C))) (xL : K.lookup C = some (excClassObj nm q C N bs bm true sn sub ab col dd m0 m1 m2 m3 m5 nw)) (e1 : nm = Str.ofString (nmX k)) (e2 : bm = bmX M k) (e3 : nw = nwX k)
    (sa : findIn K (.ref C) "__setattr__" = some (some (.builtin "object.__setattr__"))) (ga : findIn K (.ref C) "__getattribute__" = some (some (.builtin "BaseException.__getattribute__"))) (gg : findIn K (.ref C) "__getattr__" = some none)
    (kC : keepIn K (.ref C) = true) (eC : subIn K (.ref C) (.type "BaseException") = some true) (tC : typeIn K (.ref C) = some (.type "type")) (ca : findIn K (.ref C) "__class__" = some (some (.builtin "object.__class__")))
    (cn : specialIn K (.builtin "object.__class__") "__get__" = some (some (.builtin "getset_descriptor.__get__"))) (ct : takesIn K (.builtin "object.__class__") = some true) (cm : mroIn K C (.type "object") = some true)
    (mk : XMk K C (tlX k) (nwX k) (fsX k)) : XKs K M k C := by
  subst e1 e2 e3
  exact ⟨aC, fun mg hm => ⟨hk.1, hk.2, ⟨bs_of, tl_of hk.1, hm, ⟨q, N, bs, sn, sub, ab, col, dd, m0, m1, m2, m3, m5, xL⟩, sa, ga, gg, kC, eC, tC, ca, cn, ct, cm⟩, mk⟩⟩
theorem xmk_0 {K : PySem.W.Frag} {C : Addr} {k : Nat} (hf : fsX k = []) (q : excIn K C (tlX k) (nwX k) = true) : XMk K C (tlX k) (nwX k) (fsX k) := by
  rw [hf]
  exact q
theorem xmk_1 {K : PySem.W.Frag} {C : Addr} {k : Nat} {f : Str} {fI : Addr} {nm qual : Str} {params : Arguments} {body : List Stmt} {scope : Scope} {dV kV doc pm cdv ct oc : Value} {an od : Option Addr} {osl : Array (Option Value)} {p1 p2 q1 q2 q3 q4 : Pos} (hf : fsX k = [f]) (h1 : fldOk f = true) (nf : findIn K (.ref C) f = some none)
    (iC : findIn K (.ref C) "__init__" = some (some (.ref fI))) (tI : typeIn K (.ref fI) = some (.type "function"))
    (lk : K.lookup fI = some ⟨oc, od, .func (fnOf nm qual params body scope dV kV doc pm an cdv ct), osl⟩) (hcd : codeIn K cdv qual = true)
    (e0 : nm = PySem.Str.ofString "__init__") (e1 : params = iA1 f p1 p2) (e2 : body = iB1 f q1 q2 q3 q4) (e3 : scope = iS1 f) (e4 : dV = .none) (e5 : kV = .none)
    (hbd : ∀ a b : Value, bindArgs (fnOf (PySem.Str.ofString "__init__") qual (iA1 f p1 p2) (iB1 f q1 q2 q3 q4) (iS1 f) .none .none doc pm an cdv ct) ⟨[a, b], []⟩ = pure [(PySem.Str.ofString "self", a), (f, b)]) : XMk K C (tlX k) (nwX k) (fsX k) := by
  subst e0 e1 e2 e3 e4 e5
  rw [hf]
  exact ⟨h1, nf, fI, qual, p1, p2, q1, q2, q3, q4, doc, pm, cdv, ct, oc, an, od, osl, iC, tI, lk, hcd, hbd⟩
theorem xmk_2 {K : PySem.W.Frag} {C : Addr} {k : Nat} {f g : Str} {fI : Addr} {nm qual : Str} {params : Arguments} {body : List Stmt} {scope : Scope} {dV kV doc pm cdv ct oc : Value} {an od : Option Addr} {osl : Array (Option Value)} {p1 p2 p3 q1 q2 q3 q4 r1 r2 r3 r4 : Pos} (hf : fsX k = [f, g]) (h1 : fldOk f = true) (h2 : fldOk g = true) (hn : (g == f) = false) (nf : findIn K (.ref C) f = some none) (ng : findIn K (.ref C) g = some none)
    (iC : findIn K (.ref C) "__init__" = some (some (.ref fI))) (tI : typeIn K (.ref fI) = some (.type "function"))
    (lk : K.lookup fI = some ⟨oc, od, .func (fnOf nm qual params body scope dV kV doc pm an cdv ct), osl⟩) (hcd : codeIn K cdv qual = true)
    (e0 : nm = PySem.Str.ofString "__init__") (e1 : params = iA2 f g p1 p2 p3) (e2 : body = iB2 f g q1 q2 q3 q4 r1 r2 r3 r4) (e3 : scope = iS2 f g) (e4 : dV = .none) (e5 : kV = .none)
    (hbd : ∀ a b c : Value, bindArgs (fnOf (PySem.Str.ofString "__init__") qual (iA2 f g p1 p2 p3) (iB2 f g q1 q2 q3 q4 r1 r2 r3 r4) (iS2 f g) .none .none doc pm an cdv ct) ⟨[a, b, c], []⟩ = pure [(PySem.Str.ofString "self", a), (f, b), (g, c)]) : XMk K C (tlX k) (nwX k) (fsX k) := by
  subst e0 e1 e2 e3 e4 e5
  rw [hf]
  exact ⟨h1, h2, hn, nf, ng, fI, qual, p1, p2, p3, q1, q2, q3, q4, r1, r2, r3, r4, doc, pm, cdv, ct, oc, an, od, osl, iC, tI, lk, hcd, hbd⟩
end Mp
namespace Mp
open PySem
open Mp.T hiding W W_bind W.mono
abbrev noSub : Nat → Nat → Bool := fun _ _ => false
/-- every end is a value of which Q holds (not unfolded) -/
@[irreducible] def W {α : Type} (Q : α → Prop) (x : T α) : Prop := T.W Q x
section
variable {α β : Type} {Q : α → Prop}
theorem W_iff {x : T α} : W Q x ↔ T.W Q x := by unfold W; exact Iff.rfl
theorem W_bind {Q : β → Prop} {f : α → T β} (x : T α) : W Q (x >>= f) ↔ W (fun a => W Q (f a)) x := by
  unfold W
  exact T.W_bind x
theorem W.mono {Q Q' : α → Prop} (hQ : ∀ a, Q a → Q' a) (x : T α) : W Q x → W Q' x := by
  unfold W
  exact T.W.mono hQ x
@[simp] theorem W_ret {a : α} : W Q (T.ret a) ↔ Q a := by unfold W; exact Iff.rfl
@[simp] theorem W_stuck : W Q (T.stuck : T α) ↔ False := by unfold W; exact Iff.rfl
@[simp] theorem W_exc {e : Ex} : W Q (T.exc e : T α) ↔ False := by unfold W; exact Iff.rfl
theorem W_draw {m : Int} {k : Int → T α} : W Q (T.draw m k) ↔ 0 < m ∧ ∀ n, 0 ≤ n → n < m → W Q (k n) := by unfold W; exact Iff.rfl
theorem W_nox (x : T α) : W Q (nox x) ↔ W Q x := by
  unfold W
  exact Mp.T_W_nox x
theorem W_need_bind {p : Prop} [Decidable p] {f : Unit → T α} : W Q (need p >>= f) ↔ p ∧ W Q (f ()) := by
  unfold need
  by_cases h : p <;> simp [h]
@[simp] theorem W_nox_bind {x : T β} {f : β → T α} : W Q (nox x >>= f) ↔ W Q (x >>= f) := by rw [W_bind, W_nox, ← W_bind]
theorem nox_draw {m : Int} {k : Int → T α} : nox (T.draw m k) = T.draw m fun n => nox (k n) := nr rfl
@[simp] theorem W_nox' {x : T α} : W Q (nox x) ↔ W Q x := W_nox x
theorem nox_nb {p : Prop} [Decidable p] {f : Unit → T α} : nox (need p >>= f) = (need p >>= fun u => nox (f u)) := by
  unfold need
  by_cases h : p <;> simp [h]
theorem nox_bind' (x : T β) (f : β → T α) : nox (x >>= f) = nox x >>= fun a => nox (f a) := nox_bind x f
theorem wN {p : Prop} [Decidable p] {f : Unit → T α} (h : p) (k : W Q (f ())) : W Q (need p >>= f) := by
  rw [need_pos h]
  exact k
theorem wD {m : Int} {k : Int → T α} (h : 0 < m) (hk : ∀ n : Nat, n < m → W Q (k n)) : W Q (T.draw m k) :=
  W_draw.mpr ⟨h, fun n h0 h1 => by
    obtain ⟨j, rfl⟩ := Int.eq_ofNat_of_zero_le h0
    exact hk j h1⟩
theorem wR {a : α} (h : Q a) : W Q (T.ret a) := W_ret.mpr h
theorem wF {p : Prop} [Decidable p] {x y : T α} (h1 : p → W Q x) (h2 : ¬p → W Q y) : W Q (if p then x else y) := by
  by_cases h : p
  · rw [if_pos h]; exact h1 h
  · rw [if_neg h]; exact h2 h
theorem wFb {p : Prop} [Decidable p] {x y : T β} {f : β → T α} (h1 : p → W Q (x >>= f)) (h2 : ¬p → W Q (y >>= f)) : W Q ((if p then x else y) >>= f) := by
  by_cases h : p
  · rw [if_pos h]; exact h1 h
  · rw [if_neg h]; exact h2 h
@[simp] theorem bindassoc (x : T α) (f : α → T β) {γ : Type} (g : β → T γ) : (x >>= f >>= g) = (x >>= fun a => f a >>= g) := assoc x f g
@[simp] theorem opt_some_p (a : α) : opt (some a) = T.ret a := nr rfl
@[simp] theorem opt_none : opt (none : Option α) = T.stuck := nr rfl
/-- a value that is told -/
theorem W_eq {x : T α} {a : α} (h : W (· = a) x) (f : Few 0 x) : x = T.ret a := by
  have h := W_iff.mp h
  cases x with
  | ret b => exact congrArg T.ret h
  | exc e => exact h.elim
  | stuck => exact h.elim
  | draw m k => exact absurd f.1 (by omega)
theorem W_use {x : T β} {P : β → Prop} {f : β → T α} (h : W P x) (k : ∀ b, P b → W Q (f b)) : W Q (x >>= f) := (W_bind x).mpr (W.mono k x h)
end
@[simp] theorem asD_d (x : PyData) : asD (.d x) = T.ret x := nr rfl
@[simp] theorem asInt_int (i : Int) : asInt (.int i) = T.ret i := nr rfl
@[simp] theorem asBool_bool (b : Bool) : asBool (.bool b) = T.ret b := nr rfl
@[simp] theorem asSeq_list (xs : List PyData) : asSeq (.list xs) = T.ret xs := nr rfl
@[simp] theorem asSeq_tuple (xs : List PyData) : asSeq (.tuple xs) = T.ret xs := nr rfl
@[simp] theorem asTup_list (xs : List PyData) : asTup (.list xs) = T.ret xs := nr rfl
@[simp] theorem asTup_tuple (xs : List PyData) : asTup (.tuple xs) = T.ret xs := nr rfl
@[simp] theorem asList_list (xs : List PyData) : asList (.list xs) = T.ret xs := nr rfl
@[simp] theorem asListD_tuple (xs : List PyData) : asListD (.tuple xs) = T.ret () := nr rfl
@[simp] theorem asListD_list (xs : List PyData) : asListD (.list xs) = T.ret () := nr rfl
@[simp] theorem enumK_tuple (xs : List PyData) : enumK (.tuple xs) = T.ret xs := nr rfl
@[simp] theorem enumK_list (xs : List PyData) : enumK (.list xs) = T.ret xs := nr rfl
@[simp] theorem zipK_list (xs ys : List PyData) : zipK (.list xs) (.list ys) = T.ret (xs, ys) := nr rfl
@[simp] theorem zipK_lt (xs ys : List PyData) : zipK (.list xs) (.tuple ys) = T.ret (xs, ys) := nr rfl
@[simp] theorem zipK_tl (xs ys : List PyData) : zipK (.tuple xs) (.list ys) = T.ret (xs, ys) := nr rfl
@[simp] theorem zipK_tuple (xs ys : List PyData) : zipK (.tuple xs) (.tuple ys) = T.ret (xs, ys) := nr rfl
section
variable {C : Ctx} {env : Ev}
@[simp] theorem denE_var (i : Nat) : denE C (.var i) env = match env.at i with | .v x => T.ret x | _ => stuck := by simp only [denE] <;> rfl
@[simp] theorem denE_rd (i : Nat) : denE C (.rd i) env = match env.at i with | .v x => T.ret x | .own xs => T.ret (.d (.list xs)) | _ => stuck := by simp only [denE] <;> rfl
@[simp] theorem denE_brw (e : ME) : denE C (.brw e) env = (nox (denE C e (env.map Slot.fz)) >>= fun v => asD v >>= fun x => need (flat x = true) >>= fun _ => T.ret (.d x)) := by simp only [denE]
@[simp] theorem denE_gl (k : Nat) : denE C (.gl k) env = T.ret (.d (gv k)) := by simp only [denE]
@[simp] theorem denE_k (c : PyData) : denE C (.k c) env = T.ret (.d c) := by simp only [denE]
@[simp] theorem denE_tup (es : MEs) : denE C (.tup es) env = (denEs C es env >>= fun xs => need (xs.length ≤ SL) >>= fun _ => T.ret (.d (.tuple xs))) := by simp only [denE]
@[simp] theorem denE_lst (es : MEs) : denE C (.lst es) env = (denEs C es env >>= fun xs => need (xs.length ≤ SL) >>= fun _ => T.ret (.d (.list xs))) := by simp only [denE]
@[simp] theorem denE_dict0 : denE C .dict0 env = T.ret (.d (.dict [])) := by simp only [denE]
@[simp] theorem denE_o1 (op : O1) (a : ME) : denE C (.o1 op a) env = (denE C a env >>= fun v => asD v >>= fun x => o1 op x >>= fun y => T.ret (.d y)) := by simp only [denE, bindassoc]
@[simp] theorem denE_o2 (op : O2) (a b : ME) : denE C (.o2 op a b) env = (denE C a env >>= fun v => asD v >>= fun x => denE C b env >>= fun w => asD w >>= fun y => o2 op x y >>= fun z => T.ret (.d z)) := by simp only [denE, bindassoc]
@[simp] theorem denE_mth (op : O2) (a b : ME) : denE C (.mth op a b) env = (denE C a env >>= fun v => asD v >>= fun x => asListD x >>= fun _ => denE C b env >>= fun w => asD w >>= fun y => o2 op x y >>= fun z => T.ret (.d z)) := by simp only [denE, bindassoc]
@[simp] theorem denE_slL (a lo : ME) : denE C (.slL a lo) env = (denE C a env >>= fun v => asD v >>= fun x => denE C lo env >>= fun w => asD w >>= fun y => asInt y >>= fun i => sliceD (some i) none x >>= fun z => T.ret (.d z)) := by simp only [denE, bindassoc]
@[simp] theorem denE_slU (a lo : ME) : denE C (.slU a lo) env = (denE C a env >>= fun v => asD v >>= fun x => denE C lo env >>= fun w => asD w >>= fun y => asInt y >>= fun i => sliceD none (some i) x >>= fun z => T.ret (.d z)) := by simp only [denE, bindassoc]
@[simp] theorem denE_slLU (a lo hi : ME) : denE C (.slLU a lo hi) env = (denE C a env >>= fun v => asD v >>= fun x => denE C lo env >>= fun w => asD w >>= fun y => asInt y >>= fun i => denE C hi env >>= fun w' => asD w' >>= fun y' => asInt y' >>= fun j => sliceD (some i) (some j) x >>= fun z => T.ret (.d z)) := by
  simp only [denE, bindassoc]
@[simp] theorem denE_and (a b : ME) : denE C (.and a b) env = (denE C a env >>= fun v => asD v >>= fun x => asBool x >>= fun p => if p then denE C b env else T.ret (.d (.bool false))) := by simp only [denE, bindassoc]
@[simp] theorem denE_or (a b : ME) : denE C (.or a b) env = (denE C a env >>= fun v => asD v >>= fun x => asBool x >>= fun p => if p then T.ret (.d (.bool true)) else denE C b env) := by simp only [denE, bindassoc]
@[simp] theorem denE_ife (c a b : ME) : denE C (.ife c a b) env = (denE C c env >>= fun v => asD v >>= fun x => asBool x >>= fun p => if p then denE C a env else denE C b env) := by simp only [denE, bindassoc]
@[simp] theorem denE_chain (p q : O2) (a b c : ME) : denE C (.chain p q a b c) env = (denE C a env >>= fun v => asD v >>= fun x => denE C b env >>= fun w => asD w >>= fun y => o2 p x y >>= fun r => asBool r >>= fun r =>
    if r then denE C c env >>= fun u => asD u >>= fun z => o2 q y z >>= fun u => T.ret (.d u) else T.ret (.d (.bool false))) := by simp only [denE, bindassoc]
@[simp] theorem denE_call (f : Nat) (as : MEs) : denE C (.call f as) env = (denAs C as env >>= fun vs => C.call f vs) := by simp only [denE]
@[simp] theorem denE_draw (g : Nat) (m : ME) : denE C (.draw g m) env = match env.at g with
    | .v .rng => denE C m env >>= fun v => asD v >>= fun x => asInt x >>= fun i => need (0 < i ∧ i < 1606938044258990275541962092341162602522202993782792835301376) >>= fun _ => T.draw i fun n => T.ret (.d (.int n))
    | _ => stuck := by
  simp only [denE, bindassoc] <;> rfl
@[simp] theorem denE_isi (ts : List Ty) (a : ME) : denE C (.isi ts a) env = (denE C a env >>= fun v => asD v >>= fun x => T.ret (.d (.bool (ts.any fun t => isTy x t)))) := by simp only [denE, bindassoc]
@[simp] theorem denE_lc (g : Bool) (tg : MT) (it : MI) (e : ME) : denE C (.lc g tg it e) env = (denI C it env >>= fun xs => guardL g xs >>= fun _ => mapT (fun x => nox (asgT tg x env >>= fun env' => denE C e env' >>= asD)) xs >>= fun ys => T.ret (.d (.list ys))) := by simp only [denE]
@[simp] theorem denE_lcIf (g : Bool) (tg : MT) (it : MI) (c e : ME) : denE C (.lcIf g tg it c e) env = (denI C it env >>= fun xs => guardL g xs >>= fun _ => filT (fun x => nox (asgT tg x env >>= fun env' => denE C c env' >>= fun v => asD v >>= fun z => asBool z >>= fun p =>
      if p then denE C e env' >>= fun v => asD v >>= fun y => T.ret (some y) else T.ret none)) xs >>= fun ys => T.ret (.d (.list ys))) := by simp only [denE, bindassoc]
@[simp] theorem denE_lc2 (g : Bool) (t1 : MT) (i1 : MI) (t2 : MT) (i2 : MI) (e : ME) : denE C (.lc2 g t1 i1 t2 i2 e) env = (denI C i1 env >>= fun xs => need (xs.length ≤ 4096) >>= fun _ => appT (fun x => nox (asgT t1 x (unT t2 (env.map noOwn)) >>= fun env' => denI C i2 env' >>= fun ys => need (ys.length ≤ 4096) >>= fun _ =>
      mapT (fun y => asgT t2 y env' >>= fun env'' => denE C e env'' >>= asD) ys)) xs >>= fun zs => T.ret (.d (.list zs))) := by simp only [denE]
@[simp] theorem denE_fld (a : ME) (f : String) : denE C (.fld a f) env = (denE C a env >>= fun v => match v with
    | .exc _ fs => opt (fs.lookup (Str.ofString f)) >>= fun x => T.ret (.d x)
    | _ => stuck) := by
  simp only [denE] <;> rfl
@[simp] theorem denE_ofI (l : Bool) (it : MI) : denE C (.ofI l it) env = (denI C it env >>= fun xs => T.ret (.d (if l then .list xs else .tuple xs))) := by simp only [denE]
@[simp] theorem denEs_nil : denEs C .nil env = T.ret [] := by simp only [denEs]
@[simp] theorem denEs_cons (e : ME) (r : MEs) : denEs C (.cons e r) env = (denE C e env >>= fun v => asD v >>= fun x => denEs C r env >>= fun xs => T.ret (x :: xs)) := by simp only [denEs, bindassoc]
@[simp] theorem denEs_star (e : ME) (r : MEs) : denEs C (.star e r) env = (denE C e env >>= fun v => asD v >>= fun x => asSeq x >>= fun ys => denEs C r env >>= fun xs => T.ret (ys ++ xs)) := by simp only [denEs, bindassoc]
@[simp] theorem denAs_nil : denAs C .nil env = T.ret [] := by simp only [denAs]
@[simp] theorem denAs_cons (e : ME) (r : MEs) : denAs C (.cons e r) env = (denE C e env >>= fun x => denAs C r env >>= fun xs => T.ret (x :: xs)) := by simp only [denAs]
@[simp] theorem denAs_star (e : ME) (r : MEs) : denAs C (.star e r) env = (denE C e env >>= fun v => asD v >>= fun x => asSeq x >>= fun ys => denAs C r env >>= fun xs => T.ret (ys.map PV.d ++ xs)) := by simp only [denAs, bindassoc]
@[simp] theorem denI_seq (e : ME) : denI C (.seq e) env = (denE C e env >>= fun v => asD v >>= asSeq) := by simp only [denI, bindassoc]
@[simp] theorem denI_range (a b : ME) : denI C (.range a b) env = (denE C a env >>= fun v => asD v >>= fun x => asInt x >>= fun i => denE C b env >>= fun w => asD w >>= fun y => asInt y >>= fun j => rangeD i j) := by simp only [denI, bindassoc]
@[simp] theorem denI_range1 (b : ME) : denI C (.range1 b) env = (denE C b env >>= fun w => asD w >>= fun y => asInt y >>= fun j => rangeD 0 j) := by simp only [denI, bindassoc]
@[simp] theorem denI_enum (e : ME) : denI C (.enum e) env = (denE C e env >>= fun v => asD v >>= fun x => enumK x >>= fun xs => T.ret (enumD 0 xs)) := by simp only [denI, bindassoc]
@[simp] theorem denI_zip (a b : ME) : denI C (.zip a b) env = (denE C a env >>= fun v => asD v >>= fun x => denE C b env >>= fun w => asD w >>= fun y => zipK x y >>= fun p => T.ret (zipD p.1 p.2)) := by simp only [denI, bindassoc]
@[simp] theorem asgT_nm (i : Nat) (x : PyData) : asgT (.nm i) x env = T.ret (env.set i (.v (.d x))) := nr rfl
@[simp] theorem asgT_tpl (is : List Nat) (xs : List PyData) : asgT (.tp is) (.list xs) env = (need (xs.length = is.length) >>= fun _ => T.ret (setAll is xs env)) := nr rfl
@[simp] theorem asgT_tp (is : List Nat) (xs : List PyData) : asgT (.tp is) (.tuple xs) env = (need (xs.length = is.length) >>= fun _ => T.ret (setAll is xs env)) := nr rfl
@[simp] theorem setAll_nil (xs : List PyData) : setAll [] xs env = env := by cases xs <;> rfl
@[simp] theorem setAll_cons (i : Nat) (is : List Nat) (x : PyData) (xs : List PyData) : setAll (i :: is) (x :: xs) env = setAll is xs (env.set i (.v (.d x))) := nr rfl
@[simp] theorem fz_v (x : PV) : Slot.fz (.v x) = .v x := nr rfl
@[simp] theorem fz_un : Slot.fz .un = .un := nr rfl
@[simp] theorem fz_own (xs : List PyData) : Slot.fz (.own xs) = .v (.d (.list xs)) := nr rfl
@[simp] theorem fz_own2 (xss : List (List PyData)) : Slot.fz (.own2 xss) = .v (.d (.list (xss.map .list))) := nr rfl
@[simp] theorem noOwn_v (x : PV) : noOwn (.v x) = .v x := nr rfl
@[simp] theorem noOwn_un : noOwn .un = .un := nr rfl
@[simp] theorem noOwn_own (xs : List PyData) : noOwn (.own xs) = .un := nr rfl
@[simp] theorem noOwn_own2 (xss : List (List PyData)) : noOwn (.own2 xss) = .un := nr rfl
@[simp] theorem unT_nm (i : Nat) : unT (.nm i) env = env.set i .un := nr rfl
@[simp] theorem unT_tp (is : List Nat) : unT (.tp is) env = is.foldl (fun e i => e.set i .un) env := nr rfl
theorem guardL_true {xs : List PyData} {α : Type} {Q : α → Prop} {f : Unit → T α} : W Q (guardL true xs >>= f) ↔ xs.length ≤ SL ∧ W Q (f ()) := by
  unfold guardL
  exact W_need_bind
theorem wG {xs : List PyData} {α : Type} {Q : α → Prop} {f : Unit → T α} (h : xs.length ≤ 16777216) (k : W Q (f ())) : W Q (guardL true xs >>= f) := guardL_true.mpr ⟨h, k⟩
theorem W_guardL_true {xs : List PyData} {α : Type} {Q : α → Prop} {f : Unit → T α} : W Q (guardL true xs >>= f) ↔ xs.length ≤ SL ∧ W Q (f ()) := guardL_true
@[simp] theorem SL_lit : SL = 16777216 := nr rfl
@[simp] theorem need_true [Decidable True] : need True = T.ret () := need_pos trivial
@[simp] theorem need_false [Decidable False] : need False = T.stuck := if_neg id
theorem le_SL {a : Nat} (h : a ≤ 16777216) : a ≤ SL := h
theorem lt_SL {a : Nat} (h : a < 16777216) : a < SL := h
theorem need_SL {a : Nat} (h : a ≤ 16777216) : need (a ≤ SL) = T.ret () := need_pos h
theorem rangeD_eq {a b : Int} (ha : -4611686018427387904 ≤ a ∧ a < 4611686018427387904) (hb : -4611686018427387904 ≤ b ∧ b < 4611686018427387904) (h : (b - a).toNat ≤ SL) : rangeD a b = T.ret ((List.range (b - a).toNat).map fun (i : Nat) => PyData.int (a + (i : Int))) := by
  unfold rangeD
  rw [need_pos ⟨ha.1, ha.2, hb.1, hb.2, h⟩]
  rfl
/-- from 0 up to a small number -/
theorem rangeD0 {n : Nat} (h : n ≤ 16777216) : rangeD 0 (n : Int) = T.ret ((List.range n).map fun (i : Nat) => PyData.int (i : Int)) := by
  rw [rangeD_eq (by omega) (by omega) (by unfold SL; omega)]
  simp
theorem rangeDab {a b : Nat} (h : a ≤ 16777216) (h2 : b ≤ 16777216) : rangeD (a : Int) (b : Int) = T.ret ((List.range (b - a)).map fun (i : Nat) => PyData.int ((a + i : Nat) : Int)) := by
  rw [rangeD_eq (by omega) (by omega) (by unfold SL; omega)]
  have e : ((b : Int) - (a : Int)).toNat = b - a := by omega
  rw [e]
  simp only [Int.natCast_add]
@[simp] theorem denS_asg (i : Nat) (e : ME) : denS C (.asg i e) env = (denE C e env >>= fun v => T.ret (.nx, env.set i (.v v))) := by simp only [denS]
@[simp] theorem denS_asgO (i : Nat) (e : ME) : denS C (.asgO i e) env = (denE C e env >>= fun v => asD v >>= fun x => asList x >>= fun xs => T.ret (.nx, env.set i (.own xs))) := by simp only [denS, bindassoc]
@[simp] theorem denS_asgO2 (i : Nat) (g : Bool) (tg : MT) (it : MI) (e : ME) : denS C (.asgO2 i g tg it e) env = (denI C it env >>= fun xs => guardL g xs >>= fun _ => mapT (fun x => nox (asgT tg x env >>= fun env' => denE C e env' >>= fun v => asD v >>= fun y => asList y)) xs >>= fun xss => T.ret (.nx, env.set i (.own2 xss))) := by simp only [denS, bindassoc]
@[simp] theorem denS_mov (i j : Nat) : denS C (.mov i j) env = (ownAt env j >>= fun xs => T.ret (.nx, (env.set j .un).set i (.own xs))) := by simp only [denS]
@[simp] theorem denS_unpk (tg : MT) (e : ME) : denS C (.unpk tg e) env = (denE C e env >>= fun v => asD v >>= fun x => asgT tg x env >>= fun env' => T.ret (.nx, env')) := by simp only [denS, bindassoc]
@[simp] theorem denS_par (is : List (Bool × Nat)) (es : MEs) : denS C (.par is es) env = (denAs C es env >>= fun vs => parSet is vs env >>= fun env' => T.ret (.nx, env')) := by simp only [denS]
@[simp] theorem denS_frz (i : Nat) : denS C (.frz i) env = T.ret (.nx, env.set i (env.at i).fz) := by simp only [denS]
@[simp] theorem denS_app (i : Nat) (e : ME) : denS C (.app i e) env = (ownAt env i >>= fun xs => denE C e env >>= fun v => asD v >>= fun x => need (xs.length < SL) >>= fun _ => T.ret (.nx, env.set i (.own (xs ++ [x])))) := by simp only [denS, bindassoc]
@[simp] theorem denS_ext (i : Nat) (e : ME) : denS C (.ext i e) env = (ownAt env i >>= fun xs => denE C e env >>= fun v => asD v >>= fun x => asSeq x >>= fun ys => need (xs.length + ys.length ≤ SL) >>= fun _ => T.ret (.nx, env.set i (.own (xs ++ ys)))) := by simp only [denS, bindassoc]
@[simp] theorem denS_popTo (i l : Nat) (e : ME) : denS C (.popTo i l e) env = (ownAt env l >>= fun xs => denE C e env >>= fun v => asD v >>= fun x => asInt x >>= fun k => opt (place xs.length k) >>= fun j => opt xs[j]? >>= fun x => T.ret (.nx, (env.set l (.own (xs.eraseIdx j))).set i (.v (.d x)))) := by simp only [denS, bindassoc]
@[simp] theorem denS_popLast (i l : Nat) : denS C (.popLast i l) env = (ownAt env l >>= fun xs => opt xs[xs.length - 1]? >>= fun x => T.ret (.nx, (env.set l (.own xs.dropLast)).set i (.v (.d x)))) := by simp only [denS]
@[simp] theorem denS_appPop (i l : Nat) (e : ME) : denS C (.appPop i l e) env = (ownAt env i >>= fun ys => ownAt env l >>= fun xs => denE C e env >>= fun v => asD v >>= fun x => asInt x >>= fun k => opt (place xs.length k) >>= fun j => opt xs[j]? >>= fun x => need (ys.length < SL) >>= fun _ =>
      T.ret (.nx, (env.set l (.own (xs.eraseIdx j))).set i (.own (ys ++ [x])))) := by simp only [denS, bindassoc]
@[simp] theorem denS_setI (l : Nat) (i e : ME) : denS C (.setI l i e) env = (denE C e env >>= fun v => asD v >>= fun x => ownAt env l >>= fun xs => denE C i env >>= fun w => asD w >>= fun y => asInt y >>= fun k => opt (place xs.length k) >>= fun j => T.ret (.nx, env.set l (.own (xs.set j x)))) := by simp only [denS, bindassoc]
@[simp] theorem denS_setII (l : Nat) (i j e : ME) : denS C (.setII l i j e) env = (denE C e env >>= fun v => asD v >>= fun x => own2At env l >>= fun xss => denE C i env >>= fun w => asD w >>= fun y => asInt y >>= fun k => opt (place xss.length k) >>= fun p => opt xss[p]? >>= fun xs => denE C j env >>= fun w => asD w >>= fun y => asInt y >>= fun m =>
      opt (place xs.length m) >>= fun q => T.ret (.nx, env.set l (.own2 (xss.set p (xs.set q x))))) := by simp only [denS, bindassoc]
@[simp] theorem denS_aug (i : Nat) (op : O2) (e : ME) : denS C (.aug i op e) env = (denE C (.var i) env >>= fun v => asD v >>= fun x => asInt x >>= fun x => denE C e env >>= fun v => asD v >>= fun y => asInt y >>= fun y => o2 op (.int x) (.int y) >>= fun z => T.ret (.nx, env.set i (.v (.d z)))) := by
  simp only [denS, bindassoc]
@[simp] theorem denS_ex (e : ME) : denS C (.ex e) env = (denE C e env >>= fun _ => T.ret (.nx, env)) := by simp only [denS]
@[simp] theorem denS_ret (e : ME) : denS C (.ret e) env = (denE C e env >>= fun v => T.ret (.rt v, env)) := by simp only [denS]
@[simp] theorem denS_retN : denS C .retN env = T.ret (.rt (.d .none), env) := by simp only [denS]
@[simp] theorem denS_ite (c : ME) (a b : MSs) : denS C (.ite c a b) env = (denE C c env >>= fun v => asD v >>= fun x => asBool x >>= fun p => if p then denSs C a env else denSs C b env) := by simp only [denS, bindassoc]
@[simp] theorem denS_for (g : Bool) (tg : MT) (it : MI) (b : MSs) : denS C (.for g tg it b) env = (denI C it env >>= fun xs => guardL g xs >>= fun _ => forG (fun x env => asgT tg x env >>= fun env' => denSs C b env') xs env) := by simp only [denS]
@[simp] theorem denS_whl (c : ME) (b : MSs) : denS C (.whl c b) env = whlG (fun env => denE C c env >>= fun v => asD v >>= asBool) (fun env => denSs C b env) 16777216 env := by simp only [denS, bindassoc, SL]
@[simp] theorem denS_brk : denS C .brk env = T.ret (.bk, env) := by simp only [denS]
@[simp] theorem denS_cont : denS C .cont env = T.ret (.ct, env) := by simp only [denS]
@[simp] theorem denS_pass : denS C .pass env = T.ret (.nx, env) := by simp only [denS]
@[simp] theorem denS_never : denS C .never env = stuck := by simp only [denS]
@[simp] theorem denSs_nil : denSs C .nil env = T.ret (.nx, env) := by simp only [denSs]
@[simp] theorem denSs_cons (s : MS) (r : MSs) : denSs C (.cons s r) env = (denS C s env >>= fun p => match p.1 with
    | .nx => denSs C r p.2
    | f => T.ret (f, p.2)) := by
  simp only [denSs] <;> rfl
@[simp] theorem ownAt_own {i : Nat} {xs : List PyData} (h : env.at i = .own xs) : ownAt env i = T.ret xs := by
  unfold ownAt
  rw [h]
@[simp] theorem own2At_own {i : Nat} {xs : List (List PyData)} (h : env.at i = .own2 xs) : own2At env i = T.ret xs := by
  unfold own2At
  rw [h]
@[simp] theorem parSet_nil : parSet [] [] env = T.ret env := nr rfl
@[simp] theorem parSet_t (i : Nat) (is : List (Bool × Nat)) (xs : List PyData) (vs : List PV) : parSet ((true, i) :: is) (.d (.list xs) :: vs) env = parSet is vs (env.set i (.own xs)) := nr rfl
@[simp] theorem parSet_f (i : Nat) (is : List (Bool × Nat)) (v : PV) (vs : List PV) : parSet ((false, i) :: is) (v :: vs) env = parSet is vs (env.set i (.v v)) := nr rfl
end
section
variable (xs ys : List PyData) (i j : Int) (a b : PyData) (p q : Bool)
@[simp] theorem o1_len_l : o1 .len (.list xs) = T.ret (.int xs.length) := nr rfl
@[simp] theorem o1_len_t : o1 .len (.tuple xs) = T.ret (.int xs.length) := nr rfl
@[simp] theorem o1_tuple_l : o1 .tuple (.list xs) = T.ret (.tuple xs) := nr rfl
@[simp] theorem o1_tuple_t : o1 .tuple (.tuple xs) = T.ret (.tuple xs) := nr rfl
@[simp] theorem o1_list_l : o1 .list (.list xs) = T.ret (.list xs) := nr rfl
@[simp] theorem o1_list_t : o1 .list (.tuple xs) = T.ret (.list xs) := nr rfl
@[simp] theorem o1_sorted_l : o1 .sorted (.list xs) = (sortD xs >>= fun ys => T.ret (.list ys)) := nr rfl
theorem o1_sortedSet_l : o1 .sortedSet (.list xs) = (opt (intsOf xs) >>= fun ns => need (ns.length ≤ 4000) >>= fun _ => T.ret (.list ((sortI (dedup ns)).map .int))) := rfl
theorem o1_lenSet_l : o1 .lenSet (.list xs) = (opt (intsOf xs) >>= fun ns => need (ns.length ≤ 4000) >>= fun _ => T.ret (.int (dedup ns).length)) := rfl
theorem o1_minL_l : o1 .minL (.list xs) = (opt (intsOf xs) >>= fun ns => need (0 < ns.length) >>= fun _ => T.ret (.int (minI ns))) := rfl
theorem o1_maxL_l : o1 .maxL (.list xs) = (opt (intsOf xs) >>= fun ns => need (0 < ns.length) >>= fun _ => T.ret (.int (maxI ns))) := rfl
theorem o1_sumL_l : o1 .sumL (.list xs) = (opt (intsOf xs) >>= fun ns => T.ret (.int ns.sum)) := rfl
theorem o1_allL_l : o1 .allL (.list xs) = (opt (boolsOf xs) >>= fun bs => T.ret (.bool (bs.all id))) := rfl
theorem o1_anyL_l : o1 .anyL (.list xs) = (opt (boolsOf xs) >>= fun bs => T.ret (.bool (bs.any id))) := rfl
@[simp] theorem o1_sortedSet_i (ns : List Int) : o1 .sortedSet (.list (ns.map .int)) = (need (ns.length ≤ 4000) >>= fun _ => T.ret (.list ((sortI (dedup ns)).map .int))) := by simp [o1_sortedSet_l]
@[simp] theorem o1_lenSet_i (ns : List Int) : o1 .lenSet (.list (ns.map .int)) = (need (ns.length ≤ 4000) >>= fun _ => T.ret (.int (dedup ns).length)) := by simp [o1_lenSet_l]
@[simp] theorem o1_sortedSet_ti (ns : List Int) : o1 .sortedSet (.tuple (ns.map .int)) = (need (ns.length ≤ 4000) >>= fun _ => T.ret (.list ((sortI (dedup ns)).map .int))) := by
  have e : o1 .sortedSet (.tuple (ns.map .int)) = (opt (intsOf (ns.map .int)) >>= fun ns => need (ns.length ≤ 4000) >>= fun _ => T.ret (.list ((sortI (dedup ns)).map .int))) := rfl
  rw [e]; simp
@[simp] theorem o1_lenSet_ti (ns : List Int) : o1 .lenSet (.tuple (ns.map .int)) = (need (ns.length ≤ 4000) >>= fun _ => T.ret (.int (dedup ns).length)) := by
  have e : o1 .lenSet (.tuple (ns.map .int)) = (opt (intsOf (ns.map .int)) >>= fun ns => need (ns.length ≤ 4000) >>= fun _ => T.ret (.int (dedup ns).length)) := rfl
  rw [e]; simp
@[simp] theorem o1_minL_i (ns : List Int) : o1 .minL (.list (ns.map .int)) = (need (0 < ns.length) >>= fun _ => T.ret (.int (minI ns))) := by simp [o1_minL_l]
@[simp] theorem o1_maxL_i (ns : List Int) : o1 .maxL (.list (ns.map .int)) = (need (0 < ns.length) >>= fun _ => T.ret (.int (maxI ns))) := by simp [o1_maxL_l]
@[simp] theorem o1_minL_ti (ns : List Int) : o1 .minL (.tuple (ns.map .int)) = (need (0 < ns.length) >>= fun _ => T.ret (.int (minI ns))) := by
  have e : o1 .minL (.tuple (ns.map .int)) = (opt (intsOf (ns.map .int)) >>= fun ns => need (0 < ns.length) >>= fun _ => T.ret (.int (minI ns))) := rfl
  rw [e]; simp
@[simp] theorem o1_maxL_ti (ns : List Int) : o1 .maxL (.tuple (ns.map .int)) = (need (0 < ns.length) >>= fun _ => T.ret (.int (maxI ns))) := by
  have e : o1 .maxL (.tuple (ns.map .int)) = (opt (intsOf (ns.map .int)) >>= fun ns => need (0 < ns.length) >>= fun _ => T.ret (.int (maxI ns))) := rfl
  rw [e]; simp
@[simp] theorem o1_sumL_i (ns : List Int) : o1 .sumL (.list (ns.map .int)) = T.ret (.int ns.sum) := by simp [o1_sumL_l]
@[simp] theorem o1_allL_i (bs : List Bool) : o1 .allL (.list (bs.map .bool)) = T.ret (.bool (bs.all id)) := by simp [o1_allL_l]
@[simp] theorem o1_anyL_i (bs : List Bool) : o1 .anyL (.list (bs.map .bool)) = T.ret (.bool (bs.any id)) := by simp [o1_anyL_l]
@[simp] theorem sortD_i (ns : List Int) : sortD (ns.map .int) = T.ret ((sortI ns).map .int) := by simp [sortD]
@[simp] theorem o1_abs : o1 .abs (.int i) = T.ret (.int (absI i)) := nr rfl
@[simp] theorem o1_int_i : o1 .int (.int i) = T.ret (.int i) := nr rfl
@[simp] theorem o1_int_b : o1 .int (.bool p) = T.ret (.int (bI p)) := nr rfl
@[simp] theorem o1_repr : o1 .repr a = reprD a := by cases a <;> rfl
@[simp] theorem o1_neg : o1 .neg (.int i) = T.ret (.int (-i)) := nr rfl
@[simp] theorem o1_not : o1 .not (.bool p) = T.ret (.bool (!p)) := nr rfl
@[simp] theorem o1_rev_t : o1 .rev (.tuple xs) = T.ret (.tuple xs.reverse) := nr rfl
@[simp] theorem o1_sorted_t : o1 .sorted (.tuple xs) = (sortD xs >>= fun ys => T.ret (.list ys)) := nr rfl
@[simp] theorem o1_rev : o1 .rev (.list xs) = T.ret (.list xs.reverse) := nr rfl
def isNoneD : PyData → Bool
  | .none => true
  | _ => false
@[simp] theorem isNoneD_none : isNoneD .none = true := nr rfl
@[simp] theorem isNoneD_int : isNoneD (.int i) = false := nr rfl
@[simp] theorem isNoneD_bool : isNoneD (.bool p) = false := nr rfl
@[simp] theorem isNoneD_str (s : Str) : isNoneD (.str s) = false := nr rfl
@[simp] theorem isNoneD_tuple : isNoneD (.tuple xs) = false := nr rfl
@[simp] theorem isNoneD_list : isNoneD (.list xs) = false := nr rfl
@[simp] theorem o1_isNone : o1 .isNone a = T.ret (.bool (isNoneD a)) := by cases a <;> rfl
@[simp] theorem o1_notNone : o1 .notNone a = T.ret (.bool (!isNoneD a)) := by cases a <;> rfl
@[simp] theorem o2_add_i : o2 .add (.int i) (.int j) = T.ret (.int (i + j)) := nr rfl
@[simp] theorem o2_add_l : o2 .add (.list xs) (.list ys) = (need (xs.length + ys.length ≤ SL) >>= fun _ => T.ret (.list (xs ++ ys))) := nr rfl
@[simp] theorem o2_add_t : o2 .add (.tuple xs) (.tuple ys) = (need (xs.length + ys.length ≤ SL) >>= fun _ => T.ret (.tuple (xs ++ ys))) := nr rfl
@[simp] theorem o2_sub_i : o2 .sub (.int i) (.int j) = T.ret (.int (i - j)) := nr rfl
@[simp] theorem o2_mul_i : o2 .mul (.int i) (.int j) = (need (small i ∨ small j) >>= fun _ => T.ret (.int (i * j))) := nr rfl
@[simp] theorem o2_mul_t : o2 .mul (.tuple xs) (.int j) = (need (-1000 ≤ j ∧ j ≤ 1000 ∧ xs.length ≤ 1000) >>= fun _ => T.ret (.tuple (List.replicate j.toNat xs).flatten)) := nr rfl
@[simp] theorem o2_mul_l : o2 .mul (.list xs) (.int j) = (need (0 ≤ j ∧ j < 4611686018427387904 ∧ xs.length * j.toNat ≤ SL) >>= fun _ => T.ret (.list (List.replicate j.toNat xs).flatten)) := nr rfl
@[simp] theorem o2_mod_i : o2 .mod (.int i) (.int j) = (need (0 < j) >>= fun _ => T.ret (.int (i % j))) := nr rfl
@[simp] theorem o2_fdiv_i : o2 .fdiv (.int i) (.int j) = (need (0 < j ∧ j < 1073741824) >>= fun _ => T.ret (.int (i / j))) := nr rfl
@[simp] theorem o2_pow_i : o2 .pow (.int i) (.int j) = (need (0 ≤ j ∧ j ≤ 1000000 ∧ i.natAbs < 2 ^ 64) >>= fun _ => T.ret (.int (i ^ j.toNat))) := nr rfl
@[simp] theorem o2_eq : o2 .eq a b = (eqD a b >>= fun r => T.ret (.bool r)) := by cases a <;> cases b <;> rfl
@[simp] theorem o2_ne : o2 .ne a b = (eqD a b >>= fun r => T.ret (.bool (!r))) := by cases a <;> cases b <;> rfl
@[simp] theorem o2_lt : o2 .lt a b = (ltD a b >>= fun r => T.ret (.bool r)) := by cases a <;> cases b <;> rfl
@[simp] theorem o2_le : o2 .le a b = (leD a b >>= fun r => T.ret (.bool r)) := by cases a <;> cases b <;> rfl
@[simp] theorem o2_gt : o2 .gt (.int i) (.int j) = T.ret (.bool (decide (j < i))) := nr rfl
@[simp] theorem o2_ge : o2 .ge (.int i) (.int j) = T.ret (.bool (decide (j ≤ i))) := nr rfl
@[simp] theorem o2_in_l : o2 .inn a (.list xs) = (inD a xs >>= fun r => T.ret (.bool r)) := by cases a <;> rfl
@[simp] theorem o2_in_t : o2 .inn a (.tuple xs) = (inD a xs >>= fun r => T.ret (.bool r)) := by cases a <;> rfl
@[simp] theorem o2_ni_l : o2 .notIn a (.list xs) = (inD a xs >>= fun r => T.ret (.bool (!r))) := by cases a <;> rfl
@[simp] theorem o2_ni_t : o2 .notIn a (.tuple xs) = (inD a xs >>= fun r => T.ret (.bool (!r))) := by cases a <;> rfl
@[simp] theorem o2_ix_l : o2 .ix (.list xs) (.int i) = seqAt xs i := nr rfl
@[simp] theorem o2_ix_t : o2 .ix (.tuple xs) (.int i) = seqAt xs i := nr rfl
@[simp] theorem o2_max : o2 .max2 (.int i) (.int j) = T.ret (.int (max i j)) := nr rfl
@[simp] theorem o2_min : o2 .min2 (.int i) (.int j) = T.ret (.int (min i j)) := nr rfl
@[simp] theorem o2_count : o2 .count (.list xs) a = (countD a xs >>= fun n => T.ret (.int n)) := nr rfl
@[simp] theorem o2_index : o2 .index (.list xs) a = (indexD a xs >>= fun n => T.ret (.int n)) := nr rfl
@[simp] theorem o2_count_t : o2 .count (.tuple xs) a = (countD a xs >>= fun n => T.ret (.int n)) := nr rfl
@[simp] theorem o2_index_t : o2 .index (.tuple xs) a = (indexD a xs >>= fun n => T.ret (.int n)) := nr rfl
@[simp] theorem ltD_i : ltD (.int i) (.int j) = T.ret (decide (i < j)) := nr rfl
@[simp] theorem leD_i : leD (.int i) (.int j) = T.ret (decide (i ≤ j)) := nr rfl
theorem eqv_nil_l (xs : List PyData) : PyData.eqvAll xs [] = xs.isEmpty := by cases xs <;> simp [PyData.eqvAll]
theorem eqD_sh {a b : PyData} (ha : SeqAt.shaped a = true) (hb : SeqAt.shaped b = true) : eqD a b = T.ret (PyData.eqv a b) := by
  unfold eqD
  split
  · rename_i r h
    unfold nilP at h
    split at h
    · simp [SeqAt.shaped, PyData.canLay0] at ha
    · cases h
      simp only [PyData.eqv, eqv_nil_l]
    · cases h
      simp only [PyData.eqv, eqv_nil_l]
    · cases h
  · rw [need_pos ⟨ha, hb⟩]
    rfl
theorem eqD_nil_t (xs : List PyData) : eqD (.tuple xs) (.tuple []) = T.ret xs.isEmpty := nr rfl
theorem eqD_nil_l (xs : List PyData) : eqD (.list xs) (.list []) = T.ret xs.isEmpty := nr rfl
@[simp] theorem eqD_d0 : eqD (.dict []) (.dict []) = T.ret true := nr rfl
theorem shaped_ints_p (ns : List Int) : SeqAt.shaped (.list (ns.map .int)) = true := by
  have h1 : PyData.canLayAll0 (ns.map .int) = true := by
    induction ns with
    | nil => rfl
    | cons n ns ih => simpa [PyData.canLayAll0, PyData.canLay0] using ih
  have h2 : PyData.depthAll (ns.map .int) = 0 := by
    clear h1
    induction ns with
    | nil => rfl
    | cons n ns ih => simpa [PyData.depthAll, PyData.depth] using ih
  simp [SeqAt.shaped, PyData.canLay0, PyData.depth, h1, h2]
theorem shaped_bools_p (ns : List Bool) : SeqAt.shaped (.list (ns.map .bool)) = true := by
  have h1 : PyData.canLayAll0 (ns.map .bool) = true := by
    induction ns with
    | nil => rfl
    | cons n ns ih => simpa [PyData.canLayAll0, PyData.canLay0] using ih
  have h2 : PyData.depthAll (ns.map .bool) = 0 := by
    clear h1
    induction ns with
    | nil => rfl
    | cons n ns ih => simpa [PyData.depthAll, PyData.depth] using ih
  simp [SeqAt.shaped, PyData.canLay0, PyData.depth, h1, h2]
@[simp] theorem countD_i (ns : List Int) : countD (.int i) (ns.map .int) = T.ret (ns.count i) := by
  unfold countD
  rw [need_pos ⟨by simp [SeqAt.shaped, PyData.canLay0, PyData.depth], shaped_ints_p ns⟩, ret_bind, List.countP_map]
  rfl
@[simp] theorem countD_bs (ns : List Bool) : countD (.bool p) (ns.map .bool) = T.ret (ns.count p) := by
  unfold countD
  rw [need_pos ⟨by simp [SeqAt.shaped, PyData.canLay0, PyData.depth], shaped_bools_p ns⟩, ret_bind, List.countP_map]
  rfl
@[simp] theorem eqD_i : eqD (.int i) (.int j) = T.ret (decide (i = j)) := by
  rw [eqD_sh (by simp [SeqAt.shaped, PyData.canLay0, PyData.depth]) (by simp [SeqAt.shaped, PyData.canLay0, PyData.depth])]
  simp only [PyData.eqv]
  rfl
@[simp] theorem eqD_b : eqD (.bool p) (.bool q) = T.ret (p == q) := by
  rw [eqD_sh (by simp [SeqAt.shaped, PyData.canLay0, PyData.depth]) (by simp [SeqAt.shaped, PyData.canLay0, PyData.depth])]
  simp only [PyData.eqv]
@[simp] theorem sliceD_l (lo hi : Option Int) : sliceD lo hi (.list xs) = T.ret (.list (cut xs lo hi)) := nr rfl
@[simp] theorem sliceD_t (lo hi : Option Int) : sliceD lo hi (.tuple xs) = T.ret (.tuple (cut xs lo hi)) := nr rfl
theorem seqAt_ok {xs : List PyData} {n : Nat} {x : PyData} (h : xs[n]? = some x) : seqAt xs (n : Int) = T.ret x := by
  have hl : n < xs.length := by
    rcases Nat.lt_or_ge n xs.length with h' | h'
    · exact h'
    · rw [List.getElem?_eq_none h'] at h; cases h
  unfold seqAt
  have e : place xs.length (n : Int) = some n := by
    unfold place
    rw [if_pos (by omega), if_pos (by omega)]
    simp
  rw [e]
  simp only [h]
@[simp] theorem isTy_int (t : Ty) : isTy (.int i) t = decide (t = .int) := by cases t <;> rfl
@[simp] theorem isTy_bool (t : Ty) : isTy (.bool p) t = (decide (t = .bool) || decide (t = .int)) := by cases t <;> rfl
@[simp] theorem isTy_str (t : Ty) (s : Str) : isTy (.str s) t = decide (t = .str) := by cases t <;> rfl
@[simp] theorem isTy_tuple (t : Ty) : isTy (.tuple xs) t = decide (t = .tuple) := by cases t <;> rfl
@[simp] theorem isTy_list (t : Ty) : isTy (.list xs) t = decide (t = .list) := by cases t <;> rfl
@[simp] theorem isTy_none (t : Ty) : isTy .none t = false := by cases t <;> rfl
end
/-- a def's end -/
def fin (p : Fl × Ev) : T PV := match p.1 with
  | .rt v => T.ret v
  | .nx => T.ret (.d .none)
  | _ => stuck
@[simp] theorem fin_rt (v : PV) (e : Ev) : fin (.rt v, e) = T.ret v := nr rfl
@[simp] theorem fin_nx (e : Ev) : fin (.nx, e) = T.ret (.d .none) := nr rfl
mutual
def plainD : PyData → Bool
  | .none => true
  | .int _ => true
  | .str s => PyData.strOk s
  | .tuple xs => plainDs xs
  | .list xs => plainDs xs
  | .bool _ => false
  | .dict _ => false
def plainDs : List PyData → Bool
  | [] => true
  | x :: xs => plainD x && plainDs xs
end
mutual
theorem plain_canLay : ∀ d : PyData, plainD d = true → d.canLay0 = true
  | .none, _ => rfl
  | .int _, _ => by simp only [PyData.canLay0]
  | .str s, h => by simpa only [PyData.canLay0, plainD] using h
  | .tuple xs, h => by
    simp only [PyData.canLay0, plainD] at h ⊢
    exact plain_canLays xs h
  | .list xs, h => by
    simp only [PyData.canLay0, plainD] at h ⊢
    exact plain_canLays xs h
  | .bool _, h => by simp only [PyData.canLay0]
  | .dict _, h => by simp [plainD] at h
theorem plain_canLays : ∀ ds : List PyData, plainDs ds = true → PyData.canLayAll0 ds = true
  | [], _ => by simp only [PyData.canLayAll0]
  | x :: xs, h => by
    simp only [PyData.canLayAll0, plainDs, Bool.and_eq_true] at h ⊢
    exact ⟨plain_canLay x h.1, plain_canLays xs h.2⟩
end
mutual
theorem eqv_plain : ∀ a b : PyData, plainD a = true → plainD b = true → (PyData.eqv a b = true ↔ a = b)
  | .none, b, ha, hb => by cases b <;> simp [PyData.eqv, plainD] at hb ⊢
  | .int i, b, ha, hb => by cases b <;> simp [PyData.eqv, plainD] at hb ⊢
  | .str s, b, ha, hb => by cases b <;> simp [PyData.eqv, plainD] at hb ⊢
  | .tuple xs, .tuple ys, ha, hb => by
    simp only [PyData.eqv, plainD] at ha hb ⊢
    rw [eqv_plains xs ys ha hb]
    simp
  | .list xs, .list ys, ha, hb => by
    simp only [PyData.eqv, plainD] at ha hb ⊢
    rw [eqv_plains xs ys ha hb]
    simp
  | .tuple xs, .none, ha, hb => by simp [PyData.eqv]
  | .tuple xs, .int _, ha, hb => by simp [PyData.eqv]
  | .tuple xs, .str _, ha, hb => by simp [PyData.eqv]
  | .tuple xs, .list _, ha, hb => by simp [PyData.eqv]
  | .tuple xs, .bool _, ha, hb => by simp [plainD] at hb
  | .tuple xs, .dict _, ha, hb => by simp [plainD] at hb
  | .list xs, .none, ha, hb => by simp [PyData.eqv]
  | .list xs, .int _, ha, hb => by simp [PyData.eqv]
  | .list xs, .str _, ha, hb => by simp [PyData.eqv]
  | .list xs, .tuple _, ha, hb => by simp [PyData.eqv]
  | .list xs, .bool _, ha, hb => by simp [plainD] at hb
  | .list xs, .dict _, ha, hb => by simp [plainD] at hb
  | .bool _, b, ha, hb => by simp [plainD] at ha
  | .dict _, b, ha, hb => by simp [plainD] at ha
theorem eqv_plains : ∀ xs ys : List PyData, plainDs xs = true → plainDs ys = true → (PyData.eqvAll xs ys = true ↔ xs = ys)
  | [], [], _, _ => by simp [PyData.eqvAll]
  | [], y :: ys, _, _ => by simp [PyData.eqvAll]
  | x :: xs, [], _, _ => by simp [PyData.eqvAll]
  | x :: xs, y :: ys, ha, hb => by
    simp only [plainDs, Bool.and_eq_true] at ha hb
    simp only [PyData.eqvAll, Bool.and_eq_true, eqv_plain x y ha.1 hb.1, eqv_plains xs ys ha.2 hb.2, List.cons.injEq]
end
theorem plain_shaped {d : PyData} (h : plainD d = true) (hd : d.depth ≤ 64) : SeqAt.shaped d = true := by
  unfold SeqAt.shaped
  simp [plain_canLay d h, hd]
theorem eqD_plain {a b : PyData} (ha : plainD a = true) (hb : plainD b = true) (da : a.depth ≤ 64) (db : b.depth ≤ 64) {r : Bool} (hr : r = true ↔ a = b) : eqD a b = T.ret r := by
  rw [eqD_sh (plain_shaped ha da) (plain_shaped hb db)]
  congr 1
  rw [Bool.eq_iff_iff, eqv_plain a b ha hb, hr]
theorem eqD_same {a : PyData} (ha : a.canLay0 = true) (da : a.depth ≤ 64) : eqD a a = T.ret true := by
  have s : SeqAt.shaped a = true := by
    unfold SeqAt.shaped
    simp [ha, da]
  rw [eqD_sh s s, SeqAt.eqv_refl a ha]

section
variable {α β γ : Type} {Q : γ → Prop}
theorem mapT_ret {f : α → T β} {g : α → β} : ∀ {xs : List α}, (∀ x ∈ xs, f x = T.ret (g x)) → mapT f xs = T.ret (xs.map g)
  | [], _ => rfl
  | x :: xs, h => by
    rw [mapT, h x List.mem_cons_self, ret_bind, mapT_ret fun y hy => h y (List.mem_cons_of_mem _ hy)]
    rfl
theorem appT_ret {f : α → T (List β)} {g : α → List β} : ∀ {xs : List α}, (∀ x ∈ xs, f x = T.ret (g x)) → appT f xs = T.ret (xs.flatMap g)
  | [], _ => rfl
  | x :: xs, h => by
    rw [appT, h x List.mem_cons_self, ret_bind, appT_ret fun y hy => h y (List.mem_cons_of_mem _ hy)]
    rfl
theorem filT_ret {f : α → T (Option β)} {g : α → Option β} : ∀ {xs : List α}, (∀ x ∈ xs, f x = T.ret (g x)) → filT f xs = T.ret (xs.filterMap g)
  | [], _ => rfl
  | x :: xs, h => by
    rw [filT, h x List.mem_cons_self, ret_bind, filT_ret fun y hy => h y (List.mem_cons_of_mem _ hy)]
    rw [ret_bind, List.filterMap_cons]
    cases g x <;> rfl
theorem mapT_map {δ : Type} {f : α → T β} {g : δ → α} : ∀ {xs : List δ}, mapT f (xs.map g) = mapT (fun x => f (g x)) xs
  | [] => rfl
  | x :: xs => by rw [List.map_cons, mapT, mapT, mapT_map]
theorem appT_map {δ : Type} {f : α → T (List β)} {g : δ → α} : ∀ {xs : List δ}, appT f (xs.map g) = appT (fun x => f (g x)) xs
  | [] => rfl
  | x :: xs => by rw [List.map_cons, appT, appT, appT_map]
theorem filT_map_p {δ : Type} {f : α → T (Option β)} {g : δ → α} : ∀ {xs : List δ}, filT f (xs.map g) = filT (fun x => f (g x)) xs
  | [] => rfl
  | x :: xs => by rw [List.map_cons, filT, filT, filT_map_p]
theorem filT_if {f : α → T (Option β)} {c : α → Bool} {v : α → β} : ∀ {xs : List α}, (∀ x ∈ xs, f x = T.ret (if c x then some (v x) else none)) → filT f xs = T.ret ((xs.filter c).map v)
  | [], _ => rfl
  | x :: xs, h => by
    rw [filT, h x List.mem_cons_self, ret_bind, filT_if fun y hy => h y (List.mem_cons_of_mem _ hy), ret_bind, List.filter_cons]
    cases c x <;> rfl
/-- item by item -/
inductive All2 (P : α → β → Prop) : List α → List β → Prop
  | nil : All2 P [] []
  | cons {x y xs ys} : P x y → All2 P xs ys → All2 P (x :: xs) (y :: ys)
theorem All2.length {P : α → β → Prop} : ∀ {xs : List α} {ys : List β}, All2 P xs ys → ys.length = xs.length
  | _, _, .nil => rfl
  | _, _, .cons _ h => by simp [h.length]
theorem All2.get {P : α → β → Prop} : ∀ {xs : List α} {ys : List β} {i : Nat} {x : α} {y : β}, All2 P xs ys → xs[i]? = some x → ys[i]? = some y → P x y
  | _, _, 0, _, _, .cons h _, h1, h2 => by
    simp at h1 h2
    subst h1 h2
    exact h
  | _, _, i + 1, _, _, .cons _ h, h1, h2 => h.get (i := i) (by simpa using h1) (by simpa using h2)
  | _, _, _, _, _, .nil, h1, _ => by simp at h1
theorem W_mapT {f : α → T β} {P : α → β → Prop} {k : List β → T γ} : ∀ {xs : List α}, (∀ x ∈ xs, W (P x) (f x)) → (∀ ys, All2 P xs ys → W Q (k ys)) → W Q (mapT f xs >>= k)
  | [], _, hk => hk [] .nil
  | x :: xs, h, hk => by
    rw [mapT, bindassoc]
    refine W_use (h x List.mem_cons_self) fun y hy => ?_
    rw [bindassoc]
    refine W_mapT (fun z hz => h z (List.mem_cons_of_mem _ hz)) fun ys hys => ?_
    exact hk (y :: ys) (.cons hy hys)
theorem All2.of_map {δ : Type} {g : δ → β} {P : α → δ → Prop} : ∀ {xs : List α} {ys : List β}, All2 (fun x y => ∃ d, y = g d ∧ P x d) xs ys → ∃ ds, ys = ds.map g ∧ All2 P xs ds
  | _, _, .nil => ⟨[], rfl, .nil⟩
  | _, _, .cons ⟨d, e, p⟩ h => by
    obtain ⟨ds, e2, h2⟩ := h.of_map
    exact ⟨d :: ds, by rw [e, e2]; rfl, .cons p h2⟩
theorem All2.all {P : β → Prop} : ∀ {xs : List α} {ys : List β}, All2 (fun _ y => P y) xs ys → ∀ y ∈ ys, P y
  | _, _, .nil, y, h => by cases h
  | _, _, .cons p h, y, hy => by
    rcases List.mem_cons.mp hy with rfl | hy
    · exact p
    · exact h.all y hy
theorem All2.mem {P : α → β → Prop} : ∀ {xs : List α} {ys : List β}, All2 P xs ys → ∀ y ∈ ys, ∃ x ∈ xs, P x y
  | _, _, .nil, y, h => by cases h
  | _, _, .cons p h, y, hy => by
    rcases List.mem_cons.mp hy with rfl | hy
    · exact ⟨_, List.mem_cons_self, p⟩
    · obtain ⟨x, hx, q⟩ := h.mem y hy
      exact ⟨x, List.mem_cons_of_mem _ hx, q⟩
/-- a comprehension that draws: its items are g of something -/
theorem W_mapG {δ : Type} {f : α → T β} (g : δ → β) (P : α → δ → Prop) {k : List β → T γ} {xs : List α} (h : ∀ x ∈ xs, ∀ J : β → Prop, (∀ d, P x d → J (g d)) → W J (f x)) (hk : ∀ ds, All2 P xs ds → W Q (k (ds.map g))) : W Q (mapT (fun x => nox (f x)) xs >>= k) :=
  W_mapT (P := fun x y => ∃ d, y = g d ∧ P x d) (fun x hx => (W_nox _).mpr (h x hx _ fun d hd => ⟨d, rfl, hd⟩)) fun ys hy => by
    obtain ⟨ds, rfl, h2⟩ := hy.of_map
    exact hk ds h2
theorem W_mapG' {δ : Type} {f : α → T β} (g : δ → β) (P : α → δ → Prop) {xs : List α} {Q : List β → Prop} (h : ∀ x ∈ xs, ∀ J : β → Prop, (∀ d, P x d → J (g d)) → W J (f x)) (hk : ∀ ds, All2 P xs ds → Q (ds.map g)) : W Q (mapT (fun x => nox (f x)) xs) := by
  rw [← bind_ret (mapT _ xs)]
  exact W_mapG g P h fun ds hd => wR (hk ds hd)
end
/-- how a body's end is read in a loop -/
def stepQ (N : Ev → Prop) (R : Fl × Ev → Prop) : Fl × Ev → Prop
  | (.nx, e) => N e
  | (.ct, e) => N e
  | (.bk, e) => R (.nx, e)
  | (.rt v, e) => R (.rt v, e)
@[simp] theorem stepQ_nx {N R} {e : Ev} : stepQ N R (.nx, e) = N e := nr rfl
@[simp] theorem stepQ_ct {N R} {e : Ev} : stepQ N R (.ct, e) = N e := nr rfl
@[simp] theorem stepQ_bk {N R} {e : Ev} : stepQ N R (.bk, e) = R (.nx, e) := nr rfl
@[simp] theorem stepQ_rt {N R} {e : Ev} {v : PV} : stepQ N R (.rt v, e) = R (.rt v, e) := nr rfl
theorem W_forG {body : PyData → Ev → T (Fl × Ev)} {R : Fl × Ev → Prop} {I : Nat → Ev → Prop} : ∀ {xs : List PyData} {j : Nat} {env : Ev}, I j env →
    (∀ i x env, xs[i]? = some x → I (j + i) env → W (stepQ (I (j + i + 1)) R) (body x env)) → (∀ env, I (j + xs.length) env → R (.nx, env)) → W R (forG body xs env)
  | [], j, env, h0, hs, he => wR (he env h0)
  | x :: xs, j, env, h0, hs, he => by
    rw [forG]
    refine W_use (hs 0 x env rfl h0) fun p hp => ?_
    obtain ⟨f, e⟩ := p
    have go : I (j + 1) e → W R (forG body xs e) := fun h => W_forG (I := I) (j := j + 1) h (fun i y env hy hi => by
      have e1 : j + 1 + i = j + (i + 1) := by omega
      rw [e1] at hi ⊢
      exact hs (i + 1) y env (by simpa using hy) hi) fun env h => he env (by
      have e1 : j + 1 + xs.length = j + (x :: xs).length := by simp; omega
      rwa [e1] at h)
    cases f with
    | nx => exact go hp
    | ct => exact go hp
    | bk => exact wR hp
    | rt v => exact wR hp
/-- a for, by its invariant over the number of turns -/
theorem W_for {γ : Type} {Q : γ → Prop} {k : Fl × Ev → T γ} {body : PyData → Ev → T (Fl × Ev)} {xs : List PyData} {env : Ev} (I : Nat → Ev → Prop) (h0 : I 0 env)
    (hs : ∀ i x env, xs[i]? = some x → I i env → ∀ (J : Ev → Prop) (R : Fl × Ev → Prop), (∀ e, I (i + 1) e → J e) → (∀ p, W Q (k p) → R p) → W (stepQ J R) (body x env)) (he : ∀ env, I xs.length env → W Q (k (.nx, env))) : W Q (forG body xs env >>= k) := by
  rw [W_bind]
  refine W_forG (I := I) (j := 0) h0 (fun i x env hx hi => ?_) fun env h => he env (by rwa [Nat.zero_add] at h)
  rw [Nat.zero_add] at hi ⊢
  exact hs i x env hx hi _ _ (fun e h => h) fun p h => h
/-- the same, the for at the end -/
theorem W_forE {Q : Fl × Ev → Prop} {body : PyData → Ev → T (Fl × Ev)} {xs : List PyData} {env : Ev} (I : Nat → Ev → Prop) (h0 : I 0 env)
    (hs : ∀ i x env, xs[i]? = some x → I i env → ∀ (J : Ev → Prop) (R : Fl × Ev → Prop), (∀ e, I (i + 1) e → J e) → (∀ p, Q p → R p) → W (stepQ J R) (body x env)) (he : ∀ env, I xs.length env → Q (.nx, env)) : W Q (forG body xs env) := by
  refine W_forG (I := I) (j := 0) h0 (fun i x env hx hi => ?_) fun env h => he env (by rwa [Nat.zero_add] at h)
  rw [Nat.zero_add] at hi ⊢
  exact hs i x env hx hi _ _ (fun e h => h) fun p h => h
/-- what is wanted, by a name of its own -/
theorem wQ {α : Type} {Q : α → Prop} {x : T α} (h : ∀ J : α → Prop, (∀ a, Q a → J a) → W J x) : W Q x := h Q fun _ h => h
/-- a for that looks for the first turn that returns -/
theorem W_find {γ α δ : Type} {Q : γ → Prop} {k : Fl × Ev → T γ} {body : PyData → Ev → T (Fl × Ev)} (P : Ev → Prop) (g : α → PyData) (f : α → Option δ) (val : δ → PV) : ∀ {xs : List α} {env : Ev}, P env →
    (∀ x ∈ xs, ∀ env, P env → ∀ (J : Ev → Prop) (R : Fl × Ev → Prop), (f x = none → ∀ e, P e → J e) → (∀ d e, f x = some d → P e → R (.rt (val d), e)) → W (stepQ J R) (body (g x) env)) →
    (xs.findSome? f = none → ∀ e, P e → W Q (k (.nx, e))) → (∀ d, xs.findSome? f = some d → ∀ e, P e → W Q (k (.rt (val d), e))) → W Q (forG body (xs.map g) env >>= k)
  | [], env, h0, hs, hn, hr => by
    rw [List.map_nil, forG, ret_bind]
    exact hn rfl env h0
  | x :: xs, env, h0, hs, hn, hr => by
    rw [List.map_cons, forG, bindassoc]
    refine W_use (hs x List.mem_cons_self env h0 (fun e => f x = none ∧ P e) (fun p => ∃ d e, f x = some d ∧ P e ∧ p = (.rt (val d), e)) (fun h e he => ⟨h, he⟩) fun d e h he => ⟨d, e, h, he, rfl⟩) fun p hp => ?_
    obtain ⟨fl, e⟩ := p
    have go : f x = none ∧ P e → W Q (forG body (xs.map g) e >>= k) := fun ⟨h1, h2⟩ => W_find P g f val h2 (fun y hy => hs y (List.mem_cons_of_mem _ hy)) (fun h => hn (by rw [List.findSome?_cons, h1]; exact h)) fun d h => hr d (by rw [List.findSome?_cons, h1]; exact h)
    cases fl with
    | nx => exact go hp
    | ct => exact go hp
    | bk =>
      obtain ⟨d, e', _, _, h⟩ := hp
      cases h
    | rt v =>
      obtain ⟨d, e', h1, h2, h⟩ := hp
      cases h
      exact hr d (by rw [List.findSome?_cons, h1]) e h2
theorem W_whlG {c : Ev → T Bool} {body : Ev → T (Fl × Ev)} {R : Fl × Ev → Prop} {I : Nat → Ev → Prop} : ∀ {n m : Nat} {env : Ev}, m < n → I m env →
    (∀ m env, I m env → W (fun b => if b = true then ∃ m', m = m' + 1 ∧ W (stepQ (I m') R) (body env) else R (.nx, env)) (c env)) → W R (whlG c body n env)
  | 0, m, env, h, _, _ => absurd h (by omega)
  | n + 1, m, env, h, h0, hs => by
    rw [whlG]
    refine W_use (hs m env h0) fun b hb => ?_
    cases b with
    | false => exact wR hb
    | true =>
      obtain ⟨m', rfl, hb⟩ := hb
      refine W_use hb fun p hp => ?_
      obtain ⟨f, e⟩ := p
      cases f with
      | nx => exact W_whlG (n := n) (m := m') (by omega) hp hs
      | ct => exact W_whlG (n := n) (m := m') (by omega) hp hs
      | bk => exact wR hp
      | rt v => exact wR hp
/-- a while, by its invariant over a bound of the turns left -/
theorem W_whl {γ : Type} {Q : γ → Prop} {k : Fl × Ev → T γ} {c : Ev → T Bool} {body : Ev → T (Fl × Ev)} {env : Ev} (I : Nat → Ev → Prop) (m : Nat) (hm : m < 16777216) (h0 : I m env)
    (hs : ∀ m env, I m env → ∀ (J : Ev → Prop) (R : Fl × Ev → Prop), (∀ m' e, m = m' + 1 → I m' e → J e) → (∀ p, W Q (k p) → R p) → W (fun b => if b = true then 0 < m ∧ W (stepQ J R) (body env) else R (.nx, env)) (c env)) : W Q (whlG c body 16777216 env >>= k) := by
  rw [W_bind]
  refine W_whlG (I := I) (m := m) hm h0 fun m env hi => ?_
  cases m with
  | zero =>
    refine W.mono (fun b hb => ?_) _ (hs 0 env hi (fun _ => False) _ (fun m' e h => by omega) fun p h => h)
    cases b with
    | false => exact hb
    | true => exact absurd hb.1 (by omega)
  | succ m =>
    refine W.mono (fun b hb => ?_) _ (hs (m + 1) env hi (I m) _ (fun m' e h hi => by
      have : m' = m := by omega
      rwa [this] at hi) fun p h => h)
    cases b with
    | false => exact hb
    | true => exact ⟨m, rfl, hb.2⟩
theorem insI_mem {a x : Int} : ∀ {xs : List Int}, x ∈ insI a xs ↔ x = a ∨ x ∈ xs
  | [] => by simp [insI]
  | b :: r => by
    unfold insI
    split
    · simp
    · simp [insI_mem (xs := r)]
      constructor
      · rintro (h | h | h) <;> simp [h]
      · rintro (h | h | h) <;> simp [h]
theorem sortI_mem {x : Int} : ∀ {xs : List Int}, x ∈ sortI xs ↔ x ∈ xs
  | [] => by simp [sortI]
  | a :: r => by simp [sortI, insI_mem, sortI_mem (xs := r)]
theorem insI_len {a : Int} : ∀ {xs : List Int}, (insI a xs).length = xs.length + 1
  | [] => rfl
  | b :: r => by
    unfold insI
    split
    · simp
    · simp [insI_len (xs := r)]
theorem sortI_len : ∀ {xs : List Int}, (sortI xs).length = xs.length
  | [] => rfl
  | a :: r => by simp [sortI, insI_len, sortI_len (xs := r)]
theorem dedup_mem {x : Int} : ∀ {xs : List Int}, x ∈ dedup xs ↔ x ∈ xs
  | [] => by simp [dedup]
  | a :: r => by
    unfold dedup
    split
    · rename_i h
      simp [dedup_mem (xs := r)]
      rintro rfl
      exact h
    · simp [dedup_mem (xs := r)]
theorem dedup_len_p : ∀ {xs : List Int}, (dedup xs).length ≤ xs.length
  | [] => by simp [dedup]
  | a :: r => by
    unfold dedup
    have := dedup_len_p (xs := r)
    split
    · simp; omega
    · simp; omega
theorem insI_sorted_p {a : Int} : ∀ {xs : List Int}, xs.Pairwise (· ≤ ·) → (insI a xs).Pairwise (· ≤ ·)
  | [], _ => by simp [insI]
  | b :: r, h => by
    unfold insI
    rw [List.pairwise_cons] at h
    split
    · rename_i hab
      refine List.pairwise_cons.mpr ⟨fun x hx => ?_, List.pairwise_cons.mpr h⟩
      rcases List.mem_cons.mp hx with rfl | hx
      · exact hab
      · exact Int.le_trans hab (h.1 x hx)
    · rename_i hab
      refine List.pairwise_cons.mpr ⟨fun x hx => ?_, insI_sorted_p h.2⟩
      rcases insI_mem.mp hx with rfl | hx
      · omega
      · exact h.1 x hx
theorem sortI_sorted_p : ∀ {xs : List Int}, (sortI xs).Pairwise (· ≤ ·)
  | [] => by simp [sortI]
  | a :: r => insI_sorted_p sortI_sorted_p
theorem plainDs_ints (ns : List Int) : plainDs (ns.map .int) = true := by
  induction ns with
  | nil => rfl
  | cons n ns ih => simpa [plainDs, plainD] using ih
theorem depthAll_ints (ns : List Int) : PyData.depthAll (ns.map .int) = 0 := by
  induction ns with
  | nil => rfl
  | cons n ns ih => simpa [PyData.depthAll, PyData.depth] using ih
theorem ints_inj {a b : List Int} : a.map PyData.int = b.map PyData.int ↔ a = b := by
  constructor
  · intro h
    have := congrArg intsOf h
    simpa using this
  · exact fun h => h ▸ rfl
@[simp] theorem eqD_lints (a b : List Int) : eqD (.list (a.map .int)) (.list (b.map .int)) = T.ret (decide (a = b)) :=
  eqD_plain (by simpa [plainD] using plainDs_ints a) (by simpa [plainD] using plainDs_ints b) (by simp [PyData.depth, depthAll_ints]) (by simp [PyData.depth, depthAll_ints]) (by simp [ints_inj])
@[simp] theorem eqD_tints (a b : List Int) : eqD (.tuple (a.map .int)) (.tuple (b.map .int)) = T.ret (decide (a = b)) :=
  eqD_plain (by simpa [plainD] using plainDs_ints a) (by simpa [plainD] using plainDs_ints b) (by simp [PyData.depth, depthAll_ints]) (by simp [PyData.depth, depthAll_ints]) (by simp [ints_inj])
@[simp] theorem eqD_lints_nil (a : List Int) : eqD (.list (a.map .int)) (.list []) = T.ret (decide (a = [])) := eqD_lints a []
theorem asDs_map : ∀ ds : List PyData, asDs (ds.map PV.d) = T.ret ds
  | [] => rfl
  | d :: ds => by
    rw [List.map_cons, asDs, asD_d, ret_bind, asDs_map ds]
    rfl
theorem run_plain {C : Ctx} {fd : FD} {us : List PV} (hs : fd.star = false) (hn : us.length = fd.np) :
    runF C fd us = (denSs C fd.body (us.map Slot.v ++ List.replicate (fd.ns - fd.np) Slot.un) >>= fin) := by
  have e : argsF fd us = T.ret us := by
    unfold argsF
    rw [hs, if_neg (by simp), need_pos hn]
    rfl
  rw [runF, e, ret_bind]
  rfl
theorem run_star {C : Ctx} {fd : FD} {us : List PV} {ds : List PyData} (hs : fd.star = true) (hn : us.length + 1 = fd.np) (hl : ds.length ≤ 16777216) :
    runF C fd (us ++ ds.map PV.d) = (denSs C fd.body ((us ++ [PV.d (.tuple ds)]).map Slot.v ++ List.replicate (fd.ns - fd.np) Slot.un) >>= fin) := by
  have e : argsF fd (us ++ ds.map PV.d) = T.ret (us ++ [PV.d (.tuple ds)]) := by
    unfold argsF
    have e1 : fd.np - 1 = us.length := by omega
    rw [hs, if_pos rfl, e1, need_pos (by simp), ret_bind, List.drop_left, asDs_map, ret_bind, need_pos (show ds.length ≤ SL from hl), ret_bind, List.take_left]
  rw [runF, e, ret_bind]
  rfl
end Mp
namespace Mp
open PySem
abbrev i_law_one : Nat := 16
abbrev i_law_count : Nat := 18
abbrev i_law_grades : Nat := 19
abbrev i_law_level : Nat := 20
abbrev i_law_raised : Nat := 22
abbrev i_law_levels : Nat := 23
abbrev i_law_any : Nat := 24
abbrev i_law_nested_2 : Nat := 72
abbrev i_law_table_2 : Nat := 73
abbrev i_need_equal_sizes : Nat := 147
abbrev i_greater_levels : Nat := 148
abbrev i_is_below : Nat := 150
abbrev i_law_alone : Nat := 232
abbrev i_law_below : Nat := 237
abbrev i_law_moved_2 : Nat := 238
abbrev i_law_told_8 : Nat := 239
def B_law_one : MSs := (.cons (.ret (.o2 .ix (.var 1) (.draw 0 (.o1 .len (.var 1))))) .nil)
def F_law_one : FD := ⟨2, 2, B_law_one, false⟩
def B_law_count : MSs := (.cons (.ret (.o2 .ix (.lst (.cons (.var 1) (.cons (.o2 .add (.k (.int 1)) (.draw 0 (.var 1))) (.cons (.o2 .add (.k (.int 1)) (.draw 0 (.o2 .min2 (.var 1) (.k (.int 4))))) .nil)))) (.draw 0 (.k (.int 3))))) .nil)
def F_law_count : FD := ⟨2, 2, B_law_count, false⟩
def B_law_grades : MSs := (.cons (.par [(false, 3), (false, 4)] (.cons (.draw 0 (.k (.int 5))) (.cons (.o2 .add (.k (.int 1)) (.draw 0 (.k (.int 6)))) .nil))) (.cons (.asg 1 (.o2 .ix (.lst (.cons (.k (.int 2)) (.cons (.k (.int 4)) (.cons (.k (.int 12)) (.cons (.k (.int 100)) (.cons (.o2 .pow (.k (.int 10)) (.k (.int 12))) .nil)))))) (.var 3))) (.cons (.asg 2 (.lc true (.nm 5) (.range1 (.var 4)) (.o2 .add (.k (.int 1)) (.draw 0 (.var 1))))) (.cons (.ret (.o1 .sortedSet (.o2 .add (.var 2) (.o2 .mul (.lst (.cons (.o2 .pow (.k (.int 10)) (.k (.int 12))) .nil)) (.o1 .int (.o2 .eq (.draw 0 (.k (.int 8))) (.k (.int 0)))))))) .nil))))
def F_law_grades : FD := ⟨1, 6, B_law_grades, false⟩
def B_law_level : MSs := (.cons (.par [(false, 3), (false, 4)] (.cons (.o2 .min2 (.var 1) (.var 2)) (.cons (.o2 .max2 (.var 1) (.var 2)) .nil))) (.cons (.ret (.ife (.o2 .eq (.var 3) (.var 4)) (.k (.int 0)) (.o2 .ix (.o2 .ix (.var 0) (.var 4)) (.var 3)))) .nil))
def F_law_level : FD := ⟨3, 5, B_law_level, false⟩
def B_law_raised : MSs := (.cons (.asgO 3 (.lst .nil)) (.cons (.for true (.nm 4) (.seq (.var 1)) (.cons (.app 3 (.o1 .tuple (.lc true (.nm 5) (.seq (.var 4)) (.o2 .max2 (.var 5) (.call i_law_one (.cons (.var 0) (.cons (.o2 .add (.var 2) (.lst (.cons (.k (.int 1)) (.cons (.k (.int 1)) .nil)))) .nil))))))) .nil)) (.cons (.ret (.o1 .tuple (.rd 3))) .nil)))
def F_law_raised : FD := ⟨3, 6, B_law_raised, false⟩
def B_law_levels : MSs := (.cons (.ret (.o1 .tuple (.lc true (.nm 3) (.range1 (.var 1)) (.call i_law_one (.cons (.var 0) (.cons (.var 2) .nil)))))) .nil)
def F_law_levels : FD := ⟨3, 4, B_law_levels, false⟩
def B_law_any : MSs := (.cons (.ret (.o1 .tuple (.lc true (.nm 3) (.range1 (.var 1)) (.o2 .add (.k (.int 1)) (.draw 0 (.var 2)))))) .nil)
def F_law_any : FD := ⟨3, 4, B_law_any, false⟩
def B_law_nested_2 : MSs := (.cons (.asgO 3 (.lst (.cons (.tup .nil) .nil))) (.cons (.whl (.o2 .lt (.o1 .len (.rd 3)) (.var 1)) (.cons (.par [(false, 4), (false, 5)] (.cons (.draw 0 (.o1 .len (.rd 3))) (.cons (.call i_law_one (.cons (.var 0) (.cons (.var 2) .nil))) .nil))) (.cons (.app 3 (.o1 .tuple (.lc false (.nm 6) (.range1 (.o1 .len (.rd 3))) (.o2 .max2 (.var 5) (.brw (.call i_law_level (.cons (.var 3) (.cons (.var 4) (.cons (.var 6) .nil))))))))) .nil))) (.cons (.ret (.o1 .tuple (.rd 3))) .nil)))
def F_law_nested_2 : FD := ⟨3, 7, B_law_nested_2, false⟩
def B_law_table_2 : MSs := (.cons (.par [(false, 5), (false, 6)] (.cons (.call i_law_grades (.cons (.var 0) .nil)) (.cons (.draw 0 (.k (.int 5))) .nil))) (.cons (.ite (.o2 .eq (.var 6) (.k (.int 0))) (.cons (.ret (.o1 .tuple (.lc true (.nm 3) (.range1 (.var 1)) (.call i_law_levels (.cons (.var 0) (.cons (.var 3) (.cons (.var 5) .nil))))))) .nil) .nil) (.cons (.ite (.o2 .eq (.var 6) (.k (.int 1))) (.cons (.asg 7 (.call i_law_one (.cons (.var 0) (.cons (.lst (.cons (.k (.int 3)) (.cons (.k (.int 20)) (.cons (.o2 .pow (.k (.int 10)) (.k (.int 12))) .nil)))) .nil)))) (.cons (.ret (.o1 .tuple (.lc true (.nm 3) (.range1 (.var 1)) (.call i_law_any (.cons (.var 0) (.cons (.var 3) (.cons (.var 7) .nil))))))) .nil)) .nil) (.cons (.asg 2 (.call i_law_nested_2 (.cons (.var 0) (.cons (.var 1) (.cons (.var 5) .nil))))) (.cons (.ite (.or (.o2 .eq (.var 6) (.k (.int 2))) (.o2 .eq (.var 1) (.k (.int 1)))) (.cons (.ret (.var 2)) .nil) .nil) (.cons (.ite (.o2 .eq (.var 6) (.k (.int 3))) (.cons (.ret (.call i_law_raised (.cons (.var 0) (.cons (.var 2) (.cons (.var 5) .nil))))) .nil) .nil) (.cons (.asg 3 (.o2 .add (.k (.int 1)) (.draw 0 (.o2 .sub (.var 1) (.k (.int 1)))))) (.cons (.par [(false, 8), (false, 9)] (.cons (.draw 0 (.var 3)) (.cons (.call i_law_one (.cons (.var 0) (.cons (.o2 .add (.var 5) (.lst (.cons (.k (.int 1)) (.cons (.o2 .pow (.k (.int 10)) (.k (.int 12))) .nil)))) .nil))) .nil))) (.cons (.asg 4 (.o2 .add (.o2 .add (.slU (.o2 .ix (.var 2) (.var 3)) (.var 8)) (.tup (.cons (.var 9) .nil))) (.slL (.o2 .ix (.var 2) (.var 3)) (.o2 .add (.var 8) (.k (.int 1)))))) (.cons (.ret (.o2 .add (.o2 .add (.slU (.var 2) (.var 3)) (.tup (.cons (.var 4) .nil))) (.slL (.var 2) (.o2 .add (.var 3) (.k (.int 1)))))) .nil))))))))))
def F_law_table_2 : FD := ⟨2, 10, B_law_table_2, false⟩
def B_need_equal_sizes : MSs := (.cons (.for false (.tp [1, 2]) (.enum (.var 0)) (.cons (.ite (.o2 .ne (.o1 .len (.var 2)) (.o1 .len (.o2 .ix (.var 0) (.k (.int 0))))) (.cons (.rais 7 (.cons (.var 1) .nil)) .nil) .nil) .nil)) .nil)
def F_need_equal_sizes : FD := ⟨1, 3, B_need_equal_sizes, true⟩
def B_greater_levels : MSs := (.cons (.ret (.o1 .tuple (.lc false (.tp [2, 3]) (.zip (.var 0) (.var 1)) (.o1 .tuple (.lc false (.nm 4) (.zip (.var 2) (.var 3)) (.o1 .maxL (.var 4))))))) .nil)
def F_greater_levels : FD := ⟨2, 5, B_greater_levels, false⟩
def B_is_below : MSs := (.cons (.ex (.call i_need_equal_sizes (.cons (.var 0) (.cons (.var 1) .nil)))) (.cons (.ret (.o2 .eq (.call i_greater_levels (.cons (.var 0) (.cons (.var 1) .nil))) (.var 1))) .nil))
def F_is_below : FD := ⟨2, 2, B_is_below, false⟩
def B_law_alone : MSs := (.cons (.asgO 1 (.lst (.cons (.isx [7] (.var 0)) (.cons (.isx [8] (.var 0)) (.cons (.isx [9] (.var 0)) .nil))))) (.cons (.app 1 (.isx [4] (.var 0))) (.cons (.ret (.and (.o2 .eq (.mth .count (.rd 1) (.k (.bool true))) (.k (.int 1))) (.and (.isx [0] (.var 0)) (.o1 .not (.isx [1] (.var 0)))))) .nil)))
def F_law_alone : FD := ⟨1, 2, B_law_alone, false⟩
def B_law_below : MSs := (.cons (.for false (.tp [2, 3]) (.zip (.var 0) (.var 1)) (.cons (.ite (.o2 .ne (.lcIf false (.tp [4, 5]) (.zip (.var 2) (.var 3)) (.o2 .gt (.var 4) (.var 5)) (.var 4)) (.lst .nil)) (.cons (.ret (.k (.bool false))) .nil) .nil) .nil)) (.cons (.ret (.k (.bool true))) .nil))
def F_law_below : FD := ⟨2, 6, B_law_below, false⟩
def B_law_moved_2 : MSs := (.cons (.asgO2 3 false (.nm 7) (.seq (.var 1)) (.o1 .list (.var 7))) (.cons (.for true (.nm 4) (.range1 (.o2 .mul (.var 2) (.o1 .int (.o2 .gt (.o1 .len (.var 1)) (.k (.int 1)))))) (.cons (.asg 5 (.o2 .add (.k (.int 1)) (.draw 0 (.o2 .max2 (.k (.int 1)) (.o2 .sub (.o1 .len (.var 1)) (.k (.int 1))))))) (.cons (.asg 6 (.draw 0 (.var 5))) (.cons (.setII 3 (.var 5) (.var 6) (.o2 .min2 (.o2 .pow (.k (.int 10)) (.k (.int 12))) (.o2 .max2 (.k (.int 1)) (.o2 .add (.brw (.o2 .ix (.o2 .ix (.var 3) (.var 5)) (.var 6))) (.call i_law_one (.cons (.var 0) (.cons (.lst (.cons (.k (.int 1)) (.cons (.o1 .neg (.k (.int 1))) (.cons (.k (.int 1000)) (.cons (.o1 .neg (.k (.int 1000))) .nil))))) .nil))))))) .nil)))) (.cons (.frz 3) (.cons (.ret (.o1 .tuple (.lc false (.nm 7) (.seq (.var 3)) (.o1 .tuple (.var 7))))) .nil))))
def F_law_moved_2 : FD := ⟨3, 8, B_law_moved_2, false⟩
def B_law_told_8 : MSs := (.cons (.asg 2 (.k .none)) (.cons (.tryx (.asg 2 (.call i_is_below (.cons (.var 0) (.cons (.var 1) .nil)))) (.cons 2 3 (.cons (.asg 2 (.ife (.and (.isx [7] (.var 3)) (.call i_law_alone (.cons (.var 3) .nil))) (.lst (.cons (.fld (.var 3) "index") .nil)) (.k (.str (Str.ofString "other"))))) .nil) .nil)) (.cons (.ret (.var 2)) .nil)))
def F_law_told_8 : FD := ⟨2, 4, B_law_told_8, false⟩
def B_law_30 : MSs := (.cons (.for true (.nm 2) (.range1 (.k (.int 12))) (.cons (.asg 3 (.call i_law_table_2 (.cons (.var 1) (.cons (.call i_law_count (.cons (.var 1) (.cons (.k (.int 12)) .nil))) .nil)))) (.cons (.asg 4 (.lst (.cons (.call i_law_moved_2 (.cons (.var 1) (.cons (.var 3) (.cons (.draw 1 (.k (.int 4))) .nil)))) (.cons (.call i_law_table_2 (.cons (.var 1) (.cons (.o1 .len (.var 3)) .nil))) .nil)))) (.cons (.asg 5 (.call i_law_one (.cons (.var 1) (.cons (.o2 .add (.var 4) (.lst (.cons (.call i_law_table_2 (.cons (.var 1) (.cons (.call i_law_count (.cons (.var 1) (.cons (.k (.int 12)) .nil))) .nil))) .nil))) .nil)))) (.cons (.for false (.tp [6, 7]) (.seq (.lst (.cons (.tup (.cons (.var 3) (.cons (.var 5) .nil))) (.cons (.tup (.cons (.var 5) (.cons (.var 3) .nil))) (.cons (.tup (.cons (.var 3) (.cons (.var 3) .nil))) (.cons (.tup (.cons (.o2 .ix (.var 4) (.k (.int 0))) (.cons (.o2 .ix (.var 4) (.k (.int 1))) .nil))) .nil)))))) (.cons (.asg 8 (.o1 .repr (.lst (.cons (.var 6) (.cons (.var 7) .nil))))) (.cons (.asg 9 (.ife (.o2 .eq (.o1 .len (.var 6)) (.o1 .len (.var 7))) (.call i_law_below (.cons (.var 6) (.cons (.var 7) .nil))) (.lst (.cons (.k (.int 1)) .nil)))) (.cons (.ite (.or (.o2 .ne (.o1 .repr (.call i_law_told_8 (.cons (.var 6) (.cons (.var 7) .nil)))) (.o1 .repr (.var 9))) (.o2 .ne (.o1 .repr (.lst (.cons (.var 6) (.cons (.var 7) .nil)))) (.var 8))) (.cons (.ret (.k (.bool false))) .nil) .nil) .nil)))) .nil))))) (.cons (.ret (.k (.bool true))) .nil))
def tabL : List (Nat × Str × FD) := [(16, Str.ofString "_law_one", F_law_one),
  (18, Str.ofString "_law_count", F_law_count),
  (19, Str.ofString "_law_grades", F_law_grades),
  (20, Str.ofString "_law_level", F_law_level),
  (22, Str.ofString "_law_raised", F_law_raised),
  (23, Str.ofString "_law_levels", F_law_levels),
  (24, Str.ofString "_law_any", F_law_any),
  (72, Str.ofString "_law_nested", F_law_nested_2),
  (73, Str.ofString "_law_table", F_law_table_2),
  (147, Str.ofString "need_equal_sizes", F_need_equal_sizes),
  (148, Str.ofString "greater_levels", F_greater_levels),
  (150, Str.ofString "is_below", F_is_below),
  (232, Str.ofString "_law_alone", F_law_alone),
  (237, Str.ofString "_law_below", F_law_below),
  (238, Str.ofString "_law_moved", F_law_moved_2),
  (239, Str.ofString "_law_told", F_law_told_8)]
def tb : Nat → Option FD := tbL tabL
abbrev CC (n : Nat) : Ctx := ⟨callF tb noSub n, noSub⟩
theorem call_eq {f : Nat} {fd : FD} (h : tb f = some fd) (n : Nat) (vs : List PV) : callF tb noSub (n + 1) f vs = runF (CC n) fd vs := by
  rw [callF, h]
  rfl
theorem tb_law_one : tb i_law_one = some F_law_one := by kernel_rfl
theorem call_law_one (n : Nat) (a0 a1 : PV) : callF tb noSub (n + 1) i_law_one [a0, a1] = (denSs (CC n) B_law_one [.v a0, .v a1] >>= fin) := (call_eq tb_law_one n _).trans (run_plain (fd := F_law_one) (us := [a0, a1]) rfl rfl)
theorem tb_law_count : tb i_law_count = some F_law_count := by kernel_rfl
theorem call_law_count (n : Nat) (a0 a1 : PV) : callF tb noSub (n + 1) i_law_count [a0, a1] = (denSs (CC n) B_law_count [.v a0, .v a1] >>= fin) := (call_eq tb_law_count n _).trans (run_plain (fd := F_law_count) (us := [a0, a1]) rfl rfl)
theorem tb_law_grades : tb i_law_grades = some F_law_grades := by kernel_rfl
theorem call_law_grades (n : Nat) (a0 : PV) : callF tb noSub (n + 1) i_law_grades [a0] = (denSs (CC n) B_law_grades [.v a0, .un, .un, .un, .un, .un] >>= fin) := (call_eq tb_law_grades n _).trans (run_plain (fd := F_law_grades) (us := [a0]) rfl rfl)
theorem tb_law_level : tb i_law_level = some F_law_level := by kernel_rfl
theorem call_law_level (n : Nat) (a0 a1 a2 : PV) : callF tb noSub (n + 1) i_law_level [a0, a1, a2] = (denSs (CC n) B_law_level [.v a0, .v a1, .v a2, .un, .un] >>= fin) := (call_eq tb_law_level n _).trans (run_plain (fd := F_law_level) (us := [a0, a1, a2]) rfl rfl)
theorem tb_law_raised : tb i_law_raised = some F_law_raised := by kernel_rfl
theorem call_law_raised (n : Nat) (a0 a1 a2 : PV) : callF tb noSub (n + 1) i_law_raised [a0, a1, a2] = (denSs (CC n) B_law_raised [.v a0, .v a1, .v a2, .un, .un, .un] >>= fin) := (call_eq tb_law_raised n _).trans (run_plain (fd := F_law_raised) (us := [a0, a1, a2]) rfl rfl)
theorem tb_law_levels : tb i_law_levels = some F_law_levels := by kernel_rfl
theorem call_law_levels (n : Nat) (a0 a1 a2 : PV) : callF tb noSub (n + 1) i_law_levels [a0, a1, a2] = (denSs (CC n) B_law_levels [.v a0, .v a1, .v a2, .un] >>= fin) := (call_eq tb_law_levels n _).trans (run_plain (fd := F_law_levels) (us := [a0, a1, a2]) rfl rfl)
theorem tb_law_any : tb i_law_any = some F_law_any := by kernel_rfl
theorem call_law_any (n : Nat) (a0 a1 a2 : PV) : callF tb noSub (n + 1) i_law_any [a0, a1, a2] = (denSs (CC n) B_law_any [.v a0, .v a1, .v a2, .un] >>= fin) := (call_eq tb_law_any n _).trans (run_plain (fd := F_law_any) (us := [a0, a1, a2]) rfl rfl)
theorem tb_law_nested_2 : tb i_law_nested_2 = some F_law_nested_2 := by kernel_rfl
theorem call_law_nested_2 (n : Nat) (a0 a1 a2 : PV) : callF tb noSub (n + 1) i_law_nested_2 [a0, a1, a2] = (denSs (CC n) B_law_nested_2 [.v a0, .v a1, .v a2, .un, .un, .un, .un] >>= fin) := (call_eq tb_law_nested_2 n _).trans (run_plain (fd := F_law_nested_2) (us := [a0, a1, a2]) rfl rfl)
theorem tb_law_table_2 : tb i_law_table_2 = some F_law_table_2 := by kernel_rfl
theorem call_law_table_2 (n : Nat) (a0 a1 : PV) : callF tb noSub (n + 1) i_law_table_2 [a0, a1] = (denSs (CC n) B_law_table_2 [.v a0, .v a1, .un, .un, .un, .un, .un, .un, .un, .un] >>= fin) := (call_eq tb_law_table_2 n _).trans (run_plain (fd := F_law_table_2) (us := [a0, a1]) rfl rfl)
theorem tb_need_equal_sizes : tb i_need_equal_sizes = some F_need_equal_sizes := by kernel_rfl
theorem call_need_equal_sizes_0 (n : Nat) : callF tb noSub (n + 1) i_need_equal_sizes [] = (denSs (CC n) B_need_equal_sizes [.v (.d (.tuple [])), .un, .un] >>= fin) := (call_eq tb_need_equal_sizes n _).trans (run_star (us := []) (ds := []) rfl rfl (by simp))
theorem call_need_equal_sizes_1 (n : Nat) (b0 : PyData) : callF tb noSub (n + 1) i_need_equal_sizes [.d b0] = (denSs (CC n) B_need_equal_sizes [.v (.d (.tuple [b0])), .un, .un] >>= fin) := (call_eq tb_need_equal_sizes n _).trans (run_star (us := []) (ds := [b0]) rfl rfl (by simp))
theorem call_need_equal_sizes_2 (n : Nat) (b0 b1 : PyData) : callF tb noSub (n + 1) i_need_equal_sizes [.d b0, .d b1] = (denSs (CC n) B_need_equal_sizes [.v (.d (.tuple [b0, b1])), .un, .un] >>= fin) := (call_eq tb_need_equal_sizes n _).trans (run_star (us := []) (ds := [b0, b1]) rfl rfl (by simp))
theorem call_need_equal_sizes_3 (n : Nat) (b0 b1 b2 : PyData) : callF tb noSub (n + 1) i_need_equal_sizes [.d b0, .d b1, .d b2] = (denSs (CC n) B_need_equal_sizes [.v (.d (.tuple [b0, b1, b2])), .un, .un] >>= fin) := (call_eq tb_need_equal_sizes n _).trans (run_star (us := []) (ds := [b0, b1, b2]) rfl rfl (by simp))
theorem call_need_equal_sizes_4 (n : Nat) (b0 b1 b2 b3 : PyData) : callF tb noSub (n + 1) i_need_equal_sizes [.d b0, .d b1, .d b2, .d b3] = (denSs (CC n) B_need_equal_sizes [.v (.d (.tuple [b0, b1, b2, b3])), .un, .un] >>= fin) := (call_eq tb_need_equal_sizes n _).trans (run_star (us := []) (ds := [b0, b1, b2, b3]) rfl rfl (by simp))
theorem tb_greater_levels : tb i_greater_levels = some F_greater_levels := by kernel_rfl
theorem call_greater_levels (n : Nat) (a0 a1 : PV) : callF tb noSub (n + 1) i_greater_levels [a0, a1] = (denSs (CC n) B_greater_levels [.v a0, .v a1, .un, .un, .un] >>= fin) := (call_eq tb_greater_levels n _).trans (run_plain (fd := F_greater_levels) (us := [a0, a1]) rfl rfl)
theorem tb_is_below : tb i_is_below = some F_is_below := by kernel_rfl
theorem call_is_below (n : Nat) (a0 a1 : PV) : callF tb noSub (n + 1) i_is_below [a0, a1] = (denSs (CC n) B_is_below [.v a0, .v a1] >>= fin) := (call_eq tb_is_below n _).trans (run_plain (fd := F_is_below) (us := [a0, a1]) rfl rfl)
theorem tb_law_alone : tb i_law_alone = some F_law_alone := by kernel_rfl
theorem call_law_alone (n : Nat) (a0 : PV) : callF tb noSub (n + 1) i_law_alone [a0] = (denSs (CC n) B_law_alone [.v a0, .un] >>= fin) := (call_eq tb_law_alone n _).trans (run_plain (fd := F_law_alone) (us := [a0]) rfl rfl)
theorem tb_law_below : tb i_law_below = some F_law_below := by kernel_rfl
theorem call_law_below (n : Nat) (a0 a1 : PV) : callF tb noSub (n + 1) i_law_below [a0, a1] = (denSs (CC n) B_law_below [.v a0, .v a1, .un, .un, .un, .un] >>= fin) := (call_eq tb_law_below n _).trans (run_plain (fd := F_law_below) (us := [a0, a1]) rfl rfl)
theorem tb_law_moved_2 : tb i_law_moved_2 = some F_law_moved_2 := by kernel_rfl
theorem call_law_moved_2 (n : Nat) (a0 a1 a2 : PV) : callF tb noSub (n + 1) i_law_moved_2 [a0, a1, a2] = (denSs (CC n) B_law_moved_2 [.v a0, .v a1, .v a2, .un, .un, .un, .un, .un] >>= fin) := (call_eq tb_law_moved_2 n _).trans (run_plain (fd := F_law_moved_2) (us := [a0, a1, a2]) rfl rfl)
theorem tb_law_told_8 : tb i_law_told_8 = some F_law_told_8 := by kernel_rfl
theorem call_law_told_8 (n : Nat) (a0 a1 : PV) : callF tb noSub (n + 1) i_law_told_8 [a0, a1] = (denSs (CC n) B_law_told_8 [.v a0, .v a1, .un, .un] >>= fin) := (call_eq tb_law_told_8 n _).trans (run_plain (fd := F_law_told_8) (us := [a0, a1]) rfl rfl)
def wtsL : List (Nat × Nat) := [(16, 2 ^ 200), (18, 2 ^ 200), (19, 2 ^ 200), (22, 2 ^ 400), (23, 2 ^ 400), (24, 2 ^ 200), (72, 2 ^ 400), (73, 2 ^ 600), (238, 2 ^ 400)]
def wts : Nat → Nat := fun f => (wtsL.lookup f).getD 0
theorem wts_ok : (tabL.all fun d => kSs wts d.2.2.body && decide (wSs wts d.2.2.body ≤ QQ * wts d.1)) = true := by decide +kernel
theorem few_call (n f : Nat) (vs : List PV) : T.Few (QQ ^ n * wts f) (callF tb noSub n f vs) := few_callQ QQ_pos (few_tabQ wts_ok) n f vs
end Mp
namespace Mp
open PySem
open Mp.T (ret_bind)

/-- a def that doesn't draw -/
theorem det {f n : Nat} {vs : List PV} {v : PV} (hw : wts f = 0) (h : W (· = v) (callF tb noSub n f vs)) : callF tb noSub n f vs = T.ret v :=
  W_eq h (by have := few_call n f vs; rwa [hw, Nat.mul_zero] at this)
def tabD (t : List (List Int)) : PyData := .tuple (t.map tupI)
def lv (t : List (List Int)) (i j : Nat) : Int := if i = j then 0 else (t.getD (max i j) []).getD (min i j) 0
def Tri (t : List (List Int)) : Prop := ∀ (i : Nat) (r : List Int), t[i]? = some r → r.length = i
structure IsTab (t : List (List Int)) : Prop where
  tri : Tri t
  lev : ∀ r ∈ t, ∀ x ∈ r, 1 ≤ x ∧ x ≤ 1000000000000
  pos : 0 < t.length
  few : t.length ≤ 12
theorem lv_comm (t : List (List Int)) (i j : Nat) : lv t i j = lv t j i := by
  unfold lv
  rw [Nat.max_comm, Nat.min_comm]
  by_cases h : i = j
  · simp [h]
  · simp [h, Ne.symm h]
@[simp] theorem lv_self (t : List (List Int)) (i : Nat) : lv t i i = 0 := by simp [lv]
theorem tab_ix {t : List (List Int)} (ht : Tri t) {i : Nat} (h : i < t.length) : seqAt (t.map tupI) (i : Int) = T.ret (tupI (t.getD i [])) := by
  refine seqAt_ok ?_
  rw [List.getElem?_map, List.getElem?_eq_getElem h]
  simp [List.getD, h]
theorem row_ix {r : List Int} {i : Nat} (h : i < r.length) : seqAt (r.map .int) (i : Int) = T.ret (.int (r.getD i 0)) := by
  refine seqAt_ok ?_
  rw [List.getElem?_map, List.getElem?_eq_getElem h]
  simp [List.getD, h]
theorem tri_len {t : List (List Int)} (ht : Tri t) {i : Nat} (h : i < t.length) : (t.getD i []).length = i := by
  refine ht i _ ?_
  simp [List.getD, h]
theorem lv_mem {t : List (List Int)} (ht : Tri t) {i j : Nat} (hi : i < t.length) (hj : j < t.length) (h : i ≠ j) : ∃ r ∈ t, lv t i j ∈ r := by
  have hm : max i j < t.length := by omega
  refine ⟨t.getD (max i j) [], by simp [List.getD, hm], ?_⟩
  have hl := tri_len ht hm
  have hk : min i j < (t.getD (max i j) []).length := by omega
  unfold lv
  rw [if_neg h]
  generalize t.getD (max i j) [] = r at *
  simp [List.getD, hk]
theorem lv_pos {t : List (List Int)} (ht : IsTab t) {i j : Nat} (hi : i < t.length) (hj : j < t.length) (h : i ≠ j) : 1 ≤ lv t i j ∧ lv t i j ≤ 1000000000000 := by
  obtain ⟨r, hr, hx⟩ := lv_mem ht.tri hi hj h
  exact ht.lev r hr _ hx
def pairsN (n : Nat) : List (Nat × Nat) := (List.range n).flatMap fun i => (List.range (n - (i + 1))).map fun j => (i, i + 1 + j)
end Mp
namespace Mp
open PySem
open Mp.T (ret_bind)
theorem tab_len' (t : List (List Int)) : o1 .len (tabD t) = T.ret (.int t.length) := by simp [tabD]
end Mp
namespace Mp
open PySem
open Mp.T (ret_bind)
@[simp] theorem pow12 : o2 .pow (.int 10) (.int 12) = T.ret (.int 1000000000000) := by
  rw [o2_pow_i, need_pos (by decide)]
  rfl
theorem seqAt_mem {ns : List Int} {i : Nat} (h1 : (i : Int) < ns.length) : ∃ x ∈ ns, seqAt (ns.map .int) i = T.ret (.int x) := by
  have hk : i < ns.length := by omega
  refine ⟨ns[i], List.getElem_mem hk, seqAt_ok ?_⟩
  simp [hk]
/-- levels to draw from -/
structure Grades (gs : List Int) : Prop where
  pos : gs ≠ []
  lev : ∀ x ∈ gs, 1 ≤ x ∧ x ≤ 1000000000000
  few : gs.length ≤ 100
theorem law_one_ints {ns : List Int} (h : ns ≠ []) (hl : ns.length ≤ 1000000) (n : Nat) : W (fun v => ∃ x ∈ ns, v = .d (.int x)) (callF tb noSub (n+1) i_law_one [.rng, .d (.list (ns.map .int))]) := by
  have hp := List.length_pos_iff.mpr h
  rw [call_law_one]
  refine wQ fun J hJ => ?_
  simp [B_law_one]
  refine wN (by omega) (wD (by omega) fun k h1 => ?_)
  obtain ⟨x, hx, e⟩ := seqAt_mem h1
  simp [e]
  exact hJ _ ⟨x, hx, rfl⟩
theorem law_count_ok {m : Nat} (h : 1 ≤ m) (hm : m ≤ 1000) (n : Nat) : W (fun v => ∃ k : Nat, v = .d (.int k) ∧ 1 ≤ k ∧ k ≤ m) (callF tb noSub (n+1) i_law_count [.rng, .d (.int m)]) := by
  rw [call_law_count]
  refine wQ fun J hJ => ?_
  simp [B_law_count]
  refine wN (by omega) (wD (by omega) fun a a1 => wN (by omega) (wD (by omega) fun b b1 => wD (by omega) fun c c1 => ?_))
  have key : ∀ x : Int, 1 ≤ x → x ≤ m → J (.d (.int x)) := fun x h1 h2 => hJ _ ⟨x.toNat, by
    have : x = ((x.toNat : Nat) : Int) := by omega
    rw [← this], by omega, by omega⟩
  have e : (c = 0 ∨ c = 1) ∨ c = 2 := by omega
  rcases e with (rfl | rfl) | rfl
  · rw [seqAt_ok (x := .int m) rfl]
    exact wR (key _ (by omega) (by omega))
  · rw [seqAt_ok (x := .int (1 + a)) rfl]
    exact wR (key _ (by omega) (by omega))
  · rw [seqAt_ok (x := .int (1 + b)) rfl]
    exact wR (key _ (by omega) (by omega))
theorem law_grades_ok (n : Nat) : W (fun v => ∃ gs : List Int, v = .d (.list (gs.map .int)) ∧ Grades gs) (callF tb noSub (n+1) i_law_grades [.rng]) := by
  rw [call_law_grades]
  refine wQ fun J hJ => ?_
  simp [B_law_grades]
  refine wD (by omega) fun a a1 => wD (by omega) fun b b1 => ?_
  obtain ⟨w, hw, e⟩ := seqAt_mem (ns := [2, 4, 12, 100, 1000000000000]) (by simpa using a1)
  have hw : 1 ≤ w ∧ w ≤ 1000000000000 := by
    simp at hw
    omega
  simp at e
  have e2 : (1 : Int) + b = ((1 + b : Nat) : Int) := by omega
  rw [e2, e, rangeD0 (by omega)]
  simp
  refine wG (by simp; omega) ?_
  refine W_mapG .int (fun _ x => 1 ≤ x ∧ x ≤ 1000000000000) (fun x hx J' hJ' => ?_) fun ns hy => ?_
  · exact wN (by omega) (wD (by omega) fun k h1 => wR (hJ' _ (by omega)))
  · have hl := hy.length
    have ha := hy.all
    simp at hl
    refine wD (by omega) fun c c1 => ?_
    have key : ∀ ms : List Int, ms ≠ [] → ms.length ≤ 100 → (∀ x ∈ ms, 1 ≤ x ∧ x ≤ 1000000000000) → Grades (sortI (dedup ms)) := fun ms h1 h2 h3 => ⟨fun e => (by
        obtain ⟨x, hx⟩ := List.exists_mem_of_ne_nil ms h1
        have : x ∈ sortI (dedup ms) := sortI_mem.mpr (dedup_mem.mpr hx)
        rw [e] at this
        cases this), fun x hx => h3 x (dedup_mem.mp (sortI_mem.mp hx)), by rw [sortI_len]; exact Nat.le_trans dedup_len_p h2⟩
    have hn : ns ≠ [] := fun e => by
      rw [e] at hl
      simp at hl
      omega
    by_cases hb : c = 0
    · simp [hb, bI]
      refine wN (by omega) ?_
      have e : ns.map PyData.int ++ [PyData.int 1000000000000] = (ns ++ [1000000000000]).map PyData.int := by simp
      rw [e, o1_sortedSet_i]
      simp
      refine wN (by omega) (wR (hJ _ ⟨_, rfl, key _ (by simp) (by simp; omega) fun x hx => ?_⟩))
      rcases List.mem_append.mp hx with hx | hx
      · exact ha x hx
      · simp at hx
        omega
    · simp [hb, bI]
      exact wN (by omega) (wN (by omega) (wR (hJ _ ⟨_, rfl, key ns hn (by omega) ha⟩)))
end Mp
namespace Mp
open PySem
open Mp.T (ret_bind)
theorem cut_U {xs : List PyData} {i : Nat} (h : i ≤ xs.length) : cut xs none (some (i : Int)) = xs.take i := by
  have e : ¬ ((i : Int) < 0) := by omega
  simp [cut, cutP, e, Nat.min_eq_left h]
theorem cut_L {xs : List PyData} {i : Nat} (h : i ≤ xs.length) : cut xs (some (i : Int)) none = xs.drop i := by
  have e : ¬ ((i : Int) < 0) := by omega
  simp [cut, cutP, e, Nat.min_eq_left h]
  rw [List.take_of_length_le (by simp)]
theorem set_cut {α : Type} {xs : List α} {i : Nat} (h : i < xs.length) (a : α) : xs.take i ++ [a] ++ xs.drop (i + 1) = xs.set i a := by
  rw [List.set_eq_take_append_cons_drop]
  simp [h]
/-- one of the items of a list or a tuple -/
def seqOf (l : Bool) (xs : List PyData) : PyData := if l then .list xs else .tuple xs
@[simp] theorem seqOf_t (xs : List PyData) : seqOf true xs = .list xs := rfl
@[simp] theorem seqOf_f (xs : List PyData) : seqOf false xs = .tuple xs := rfl
@[simp] theorem ix_seqOf (l : Bool) (xs : List PyData) (i : Int) : o2 .ix (seqOf l xs) (.int i) = seqAt xs i := by cases l <;> rfl
theorem law_level_eq {t : List (List Int)} (ht : Tri t) {i j : Nat} (hi : i < t.length) (hj : j < t.length) (l : Bool) (n : Nat) : callF tb noSub (n+1) i_law_level [.d (seqOf l (t.map tupI)), .d (.int i), .d (.int j)] = T.ret (.d (.int (lv t i j))) := by
  rw [call_law_level]
  by_cases h : i = j
  · simp [B_law_level, h]
  · have hm : max i j < t.length := by omega
    have hl := tri_len ht hm
    have hk : min i j < (t.getD (max i j) []).length := by omega
    have h1 := tab_ix ht hm
    have h2 := row_ix hk
    have e1 : max (i : Int) (j : Int) = ((max i j : Nat) : Int) := by omega
    have e2 : min (i : Int) (j : Int) = ((min i j : Nat) : Int) := by omega
    have h' : ¬ (((min i j : Nat) : Int) = ((max i j : Nat) : Int)) := by omega
    simp only [List.getD_eq_getElem?_getD] at h1 h2
    simp only [B_law_level, denSs_cons, denS_par, denAs_cons, denE_o2, denE_var, at_zero, at_succ, ret_bind, asD_d, o2_min, o2_max, bindassoc, denAs_nil, parSet_f, parSet_nil, List.set_cons_succ, List.set_cons_zero, e1, e2]
    simp [h', h1, tupI, h2, lv, h]
/-- nested -/
def Nested (t : List (List Int)) : Prop := ∀ i j k, i < t.length → j < t.length → k < t.length → lv t i j ≤ max (lv t i k) (lv t k j)
theorem lv_app {t : List (List Int)} {r : List Int} {i j : Nat} (hi : i < t.length) (hj : j < t.length) : lv (t ++ [r]) i j = lv t i j := by
  unfold lv
  have hm : max i j < t.length := by omega
  simp only [List.getD_eq_getElem?_getD]
  rw [List.getElem?_append_left hm]
theorem lv_new {t : List (List Int)} {r : List Int} {j : Nat} (hj : j < t.length) : lv (t ++ [r]) t.length j = r.getD j 0 := by
  unfold lv
  have hm : max t.length j = t.length := by omega
  have hk : min t.length j = j := by omega
  have hne : t.length ≠ j := by omega
  rw [if_neg hne, hm, hk]
  simp
theorem tri_app {t : List (List Int)} {r : List Int} (ht : Tri t) (hr : r.length = t.length) : Tri (t ++ [r]) := by
  intro i x h
  rcases Nat.lt_trichotomy i t.length with hl | hl | hl
  · rw [List.getElem?_append_left hl] at h
    exact ht i x h
  · subst hl
    simp at h
    rw [← h, hr]
  · rw [List.getElem?_eq_none (by simp; omega)] at h
    cases h
theorem nested_app {t : List (List Int)} {a : Nat} {g : Int} (ht : Nested t) (ha : a < t.length) (hg : 0 ≤ g) (h0 : ∀ i j, i < t.length → j < t.length → 0 ≤ lv t i j) : Nested (t ++ [(List.range t.length).map fun k => max g (lv t a k)]) := by
  have hn : ∀ j, j < t.length → lv (t ++ [(List.range t.length).map fun k => max g (lv t a k)]) t.length j = max g (lv t a j) := fun j hj => by
    rw [lv_new hj]
    simp [hj]
  intro i j k hi hj hk
  simp at hi hj hk
  have hc : ∀ i, i < t.length + 1 → i < t.length ∨ i = t.length := fun i h => by omega
  rcases hc i hi with hi | rfl <;> rcases hc j hj with hj | rfl <;> rcases hc k hk with hk | rfl
  · rw [lv_app hi hj, lv_app hi hk, lv_app hk hj]
    exact ht i j k hi hj hk
  · rw [lv_app hi hj, hn j hj, lv_comm _ i t.length, hn i hi]
    have h1 := ht i j a hi hj ha
    rw [lv_comm _ i a] at h1
    omega
  · rw [lv_comm _ i t.length, hn i hi, lv_app hi hk, lv_comm _ k t.length, hn k hk]
    have h1 := ht a i k ha hi hk
    rw [lv_comm _ k i] at h1
    omega
  · rw [lv_comm _ i t.length, hn i hi, lv_self]
    omega
  · rw [hn j hj, lv_app hk hj, hn k hk]
    have h1 := ht a j k ha hj hk
    omega
  · rw [hn j hj, lv_self]
    omega
  · rw [lv_self, hn k hk]
    have := h0 a k ha hk
    omega
  · simp
end Mp
namespace Mp
open PySem
open Mp.T (ret_bind)
def Lev (x : Int) : Prop := 1 ≤ x ∧ x ≤ 1000000000000
def RowOk (k : Nat) (r : List Int) : Prop := r.length = k ∧ ∀ y ∈ r, Lev y
theorem isTab_of {m : Nat} {t : List (List Int)} (h : All2 (fun (x : PyData) r => ∃ k : Nat, x = .int k ∧ RowOk k r) ((List.range m).map fun (i : Nat) => PyData.int i) t) (h1 : 1 ≤ m) (h2 : m ≤ 12) : IsTab t ∧ t.length = m := by
  have hl := h.length
  simp at hl
  refine ⟨⟨fun i r hr => ?_, fun r hr x hx => ?_, by omega, by omega⟩, hl⟩
  · have hi : i < m := by
      rcases Nat.lt_or_ge i t.length with h' | h'
      · omega
      · rw [List.getElem?_eq_none h'] at hr; cases hr
    obtain ⟨k, e, hk, _⟩ := h.get (i := i) (x := .int i) (by simp [hi]) hr
    have e := PyData.int.inj e
    omega
  · obtain ⟨_, _, k, e, hk, hv⟩ := h.mem r hr
    exact hv x hx
theorem law_levels_ok {gs : List Int} (hg : Grades gs) {k : Nat} (hk : k ≤ 12) (n : Nat) : W (fun v => ∃ r, v = .d (tupI r) ∧ RowOk k r) (callF tb noSub (n+2) i_law_levels [.rng, .d (.int k), .d (.list (gs.map .int))]) := by
  rw [call_law_levels]
  refine wQ fun J hJ => ?_
  simp [B_law_levels, rangeD0 (show k ≤ 16777216 by omega)]
  refine wG (by simp; omega) ?_
  refine W_mapG .int (fun _ x => Lev x) (fun x hx J' hJ' => ?_) fun ns hy => ?_
  · refine W_use (law_one_ints hg.pos (by have := hg.few; omega) n) ?_
    rintro _ ⟨g, hgm, rfl⟩
    exact wR (hJ' _ (hg.lev g hgm))
  · have hl := hy.length
    have ha := hy.all
    simp at hl
    simp
    exact hJ _ ⟨ns, rfl, hl, ha⟩
theorem law_any_ok {w : Int} (h1 : 1 ≤ w) (h2 : w ≤ 1000000000000) {k : Nat} (hk : k ≤ 12) (n : Nat) : W (fun v => ∃ r, v = .d (tupI r) ∧ RowOk k r) (callF tb noSub (n+1) i_law_any [.rng, .d (.int k), .d (.int w)]) := by
  rw [call_law_any]
  refine wQ fun J hJ => ?_
  simp [B_law_any, rangeD0 (show k ≤ 16777216 by omega)]
  refine wG (by simp; omega) ?_
  refine W_mapG .int (fun _ x => Lev x) (fun x hx J' hJ' => ?_) fun ns hy => ?_
  · exact wN (by omega) (wD (by omega) fun a ha => wR (hJ' _ (by unfold Lev; omega)))
  · have hl := hy.length
    have ha := hy.all
    simp at hl
    simp
    exact hJ _ ⟨ns, rfl, hl, ha⟩
theorem law_raised_ok {gs : List Int} (hg : Grades gs) {t : List (List Int)} (ht : IsTab t) (n : Nat) : W (fun v => ∃ t', v = .d (tabD t') ∧ IsTab t' ∧ t'.length = t.length) (callF tb noSub (n+2) i_law_raised [.rng, .d (tabD t), .d (.list (gs.map .int))]) := by
  rw [call_law_raised]
  refine wQ fun J hJ => ?_
  simp [B_law_raised, tabD]
  refine wG (by simp; have := ht.few; omega) ?_
  refine W_for (fun i env => ∃ (u : List (List Int)) (s4 s5 : Slot), env = [.v .rng, .v (.d (.tuple (t.map tupI))), .v (.d (.list (gs.map .int))), .own (u.map tupI), s4, s5] ∧ u.length = i ∧ Tri u ∧ ∀ r ∈ u, ∀ y ∈ r, Lev y) ⟨[], _, _, rfl, rfl, fun i r h => by simp at h, fun r hr => by cases hr⟩ ?_ ?_
  · rintro i x env hx ⟨u, s4, s5, rfl, hu, htri, hlev⟩ J' R hJ' hR
    rw [List.getElem?_map] at hx
    obtain ⟨r, hr, rfl⟩ := Option.map_eq_some_iff.mp hx
    have hrl := ht.tri i r hr
    have hrm : r ∈ t := List.mem_of_getElem? hr
    have hi : i < t.length := by
      rcases Nat.lt_or_ge i t.length with h' | h'
      · omega
      · rw [List.getElem?_eq_none h'] at hr; cases hr
    have hf := ht.few
    have hgf := hg.few
    simp [tupI]
    refine wG (by simp; omega) ?_
    refine W_mapG .int (fun _ x => Lev x) (fun x hx J2 hJ2 => ?_) fun ns hy => ?_
    · obtain ⟨l, hl, rfl⟩ := List.mem_map.mp hx
      have hle := ht.lev r hrm l hl
      refine wN (by omega) ?_
      have e : gs.map PyData.int ++ [PyData.int 1, PyData.int 1] = (gs ++ [1, 1]).map .int := by simp
      rw [e]
      refine W_use (law_one_ints (ns := gs ++ [1, 1]) (by simp) (by simp; omega) n) ?_
      rintro _ ⟨g, hgm, rfl⟩
      refine wR (hJ2 _ ?_)
      have : Lev g := by
        simp at hgm
        rcases hgm with h | h
        · exact hg.lev g h
        · subst h; unfold Lev; omega
      unfold Lev at *
      omega
    · have hl := hy.length
      have ha := hy.all
      simp at hl
      refine wN (by omega) (wR (hJ' _ ⟨u ++ [ns], _, _, by simp [tupI]; exact ⟨rfl, rfl⟩, by simp [hu], tri_app htri (by omega), fun r' hr' y hy' => ?_⟩))
      rcases List.mem_append.mp hr' with h | h
      · exact hlev r' h y hy'
      · simp at h
        subst h
        exact ha y hy'
  · rintro env ⟨u, s4, s5, rfl, hu, htri, hlev⟩
    simp at hu
    simp
    exact hJ _ ⟨u, rfl, ⟨htri, hlev, by have := ht.pos; omega, by have := ht.few; omega⟩, hu⟩
theorem set_row {r : List Int} {k : Nat} {i : Nat} {x : Int} (h : RowOk k r) (hx : Lev x) : RowOk k (r.set i x) := by
  refine ⟨by simp [h.1], fun y hy => ?_⟩
  rcases List.mem_or_eq_of_mem_set hy with h1 | h1
  · exact h.2 y h1
  · exact h1 ▸ hx
theorem IsTab.row {t : List (List Int)} (ht : IsTab t) {i : Nat} (hi : i < t.length) : RowOk i (t.getD i []) := by
  refine ⟨tri_len ht.tri hi, fun y hy => ht.lev _ ?_ y hy⟩
  simp [List.getD, hi]
theorem set_tab {t : List (List Int)} (ht : IsTab t) {i : Nat} {r : List Int} (h : RowOk i r) : IsTab (t.set i r) := by
  refine ⟨fun j x hx => ?_, fun x hx y hy => ?_, by simp [ht.pos], by simp [ht.few]⟩
  · rw [List.getElem?_set] at hx
    split at hx
    · rename_i e
      subst e
      split at hx
      · cases hx
        exact h.1
      · cases hx
    · exact ht.tri j x hx
  · rcases List.mem_or_eq_of_mem_set hx with h1 | h1
    · exact ht.lev x h1 y hy
    · exact h.2 y (h1 ▸ hy)
theorem cut_U' {α : Type} {f : α → PyData} {xs : List α} {i : Nat} (h : i ≤ xs.length) : cut (xs.map f) none (some (i : Int)) = (xs.take i).map f := by
  rw [cut_U (by simpa using h), List.map_take]
theorem cut_L' {α : Type} {f : α → PyData} {xs : List α} {i : Nat} (h : i ≤ xs.length) : cut (xs.map f) (some (i : Int)) none = (xs.drop i).map f := by
  rw [cut_L (by simpa using h), List.map_drop]
end Mp
namespace Mp
open PySem
open Mp.T (ret_bind)
end Mp
namespace Mp
open PySem
open Mp.T (ret_bind)
theorem place_nat {n i : Nat} (h : i < n) : place n (i : Int) = some i := by
  unfold place
  rw [if_pos (by omega), if_pos (by omega)]
  simp
def natD (o : List Nat) : List Int := o.map fun (i : Nat) => (i : Int)
theorem natD_len (o : List Nat) : (natD o).length = o.length := by simp [natD]
/-- an order of m items -/
def Ord (m : Nat) (o : List Nat) : Prop := o.Perm (List.range m)
theorem Ord.len {m : Nat} {o : List Nat} (h : Ord m o) : o.length = m := by simpa using h.length_eq
theorem Ord.get {m : Nat} {o : List Nat} (h : Ord m o) {i : Nat} (hi : i < m) : o[i]? = some (o.getD i 0) := by
  have := h.len
  simp [List.getD, show i < o.length by omega]
theorem Ord.lt {m : Nat} {o : List Nat} (h : Ord m o) {i : Nat} (hi : i < m) : o.getD i 0 < m := by
  have := List.mem_of_getElem? (h.get hi)
  exact List.mem_range.mp (h.mem_iff.mp this)
theorem Ord.inj {m : Nat} {o : List Nat} (h : Ord m o) {i j : Nat} (hi : i < m) (hj : j < m) (e : o.getD i 0 = o.getD j 0) : i = j := by
  have hn : o.Nodup := h.nodup_iff.mpr List.nodup_range
  have hl := h.len
  have h1 := h.get hi
  have h2 := h.get hj
  rw [e] at h1
  exact (List.getElem?_inj (l := o) (i := i) (j := j) (by omega) hn).mp (h1.trans h2.symm)
theorem sorted_ext : ∀ {a b : List Int}, a.Pairwise (· < ·) → b.Pairwise (· < ·) → (∀ x, x ∈ a ↔ x ∈ b) → a = b
  | [], [], _, _, _ => rfl
  | [], y :: b, _, _, h => by
    have := (h y).mpr List.mem_cons_self
    cases this
  | x :: a, [], _, _, h => by
    have := (h x).mp List.mem_cons_self
    cases this
  | x :: a, y :: b, h1, h2, h => by
    rw [List.pairwise_cons] at h1 h2
    have e : x = y := by
      have hx := (h x).mp List.mem_cons_self
      have hy := (h y).mpr List.mem_cons_self
      rcases List.mem_cons.mp hx with e | hx
      · exact e
      · rcases List.mem_cons.mp hy with e | hy
        · exact e.symm
        · have := h2.1 x hx
          have := h1.1 y hy
          omega
    subst e
    refine congrArg (x :: ·) (sorted_ext h1.2 h2.2 fun z => ?_)
    have hz := h z
    constructor
    · intro m
      rcases List.mem_cons.mp (hz.mp (List.mem_cons_of_mem _ m)) with e | m'
      · have := h1.1 z m
        omega
      · exact m'
    · intro m
      rcases List.mem_cons.mp (hz.mpr (List.mem_cons_of_mem _ m)) with e | m'
      · have := h2.1 z m
        omega
      · exact m'
theorem insI_strict {a : Int} : ∀ {xs : List Int}, a ∉ xs → xs.Pairwise (· < ·) → (insI a xs).Pairwise (· < ·)
  | [], _, _ => by simp [insI]
  | b :: r, hn, h => by
    unfold insI
    rw [List.pairwise_cons] at h
    rw [List.mem_cons, not_or] at hn
    split
    · rename_i hab
      refine List.pairwise_cons.mpr ⟨fun x hx => ?_, List.pairwise_cons.mpr h⟩
      rcases List.mem_cons.mp hx with rfl | hx
      · omega
      · have := h.1 x hx
        omega
    · rename_i hab
      refine List.pairwise_cons.mpr ⟨fun x hx => ?_, insI_strict hn.2 h.2⟩
      rcases insI_mem.mp hx with rfl | hx
      · omega
      · exact h.1 x hx
theorem sortI_strict : ∀ {xs : List Int}, xs.Nodup → (sortI xs).Pairwise (· < ·)
  | [], _ => by simp [sortI]
  | a :: r, h => by
    rw [List.nodup_cons] at h
    exact insI_strict (fun m => h.1 (sortI_mem.mp m)) (sortI_strict h.2)
end Mp
namespace Mp
open PySem
open Mp.T (ret_bind)
/-- the least height of a way whose further items are below k -/
def fw (t : List (List Int)) : Nat → Nat → Nat → Int
  | 0, i, j => lv t i j
  | k + 1, i, j => min (fw t k i j) (max (fw t k i k) (fw t k k j))
theorem fw_comm (t : List (List Int)) : ∀ k i j, fw t k i j = fw t k j i
  | 0, i, j => lv_comm t i j
  | k + 1, i, j => by
    simp only [fw]
    rw [fw_comm t k i j, fw_comm t k i k, fw_comm t k k j]
    omega
theorem fw_nonneg {t : List (List Int)} (ht : IsTab t) : ∀ k, k ≤ t.length → ∀ i j, i < t.length → j < t.length → 0 ≤ fw t k i j
  | 0, _, i, j, hi, hj => by
    by_cases h : i = j
    · subst h; simp [fw]
    · have := lv_pos ht hi hj h
      simp only [fw]
      omega
  | k + 1, hk, i, j, hi, hj => by
    have h1 := fw_nonneg ht k (by omega) i j hi hj
    have h2 := fw_nonneg ht k (by omega) i k hi (by omega)
    simp only [fw]
    omega
theorem fw_self {t : List (List Int)} (ht : IsTab t) : ∀ k, k ≤ t.length → ∀ i, i < t.length → fw t k i i = 0
  | 0, _, i, _ => by simp [fw]
  | k + 1, hk, i, hi => by
    have h1 := fw_self ht k (by omega) i hi
    have h2 := fw_nonneg ht k (by omega) i k hi (by omega)
    simp only [fw, h1]
    omega
theorem fw_le {t : List (List Int)} : ∀ k i j, fw t k i j ≤ lv t i j
  | 0, i, j => by simp [fw]
  | k + 1, i, j => by
    have := fw_le (t := t) k i j
    simp only [fw]
    omega
/-- by way of itself nothing is lowered -/
theorem fw_mid {t : List (List Int)} (ht : IsTab t) {k : Nat} (hk : k < t.length) {i : Nat} (hi : i < t.length) : fw t (k + 1) i k = fw t k i k := by
  have h1 := fw_self ht k (by omega) k hk
  have h2 := fw_nonneg ht k (by omega) i k hi hk
  simp only [fw, h1]
  omega
theorem fw_mid' {t : List (List Int)} (ht : IsTab t) {k : Nat} (hk : k < t.length) {i : Nat} (hi : i < t.length) : fw t (k + 1) k i = fw t k k i := by
  rw [fw_comm t (k + 1), fw_mid ht hk hi, fw_comm]
/-- the joining level -/
def jn (t : List (List Int)) (i j : Nat) : Int := fw t t.length i j
theorem jn_le (t : List (List Int)) (i j : Nat) : jn t i j ≤ lv t i j := fw_le _ i j
/-- the table with the levels g -/
def triT (m : Nat) (g : Nat → Nat → Int) : List (List Int) := (List.range m).map fun i => (List.range i).map fun j => g i j
theorem triT_len (m : Nat) (g : Nat → Nat → Int) : (triT m g).length = m := by simp [triT]
theorem triT_get {m : Nat} {g : Nat → Nat → Int} {i : Nat} (hi : i < m) : (triT m g)[i]? = some ((List.range i).map fun j => g i j) := by
  simp [triT, hi]
theorem triT_tri (m : Nat) (g : Nat → Nat → Int) : Tri (triT m g) := by
  intro i r h
  have hi : i < m := by
    have := (List.getElem?_eq_some_iff.mp h).1
    rwa [triT_len] at this
  rw [triT_get hi] at h
  cases h
  simp
theorem lv_triT {m : Nat} {g : Nat → Nat → Int} {i j : Nat} (hi : i < m) (hj : j < i) : lv (triT m g) i j = g i j := by
  unfold lv
  rw [if_neg (by omega), show max i j = i by omega, show min i j = j by omega]
  simp only [List.getD_eq_getElem?_getD]
  rw [triT_get hi, Option.getD_some]
  simp [hj]
theorem triT_ext {m : Nat} {g h : Nat → Nat → Int} (e : ∀ i j, i < m → j < i → g i j = h i j) : triT m g = triT m h := by
  unfold triT
  refine List.map_congr_left fun i hi => List.map_congr_left fun j hj => ?_
  exact e i j (List.mem_range.mp hi) (List.mem_range.mp hj)
theorem triT_of {t : List (List Int)} (ht : Tri t) : triT t.length (lv t) = t := by
  refine List.ext_getElem? fun i => ?_
  by_cases hi : i < t.length
  · rw [triT_get hi, List.getElem?_eq_getElem hi]
    refine congrArg some (List.ext_getElem? fun j => ?_)
    have hl := ht i t[i] (List.getElem?_eq_getElem hi)
    by_cases hj : j < i
    · rw [List.getElem?_map, List.getElem?_range hj, List.getElem?_eq_getElem (by omega)]
      simp only [Option.map_some]
      unfold lv
      rw [if_neg (by omega), show max i j = i by omega, show min i j = j by omega]
      simp [List.getD, hi, show j < t[i].length by omega]
    · rw [List.getElem?_eq_none (by simp; omega), List.getElem?_eq_none (by omega)]
  · rw [List.getElem?_eq_none (by rw [triT_len]; omega), List.getElem?_eq_none (by omega)]
theorem triT_tab {m : Nat} {g : Nat → Nat → Int} (h1 : 0 < m) (h2 : m ≤ 12) (h : ∀ i j, i < m → j < i → Lev (g i j)) : IsTab (triT m g) := by
  refine ⟨triT_tri m g, fun r hr x hx => ?_, by rw [triT_len]; exact h1, by rw [triT_len]; exact h2⟩
  obtain ⟨i, hi, rfl⟩ := List.mem_map.mp hr
  obtain ⟨j, hj, rfl⟩ := List.mem_map.mp hx
  exact h i j (List.mem_range.mp hi) (List.mem_range.mp hj)
/-- the nested table below -/
def jt (t : List (List Int)) : List (List Int) := triT t.length (jn t)
def lstI (r : List Int) : PyData := .list (r.map .int)
theorem triT_set {m : Nat} {g : Nat → Nat → Int} {a b : Nat} (ha : a < m) (hb : b < a) (x : Int) : (triT m g).set a (((List.range a).map fun j => g a j).set b x) = triT m fun i j => if i = a ∧ j = b then x else g i j := by
  refine List.ext_getElem? fun i => ?_
  rw [List.getElem?_set]
  by_cases hi : i < m
  · rw [triT_get hi, triT_get hi, triT_len]
    by_cases e : a = i
    · subst e
      rw [if_pos rfl, if_pos ha]
      refine congrArg some (List.ext_getElem? fun j => ?_)
      rw [List.getElem?_set]
      by_cases hj : j < a
      · by_cases e2 : b = j
        · subst e2
          simp [hj]
        · have e3 : ¬ j = b := fun e => e2 e.symm
          simp [e2, hj, e3]
      · have e2 : ¬ b = j := by omega
        rw [if_neg e2, List.getElem?_eq_none (by simp; omega), List.getElem?_eq_none (by simp; omega)]
    · have e3 : ¬ i = a := fun h => e h.symm
      rw [if_neg e]
      simp [e3]
  · rw [if_neg (by omega), List.getElem?_eq_none (by rw [triT_len]; omega), List.getElem?_eq_none (by rw [triT_len]; omega)]
end Mp
namespace Mp
open PySem
open Mp.T (ret_bind)
mutual
/-- no text, no dict, ints of at most forty digits -/
def brief : PyData → Bool
  | .none => true
  | .bool _ => true
  | .int i => decide (i.natAbs < 10 ^ 40)
  | .tuple xs => briefs xs
  | .list xs => briefs xs
  | .str _ => false
  | .dict _ => false
def briefs : List PyData → Bool
  | [] => true
  | x :: xs => brief x && briefs xs
end
theorem briefs_all {xs : List PyData} : briefs xs = true ↔ ∀ x ∈ xs, brief x = true := by
  induction xs with
  | nil => simp [briefs]
  | cons x xs ih => simp [briefs, ih]
mutual
theorem brief_showable : ∀ d : PyData, brief d = true → d.showable = true
  | .none, _ => by simp only [PyData.showable]
  | .bool _, _ => by simp only [PyData.showable]
  | .int i, h => by
    simp only [brief, decide_eq_true_eq] at h
    simp only [PyData.showable, decide_eq_true_eq]
    by_cases e : i.natAbs = 0
    · rw [e]
      decide
    · rw [Nat.log2_lt e]
      exact Nat.lt_of_lt_of_le h (by decide +kernel)
  | .tuple xs, h => by
    simp only [brief] at h
    simp only [PyData.showable]
    exact briefs_showable xs h
  | .list xs, h => by
    simp only [brief] at h
    simp only [PyData.showable]
    exact briefs_showable xs h
  | .str _, h => by simp [brief] at h
  | .dict _, h => by simp [brief] at h
theorem briefs_showable : ∀ ds : List PyData, briefs ds = true → PyData.showableAll ds = true
  | [], _ => by simp only [PyData.showableAll]
  | x :: xs, h => by
    simp only [briefs, Bool.and_eq_true] at h
    simp only [PyData.showableAll, Bool.and_eq_true]
    exact ⟨brief_showable x h.1, briefs_showable xs h.2⟩
end
mutual
theorem brief_canLay : ∀ d : PyData, brief d = true → d.canLay0 = true
  | .none, _ => rfl
  | .bool _, _ => by simp only [PyData.canLay0]
  | .int _, _ => by simp only [PyData.canLay0]
  | .tuple xs, h => by
    simp only [brief] at h
    simp only [PyData.canLay0]
    exact briefs_canLay xs h
  | .list xs, h => by
    simp only [brief] at h
    simp only [PyData.canLay0]
    exact briefs_canLay xs h
  | .str _, h => by simp [brief] at h
  | .dict _, h => by simp [brief] at h
theorem briefs_canLay : ∀ ds : List PyData, briefs ds = true → PyData.canLayAll0 ds = true
  | [], _ => by simp only [PyData.canLayAll0]
  | x :: xs, h => by
    simp only [briefs, Bool.and_eq_true] at h
    simp only [PyData.canLayAll0, Bool.and_eq_true]
    exact ⟨brief_canLay x h.1, briefs_canLay xs h.2⟩
end
mutual
theorem brief_leaves : ∀ d : PyData, brief d = true → d.leavesShort 41 = true
  | .none, _ => by simp only [PyData.leavesShort]
  | .bool _, _ => by simp only [PyData.leavesShort]
  | .int i, h => by
    simp only [brief, decide_eq_true_eq] at h
    simp only [PyData.leavesShort, decide_eq_true_eq]
    have e := int_text_length_le10 (k := 40) (by decide) h
    have e2 : (PyData.shown (.int i)).length = (toString i).length := by
      simp only [PyData.shown]
      exact ofString_length _
    omega
  | .tuple xs, h => by
    simp only [brief] at h
    simp only [PyData.leavesShort]
    exact briefs_leaves xs h
  | .list xs, h => by
    simp only [brief] at h
    simp only [PyData.leavesShort]
    exact briefs_leaves xs h
  | .str _, h => by simp [brief] at h
  | .dict _, h => by simp [brief] at h
theorem briefs_leaves : ∀ ds : List PyData, briefs ds = true → PyData.leavesShortAll 41 ds = true
  | [], _ => by simp only [PyData.leavesShortAll]
  | x :: xs, h => by
    simp only [briefs, Bool.and_eq_true] at h
    simp only [PyData.leavesShortAll, Bool.and_eq_true]
    exact ⟨brief_leaves x h.1, briefs_leaves xs h.2⟩
end
open PyProof.Rows in
mutual
theorem brief_low : ∀ d : PyData, brief d = true → ∀ c ∈ d.shown.cps.toList, c < 128
  | .none, _, c, hc => by
    rw [mem_shown_none] at hc
    simp at hc
    omega
  | .bool b, _, c, hc => by
    rw [mem_shown_bool] at hc
    cases b
    · simp at hc
      omega
    · simp at hc
      omega
  | .int i, _, c, hc => by
    rcases Nat.lt_or_ge c 128 with h | h
    · exact h
    · exact absurd hc (shown_int_free' ⟨by omega, by omega⟩ i)
  | .tuple xs, h, c, hc => by
    simp only [brief] at h
    simp only [PyData.shown, tupleText, mem_cps_append, mem_join, signs_lparen, signs_sep] at hc
    rcases hc with (hc | ⟨t, ht, hc⟩ | ⟨_, hc⟩) | hc
    · simp at hc; omega
    · exact briefs_low xs h t ht c hc
    · simp at hc; omega
    · split at hc
      · have e : ((",)" : String) : Str).cps.toList = [44, 41] := by decide
        rw [e] at hc
        simp at hc; omega
      · have e : ((")" : String) : Str).cps.toList = [41] := by decide
        rw [e] at hc
        simp at hc; omega
  | .list xs, h, c, hc => by
    simp only [brief] at h
    have e : PyData.shown (.list xs) = listText (PyData.shownAll xs) := by simp only [PyData.shown]
    rw [e, listText_eq_join] at hc
    simp only [mem_cps_append, mem_join, signs_lbrack, signs_rbrack, signs_sep] at hc
    rcases hc with (hc | ⟨t, ht, hc⟩ | ⟨_, hc⟩) | hc
    · simp at hc; omega
    · exact briefs_low xs h t ht c hc
    · simp at hc; omega
    · simp at hc; omega
  | .str _, h, _, _ => by simp [brief] at h
  | .dict _, h, _, _ => by simp [brief] at h
theorem briefs_low : ∀ ds : List PyData, briefs ds = true → ∀ t ∈ PyData.shownAll ds, ∀ c ∈ t.cps.toList, c < 128
  | [], _, t, ht => by simp [PyData.shownAll] at ht
  | x :: xs, h, t, ht => by
    simp only [briefs, Bool.and_eq_true] at h
    simp only [PyData.shownAll, List.mem_cons] at ht
    rcases ht with rfl | ht
    · exact brief_low x h.1
    · exact briefs_low xs h.2 t ht
end
end Mp
namespace Mp
open PySem
open Mp.T (ret_bind)
theorem depth_mem {x : PyData} : ∀ {xs : List PyData}, x ∈ xs → x.depth ≤ PyData.depthAll xs
  | y :: ys, h => by
    simp only [PyData.depthAll]
    rcases List.mem_cons.mp h with rfl | h
    · omega
    · have := depth_mem h
      omega
end Mp
namespace Mp
open PySem
open Mp.T (ret_bind)
theorem tab_brief {t : List (List Int)} (ht : IsTab t) : brief (tabD t) = true := by
  unfold tabD
  rw [brief, briefs_all]
  intro x hx
  obtain ⟨r, hr, rfl⟩ := List.mem_map.mp hx
  unfold tupI
  rw [brief, briefs_all]
  intro y hy
  obtain ⟨l, hl, rfl⟩ := List.mem_map.mp hy
  have := ht.lev r hr l hl
  simp only [brief, decide_eq_true_eq]
  omega
theorem depthAll_le {xs : List PyData} {d : Nat} (h : ∀ x ∈ xs, x.depth ≤ d) : PyData.depthAll xs ≤ d := by
  induction xs with
  | nil => simp [PyData.depthAll]
  | cons x xs ih =>
    simp only [PyData.depthAll]
    have h1 := h x List.mem_cons_self
    have h2 := ih fun y hy => h y (List.mem_cons_of_mem _ hy)
    omega
theorem bulkAll_le {xs : List PyData} {d : Nat} (h : ∀ x ∈ xs, x.bulk ≤ d) : PyData.bulkAll xs ≤ xs.length * (d + 1) := by
  induction xs with
  | nil => simp [PyData.bulkAll]
  | cons x xs ih =>
    simp only [PyData.bulkAll, List.length_cons, Nat.succ_mul]
    have h1 := h x List.mem_cons_self
    have h2 := ih fun y hy => h y (List.mem_cons_of_mem _ hy)
    omega
theorem tupI_depth (r : List Int) : (tupI r).depth ≤ 1 := by
  simp only [tupI, PyData.depth]
  have := depthAll_le (d := 0) (xs := r.map PyData.int) fun x hx => (by
    obtain ⟨l, hl, rfl⟩ := List.mem_map.mp hx
    simp [PyData.depth])
  omega
theorem tab_depth (t : List (List Int)) : (tabD t).depth ≤ 2 := by
  simp only [tabD, PyData.depth]
  have := depthAll_le (d := 1) (xs := t.map tupI) fun x hx => (by
    obtain ⟨l, hl, rfl⟩ := List.mem_map.mp hx
    exact tupI_depth l)
  omega
theorem tupI_bulk (r : List Int) : (tupI r).bulk ≤ r.length := by
  simp only [tupI, PyData.bulk]
  have := bulkAll_le (d := 0) (xs := r.map PyData.int) fun x hx => (by
    obtain ⟨l, hl, rfl⟩ := List.mem_map.mp hx
    simp [PyData.bulk])
  simpa using this
theorem tab_bulk {t : List (List Int)} (ht : IsTab t) : (tabD t).bulk ≤ 12 * 13 := by
  simp only [tabD, PyData.bulk]
  have := bulkAll_le (d := 12) (xs := t.map tupI) fun x hx => (by
    obtain ⟨r, hr, rfl⟩ := List.mem_map.mp hx
    obtain ⟨i, hi⟩ := List.getElem?_of_mem hr
    have h1 := ht.tri i r hi
    have h2 : i < t.length := by
      rcases Nat.lt_or_ge i t.length with h' | h'
      · exact h'
      · rw [List.getElem?_eq_none h'] at hi; cases hi
    have h3 := tupI_bulk r
    have := ht.few
    omega)
  have h4 := ht.few
  rw [List.length_map] at this
  exact Nat.le_trans this (Nat.mul_le_mul h4 (by omega))
end Mp
namespace Mp
open PySem
open Mp.T (ret_bind)
theorem fw_tri {t : List (List Int)} (ht : IsTab t) : ∀ k, k ≤ t.length → ∀ m, m < k → ∀ i j, i < t.length → j < t.length → fw t k i j ≤ max (fw t k i m) (fw t k m j)
  | 0, _, m, hm, _, _, _, _ => by omega
  | k + 1, hk, m, hm, i, j, hi, hj => by
    have ih := fw_tri ht k (by omega)
    by_cases e : m = k
    · subst e
      rw [fw_mid ht (by omega) hi, fw_mid' ht (by omega) hj]
      simp only [fw]
      omega
    · have hm' : m < k := by omega
      have a1 := ih m hm' i j hi hj
      have a2 := ih m hm' k j (by omega) hj
      have a3 := ih m hm' i k hi (by omega)
      simp only [fw]
      rw [fw_comm t k m k] at *
      omega
theorem jn_tri {t : List (List Int)} (ht : IsTab t) {i j m : Nat} (hi : i < t.length) (hj : j < t.length) (hm : m < t.length) : jn t i j ≤ max (jn t i m) (jn t m j) := fw_tri ht _ (Nat.le_refl _) m hm i j hi hj
/-- what is closed under steps is closed under ways -/
theorem closed_fw {t : List (List Int)} {l : Int} {P : Nat → Prop} (hP : ∀ a b, a < t.length → b < t.length → P a → lv t a b ≤ l → P b) : ∀ k, k ≤ t.length → ∀ a b, a < t.length → b < t.length → P a → fw t k a b ≤ l → P b
  | 0, _, a, b, ha, hb, pa, h => hP a b ha hb pa h
  | k + 1, hk, a, b, ha, hb, pa, h => by
    have ih := closed_fw hP k (by omega)
    simp only [fw] at h
    by_cases h1 : fw t k a b ≤ l
    · exact ih a b ha hb pa h1
    · have h2 : fw t k a k ≤ l := by omega
      have h3 : fw t k k b ≤ l := by omega
      exact ih k b (by omega) hb (ih a k ha (by omega) pa h2) h3
def grp (t : List (List Int)) (l : Int) (i : Nat) : List Nat := (List.range t.length).filter fun j => decide (jn t i j ≤ l)
theorem grp_mem {t : List (List Int)} {l : Int} {i j : Nat} : j ∈ grp t l i ↔ j < t.length ∧ jn t i j ≤ l := by simp [grp]
theorem natD_mem {o : List Nat} {x : Int} : x ∈ natD o ↔ ∃ j ∈ o, x = (j : Int) := by
  unfold natD
  rw [List.mem_map]
  exact ⟨fun ⟨j, h, e⟩ => ⟨j, h, e.symm⟩, fun ⟨j, h, e⟩ => ⟨j, h, e.symm⟩⟩
theorem natD_sorted {o : List Nat} (h : o.Pairwise (· < ·)) : (natD o).Pairwise (· < ·) := by
  unfold natD
  rw [List.pairwise_map]
  exact h.imp fun h => by omega
theorem range_sorted (m : Nat) : (List.range m).Pairwise (· < ·) := List.pairwise_lt_range
theorem grp_sorted (t : List (List Int)) (l : Int) (i : Nat) : (grp t l i).Pairwise (· < ·) := (range_sorted _).sublist List.filter_sublist
theorem sorted_nodup {xs : List Int} (h : xs.Pairwise (· < ·)) : xs.Nodup := h.imp fun h e => by omega
/-- items found so far -/
structure Fnd (t : List (List Int)) (l : Int) (i : Nat) (S Fr : List Int) : Prop where
  sorted : S.Pairwise (· < ·)
  item : ∀ x ∈ S, ∃ j, j < t.length ∧ x = (j : Int) ∧ jn t i j ≤ l
  start : (i : Int) ∈ S
  sub : ∀ x ∈ Fr, x ∈ S
  clo : ∀ a, a < t.length → (a : Int) ∈ S → (a : Int) ∉ Fr → ∀ b, b < t.length → lv t a b ≤ l → (b : Int) ∈ S
theorem Fnd.len {t : List (List Int)} {l : Int} {i : Nat} {S Fr : List Int} (h : Fnd t l i S Fr) : S.length ≤ t.length := by
  have e : S = (natD (List.range t.length)).filter fun x => decide (x ∈ S) := by
    refine sorted_ext h.sorted ((natD_sorted (range_sorted _)).sublist List.filter_sublist) fun x => ?_
    rw [List.mem_filter, natD_mem]
    constructor
    · intro hx
      obtain ⟨j, hj, e, _⟩ := h.item x hx
      exact ⟨⟨j, List.mem_range.mpr hj, e⟩, decide_eq_true hx⟩
    · exact fun ⟨_, hx⟩ => of_decide_eq_true hx
  have h1 : ((natD (List.range t.length)).filter fun x => decide (x ∈ S)).length ≤ (natD (List.range t.length)).length := List.length_filter_le _ _
  rw [← e, natD_len, List.length_range] at h1
  exact h1
theorem Fnd.done {t : List (List Int)} {l : Int} {i : Nat} {S : List Int} (hi : i < t.length) (h : Fnd t l i S []) : S = natD (grp t l i) := by
  refine sorted_ext h.sorted (natD_sorted (grp_sorted t l i)) fun x => ?_
  rw [natD_mem]
  constructor
  · intro hx
    obtain ⟨j, hj, e, hl⟩ := h.item x hx
    exact ⟨j, grp_mem.mpr ⟨hj, hl⟩, e⟩
  · rintro ⟨j, hj, rfl⟩
    have hj := grp_mem.mp hj
    exact closed_fw (P := fun a => (a : Int) ∈ S) (fun a b ha hb pa hl => h.clo a ha pa (List.not_mem_nil) b hb hl) _ (Nat.le_refl _) i j hi hj.1 h.start hj.2
/-- the next ones -/
def outs (t : List (List Int)) (S : List Int) : List Nat := (List.range t.length).filter fun j => !decide ((j : Int) ∈ S)
def frsh (t : List (List Int)) (l : Int) (S Fr : List Int) : List Nat := (outs t S).filter fun j => Fr.any fun a => decide (lv t a.toNat j ≤ l)
theorem Fnd.next {t : List (List Int)} (ht : IsTab t) {l : Int} {i : Nat} (hi : i < t.length) {S Fr : List Int} (h : Fnd t l i S Fr) : Fnd t l i (sortI (S ++ natD (frsh t l S Fr))) (natD (frsh t l S Fr)) ∧ (sortI (S ++ natD (frsh t l S Fr))).length = S.length + (frsh t l S Fr).length := by
  have hf : ∀ {j}, j ∈ frsh t l S Fr ↔ j < t.length ∧ (j : Int) ∉ S ∧ ∃ a, a < t.length ∧ (a : Int) ∈ Fr ∧ lv t a j ≤ l := fun {j} => by
    unfold frsh outs
    simp only [List.mem_filter, List.mem_range, List.any_eq_true, decide_eq_true_eq, Bool.not_eq_true', decide_eq_false_iff_not]
    constructor
    · rintro ⟨⟨h1, h2⟩, x, hx, hl⟩
      obtain ⟨a, ha, e, _⟩ := h.item x (h.sub x hx)
      subst e
      exact ⟨h1, h2, a, ha, hx, by simpa using hl⟩
    · rintro ⟨h1, h2, a, ha, hx, hl⟩
      exact ⟨⟨h1, h2⟩, a, hx, by simpa using hl⟩
  have nd : (S ++ natD (frsh t l S Fr)).Nodup := by
    rw [List.nodup_append]
    refine ⟨sorted_nodup h.sorted, sorted_nodup (natD_sorted ((range_sorted _).sublist (List.filter_sublist.trans List.filter_sublist))), fun x hx y hy e => ?_⟩
    obtain ⟨j, hj, e2⟩ := natD_mem.mp hy
    subst e e2
    exact (hf.mp hj).2.1 hx
  have hm : ∀ x, x ∈ sortI (S ++ natD (frsh t l S Fr)) ↔ x ∈ S ∨ ∃ j ∈ frsh t l S Fr, x = (j : Int) := fun x => by
    rw [sortI_mem, List.mem_append, natD_mem]
  refine ⟨⟨sortI_strict nd, fun x hx => ?_, (hm _).mpr (.inl h.start), fun x hx => (hm x).mpr (.inr (natD_mem.mp hx)), fun a ha hS hn b hb hl => ?_⟩, ?_⟩
  · rcases (hm x).mp hx with hx | ⟨j, hj, rfl⟩
    · exact h.item x hx
    · obtain ⟨h1, _, a, ha, hx, hl⟩ := hf.mp hj
      obtain ⟨a', _, e, hja⟩ := h.item _ (h.sub _ hx)
      have : a = a' := by omega
      subst this
      refine ⟨j, h1, rfl, ?_⟩
      have h3 := jn_tri ht hi h1 ha
      have h4 := jn_le t a j
      omega
  · rcases (hm _).mp hS with hS | ⟨j, hj, e⟩
    · by_cases hF : (a : Int) ∈ Fr
      · by_cases hbS : (b : Int) ∈ S
        · exact (hm _).mpr (.inl hbS)
        · exact (hm _).mpr (.inr ⟨b, hf.mpr ⟨hb, hbS, a, ha, hF, hl⟩, rfl⟩)
      · exact (hm _).mpr (.inl (h.clo a ha hS hF b hb hl))
    · exact absurd (natD_mem.mpr ⟨j, hj, e⟩) hn
  · rw [sortI_len, List.length_append, natD_len]
end Mp
namespace Mp
open PySem
open Mp.T (ret_bind)
end Mp
namespace Mp
open PySem
open Mp.T (ret_bind)
end Mp
namespace Mp
open PySem
open Mp.T (ret_bind)
theorem zipD_of {α : Type} {f g : α → PyData} : ∀ xs : List α, zipD (xs.map f) (xs.map g) = xs.map fun x => .tuple [f x, g x]
  | [] => rfl
  | x :: xs => by
    rw [List.map_cons, List.map_cons, zipD, zipD_of xs]
    rfl
/-- a table as its levels -/
def rowI (t : List (List Int)) (i : Nat) : List Int := (List.range i).map fun j => lv t i j
theorem tab_rows {t : List (List Int)} (ht : Tri t) : t = (List.range t.length).map (rowI t) := (triT_of ht).symm
theorem tabD_rows {t : List (List Int)} (ht : Tri t) : t.map tupI = (List.range t.length).map fun i => tupI (rowI t i) := by
  have h : ∀ u : List (List Int), u = t → u.map tupI = (List.range t.length).map fun i => tupI (rowI t i) := fun u e => by
    rw [e]
    have := congrArg (List.map tupI) (tab_rows ht)
    rw [List.map_map] at this
    exact this
  exact h t rfl
def dfL (t u : List (List Int)) : List Int := (pairsN t.length).map fun p => lv t p.1 p.2 - lv u p.1 p.2
def gap (t : List (List Int)) : Int := maxI (0 :: dfL t (jt t))
end Mp
namespace Mp
open PySem
open Mp.T (ret_bind)
theorem law_nested_2_ok {gs : List Int} (hg : Grades gs) {m : Nat} (h1 : 1 ≤ m) (h2 : m ≤ 12) (n : Nat) : W (fun v => ∃ t, v = .d (tabD t) ∧ IsTab t ∧ t.length = m ∧ Nested t) (callF tb noSub (n+2) i_law_nested_2 [.rng, .d (.int m), .d (.list (gs.map .int))]) := by
  rw [call_law_nested_2]
  refine wQ fun J hJ => ?_
  simp [B_law_nested_2]
  refine W_whl (fun f env => ∃ t : List (List Int), ∃ s4 s5 s6, env = [.v .rng, .v (.d (.int m)), .v (.d (.list (gs.map .int))), .own (t.map tupI), s4, s5, s6] ∧ IsTab t ∧ Nested t ∧ t.length ≤ m ∧ f = m - t.length) (m - 1) (by omega) ?_ ?_
  · refine ⟨[[]], _, _, _, rfl, ⟨?_, ?_, by simp, by simp⟩, ?_, by simpa using h1, by simp⟩
    · intro i r h
      cases i with
      | zero => simp at h; rw [h]; rfl
      | succ i => simp at h
    · intro r hr
      simp at hr
      subst hr
      simp
    · intro i j k hi hj hk
      simp at hi hj hk
      subst hi hj hk
      simp
  · rintro f env ⟨t, s4, s5, s6, rfl, ht, hn, hl, rfl⟩ J' R hJ' hR
    simp
    by_cases hlt : t.length < m
    · simp [hlt]
      have hp := ht.pos
      refine ⟨by omega, wN (by omega) (wD (by omega) fun a a1 => ?_)⟩
      have ha : a < t.length := by omega
      refine W_use (law_one_ints hg.pos (by have := hg.few; omega) n) ?_
      rintro _ ⟨g, hgm, rfl⟩
      have hgl := hg.lev g hgm
      simp [rangeD0 (show t.length ≤ 16777216 by omega)]
      rw [mapT_map, mapT_ret (g := fun k => .int (max g (lv t a k)))]
      · simp
        refine wN (by omega) (wR (hJ' (m - (t.length + 1)) _ (by omega) ⟨t ++ [(List.range t.length).map fun k => max g (lv t a k)], _, _, _, by simp [tupI, Function.comp_def]; exact ⟨rfl, rfl, rfl⟩, ⟨tri_app ht.tri (by simp), ?_, by simp, by simp; omega⟩, nested_app hn ha (by omega) fun i j hi hj => ?_, by simp; omega, by simp⟩))
        · intro r hr x hx
          rcases List.mem_append.mp hr with hr | hr
          · exact ht.lev r hr x hx
          · simp at hr
            subst hr
            simp at hx
            obtain ⟨k, hk, rfl⟩ := hx
            by_cases e : a = k
            · subst e
              simp
              omega
            · have := lv_pos ht ha hk e
              omega
        · by_cases e : i = j
          · subst e; simp
          · have := lv_pos ht hi hj e
            omega
      · intro k hk
        have hk := List.mem_range.mp hk
        have h3 := law_level_eq ht.tri ha hk true n
        simp at h3
        simp [h3, flat]
    · simp [hlt]
      refine hR _ ?_
      simp
      exact hJ _ ⟨t, rfl, ht, by omega, hn⟩
theorem law_table_2_ok {m : Nat} (h1 : 1 ≤ m) (h2 : m ≤ 12) (n : Nat) : W (fun v => ∃ t, v = .d (tabD t) ∧ IsTab t ∧ t.length = m) (callF tb noSub (n+3) i_law_table_2 [.rng, .d (.int m)]) := by
  rw [call_law_table_2]
  refine wQ fun J hJ => ?_
  simp [B_law_table_2]
  refine W_use (law_grades_ok (n+1)) ?_
  rintro _ ⟨gs, rfl, hg⟩
  have hgf := hg.few
  refine wD (by omega) fun way hway => ?_
  simp
  refine wFb (fun hw => ?_) fun hw => ?_
  · simp [rangeD0 (show m ≤ 16777216 by omega)]
    refine wG (by simp; omega) ?_
    refine W_mapG tupI (fun (x : PyData) r => ∃ k : Nat, x = .int k ∧ RowOk k r) (fun x hx J' hJ' => ?_) fun t ht => ?_
    · obtain ⟨k, hk, rfl⟩ := List.mem_map.mp hx
      have hk := List.mem_range.mp hk
      refine W_use (law_levels_ok hg (show k ≤ 12 by omega) n) ?_
      rintro _ ⟨r, rfl, hr⟩
      exact wR (hJ' _ ⟨k, rfl, hr⟩)
    · obtain ⟨ht, hl⟩ := isTab_of ht h1 h2
      simp
      exact hJ _ ⟨t, rfl, ht, hl⟩
  · simp
    refine wFb (fun hw => ?_) fun hw => ?_
    · simp
      have e : [PyData.int 3, .int 20, .int 1000000000000] = [3, 20, 1000000000000].map .int := rfl
      rw [e]
      refine W_use (law_one_ints (by simp) (by simp) (n+1)) ?_
      rintro _ ⟨w, hwm, rfl⟩
      have hwm : 1 ≤ w ∧ w ≤ 1000000000000 := by
        simp at hwm
        omega
      simp [rangeD0 (show m ≤ 16777216 by omega)]
      refine wG (by simp; omega) ?_
      refine W_mapG tupI (fun (x : PyData) r => ∃ k : Nat, x = .int k ∧ RowOk k r) (fun x hx J' hJ' => ?_) fun t ht => ?_
      · obtain ⟨k, hk, rfl⟩ := List.mem_map.mp hx
        have hk := List.mem_range.mp hk
        refine W_use (law_any_ok hwm.1 hwm.2 (show k ≤ 12 by omega) (n+1)) ?_
        rintro _ ⟨r, rfl, hr⟩
        exact wR (hJ' _ ⟨k, rfl, hr⟩)
      · obtain ⟨ht, hl⟩ := isTab_of ht h1 h2
        simp
        exact hJ _ ⟨t, rfl, ht, hl⟩
    · simp
      refine W_use (law_nested_2_ok hg h1 h2 n) ?_
      rintro _ ⟨t, rfl, ht, hl, hn⟩
      by_cases hw2 : (way : Int) = 2
      · simp [hw2]
        exact hJ _ ⟨t, rfl, ht, hl⟩
      by_cases hm1 : (m : Int) = 1
      · simp [hw2, hm1]
        exact hJ _ ⟨t, rfl, ht, hl⟩
      simp [hw2, hm1]
      by_cases hw3 : (way : Int) = 3
      · simp [hw3]
        refine W_use (law_raised_ok hg ht n) ?_
        rintro _ ⟨t', rfl, ht', hl'⟩
        exact wR (hJ _ ⟨t', rfl, ht', by omega⟩)
      · simp [hw3]
        refine wN (by omega) (wD (by omega) fun a ha => wN (by omega) (wD (by omega) fun b hb => ?_))
        have e : gs.map PyData.int ++ [PyData.int 1, PyData.int 1000000000000] = (gs ++ [1, 1000000000000]).map .int := by simp
        rw [e]
        refine wN (by omega) ?_
        refine W_use (law_one_ints (ns := gs ++ [1, 1000000000000]) (by simp) (by simp; omega) (n+1)) ?_
        rintro _ ⟨g, hgm, rfl⟩
        have hgm : Lev g := by
          simp at hgm
          unfold Lev
          rcases hgm with h | h | h
          · exact hg.lev g h
          · omega
          · omega
        have e1 : (1 : Int) + a = ((1 + a : Nat) : Int) := by omega
        have e2 : ∀ k : Nat, (k : Int) + 1 = ((k + 1 : Nat) : Int) := fun k => by omega
        have hi : 1 + a < t.length := by omega
        have hr := ht.row hi
        simp only [e1, tabD, o2_ix_t, tab_ix ht.tri hi, ret_bind, asD_d]
        generalize ht2 : t.getD (1 + a) [] = r at *
        have hrl := hr.1
        simp only [tupI, sliceD_t, cut_U' (show b ≤ r.length by omega), ret_bind, asD_d, at_zero, at_succ, List.set_cons_zero, List.set_cons_succ, asInt_int]
        simp only [e2, cut_L' (show b + 1 ≤ r.length by omega), cut_U' (show 1 + a ≤ t.length by omega), cut_L' (show 1 + a + 1 ≤ t.length by omega), o2_add_t, T.assoc]
        have htf := ht.few
        refine wN (by simp; omega) ?_
        simp only [ret_bind, o2_add_t, T.assoc]
        refine wN (by simp; omega) ?_
        (try simp only [ret_bind, o2_add_t, T.assoc])
        refine wN (by simp; omega) ?_
        (try simp only [ret_bind, o2_add_t, T.assoc])
        refine wN (by simp; omega) ?_
        refine wR (hJ _ ⟨t.set (1 + a) (r.set b g), ?_, set_tab ht (set_row hr hgm), by simp [hl]⟩)
        rw [← set_cut (show b < r.length by omega), ← set_cut hi]
        simp [tabD, tupI]
end Mp
namespace Mp
open PySem
open Mp.T (ret_bind exc_bind)
/-- two tables, level by level -/
def cmbT (f : Int → Int → Int) (t u : List (List Int)) : List (List Int) := triT t.length fun i j => f (lv t i j) (lv u i j)
def maxT : List (List Int) → List (List Int) → List (List Int) := cmbT max
theorem maxT_len (t u : List (List Int)) : (maxT t u).length = t.length := triT_len _ _
theorem cmb_tab {f : Int → Int → Int} {t u : List (List Int)} (ht : IsTab t) (hu : IsTab u) (hl : u.length = t.length) (hf : ∀ a b, Lev a → Lev b → Lev (f a b)) : IsTab (cmbT f t u) :=
  triT_tab ht.pos ht.few fun i j hi hj => hf _ _ (lv_pos ht hi (by omega) (by omega)) (lv_pos hu (by omega) (by omega) (by omega))
theorem maxT_tab {t u : List (List Int)} (ht : IsTab t) (hu : IsTab u) (hl : u.length = t.length) : IsTab (maxT t u) := cmb_tab ht hu hl fun a b h1 h2 => by unfold Lev at *; omega
theorem lv_cmb {f : Int → Int → Int} {t u : List (List Int)} {i j : Nat} (h0 : f 0 0 = 0) (hi : i < t.length) (hj : j < t.length) : lv (cmbT f t u) i j = f (lv t i j) (lv u i j) := by
  rcases Nat.lt_trichotomy i j with h | h | h
  · rw [lv_comm, cmbT, lv_triT hj h, lv_comm t, lv_comm u]
  · subst h
    simp [lv, h0]
  · rw [cmbT, lv_triT hi h]
theorem lv_maxT {t u : List (List Int)} {i j : Nat} (hi : i < t.length) (hj : j < t.length) : lv (maxT t u) i j = max (lv t i j) (lv u i j) := lv_cmb (by simp) hi hj
/-- two tables are the same if their levels are -/
theorem tab_ext {t u : List (List Int)} (ht : Tri t) (hu : Tri u) (hl : u.length = t.length) (h : ∀ i j, i < t.length → j < i → lv t i j = lv u i j) : t = u := by
  rw [← triT_of ht, ← triT_of hu, hl]
  exact triT_ext h
theorem cmb_rows (f : Int → Int → Int) (t u : List (List Int)) : cmbT f t u = (List.range t.length).map fun i => (List.range i).map fun j => f (lv t i j) (lv u i j) := rfl
theorem greater_levels_eq {t u : List (List Int)} (ht : IsTab t) (hu : IsTab u) (hl : u.length = t.length) (n : Nat) : callF tb noSub (n+1) i_greater_levels [.d (tabD t), .d (tabD u)] = T.ret (.d (tabD (maxT t u))) := by
  have e1 : tabD t = .tuple ((List.range t.length).map fun i => tupI (rowI t i)) := by rw [tabD, tabD_rows ht.tri]
  have e2 : tabD u = .tuple ((List.range t.length).map fun i => tupI (rowI u i)) := by rw [tabD, tabD_rows hu.tri, hl]
  rw [call_greater_levels, e1, e2]
  simp [B_greater_levels, zipD_of]
  rw [mapT_map, mapT_ret (g := fun i => tupI ((List.range i).map fun j => max (lv t i j) (lv u i j)))]
  · simp [maxT, cmb_rows, tabD, Function.comp_def]
  · intro i hi
    simp [tupI, rowI]
    have e3 : ∀ v : List (List Int), ((List.range i).map (PyData.int ∘ fun j => lv v i j)) = (List.range i).map fun j => .int (lv v i j) := fun v => rfl
    rw [e3, e3, zipD_of, mapT_map, mapT_ret (g := fun j => PyData.int (max (lv t i j) (lv u i j)))]
    · simp [Function.comp_def]
    · intro j hj
      have e4 : PyData.tuple [.int (lv t i j), .int (lv u i j)] = .tuple ([lv t i j, lv u i j].map .int) := rfl
      rw [e4, o1_maxL_ti, need_pos (by simp)]
      rfl
/-- the first table that has another number of items -/
def uneq (ts : List (List (List Int))) : Option Nat := (List.range ts.length).find? fun k => !decide ((ts.getD k []).length = (ts.getD 0 []).length)
theorem forG_exc {α : Type} {body : PyData → Ev → T (Fl × Ev)} (I : Ev → Prop) (p : α → Bool) (ex : α → Ex) {g : α → PyData} : ∀ {xs : List α}, (∀ x ∈ xs, ∀ env, I env → (p x = false → ∃ env', body (g x) env = T.ret (.nx, env') ∧ I env') ∧ (p x = true → body (g x) env = T.exc (ex x))) →
    ∀ {env}, I env → (xs.find? p = none → ∃ env', forG body (xs.map g) env = T.ret (.nx, env') ∧ I env') ∧ (∀ x, xs.find? p = some x → forG body (xs.map g) env = T.exc (ex x))
  | [], _, env, hI => ⟨fun _ => ⟨env, rfl, hI⟩, fun x h => by cases h⟩
  | a :: as, h, env, hI => by
    obtain ⟨h1, h2⟩ := h a List.mem_cons_self env hI
    rw [List.find?_cons, List.map_cons]
    cases hp : p a with
    | true =>
      refine ⟨fun h => by simp at h, fun x hx => ?_⟩
      simp only [Option.some.injEq] at hx
      subst hx
      rw [forG, h2 hp]
      rfl
    | false =>
      obtain ⟨env', e1, hI'⟩ := h1 hp
      obtain ⟨k1, k2⟩ := forG_exc I p ex (xs := as) (fun x hx => h x (List.mem_cons_of_mem _ hx)) hI'
      have e : forG body (g a :: as.map g) env = forG body (as.map g) env' := by rw [forG, e1]; rfl
      rw [e]
      exact ⟨k1, k2⟩
theorem forG_excK {α γ : Type} {body : PyData → Ev → T (Fl × Ev)} {k : Fl × Ev → T γ} {rhs : T γ} (I : Ev → Prop) (p : α → Bool) (ex : α → Ex) {g : α → PyData} {xs : List α} {env : Ev} (hI : I env)
    (hs : ∀ x ∈ xs, ∀ env, I env → (p x = false → ∃ env', body (g x) env = T.ret (.nx, env') ∧ I env') ∧ (p x = true → body (g x) env = T.exc (ex x)))
    (h1 : xs.find? p = none → ∀ env', I env' → k (.nx, env') = rhs) (h2 : ∀ x, xs.find? p = some x → T.exc (ex x) = rhs) : (forG body (xs.map g) env >>= k) = rhs := by
  obtain ⟨k1, k2⟩ := forG_exc I p ex hs hI
  cases h : xs.find? p with
  | none =>
    obtain ⟨env', e, hI'⟩ := k1 h
    rw [e]
    exact h1 h env' hI'
  | some x =>
    rw [k2 x h]
    exact h2 x h
theorem enumD_tabs : ∀ (ts : List (List (List Int))) (k : Nat), enumD k (ts.map tabD) = (List.range ts.length).map fun i => .tuple [.int ((k + i : Nat) : Int), tabD (ts.getD i [])]
  | [], k => rfl
  | t :: ts, k => by
    rw [List.map_cons, enumD, enumD_tabs ts (k + 1), List.length_cons, List.range_succ_eq_map, List.map_cons, List.map_map]
    refine List.cons_eq_cons.mpr ⟨rfl, List.map_congr_left fun i hi => ?_⟩
    have e : k + 1 + i = k + (i + 1) := by omega
    simp only [Function.comp_def]
    rw [e]
    rfl
def badSizes (k : Nat) : Ex := ⟨7, [(Str.ofString "index", .int k)]⟩
theorem need_equal_sizes_eq {ts : List (List (List Int))} (h0 : ts ≠ []) (hl : ts.length ≤ 1000) (n : Nat) : callF tb noSub (n+1) i_need_equal_sizes (ts.map fun t => .d (tabD t)) = match uneq ts with
    | none => T.ret (.d .none)
    | some k => T.exc (badSizes k) := by
  have e1 : (ts.map fun t => PV.d (tabD t)) = [] ++ (ts.map tabD).map PV.d := by simp
  have hc : callF tb noSub (n + 1) i_need_equal_sizes ([] ++ (ts.map tabD).map PV.d) = (denSs (CC n) B_need_equal_sizes [.v (.d (.tuple (ts.map tabD))), .un, .un] >>= fin) := (call_eq tb_need_equal_sizes n _).trans (run_star (us := []) (ds := ts.map tabD) rfl rfl (by simp; omega))
  rw [e1, hc]
  obtain ⟨t0, ts', rfl⟩ : ∃ a b, ts = a :: b := by cases ts with
    | nil => exact (h0 rfl).elim
    | cons a b => exact ⟨a, b, rfl⟩
  simp [B_need_equal_sizes]
  rw [← List.map_cons, enumD_tabs]
  have hz : seqAt (tabD t0 :: ts'.map tabD) 0 = T.ret (tabD t0) := seqAt_ok (n := 0) rfl
  refine forG_excK (fun env => ∃ s1 s2, env = [.v (.d (.tuple ((t0 :: ts').map tabD))), s1, s2]) (fun k => !decide (((t0 :: ts').getD k []).length = ((t0 :: ts').getD 0 []).length)) badSizes ⟨_, _, rfl⟩ ?_ ?_ ?_
  · rintro k hk env ⟨s1, s2, rfl⟩
    have e2 : (t0 :: ts').getD 0 [] = t0 := rfl
    rw [e2]
    generalize (t0 :: ts').getD k [] = u
    refine ⟨fun hp => ?_, fun hp => ?_⟩
    · have hp : u.length = t0.length := by simpa using hp
      simp [hz, tab_len', hp]
    · have hp : ¬ u.length = t0.length := by simpa using hp
      have hp' : ¬ (u.length : Int) = (t0.length : Int) := by omega
      simp [hz, tab_len', hp, hp']
      rfl
  · rintro h env ⟨s1, s2, rfl⟩
    rw [uneq, h]
    simp
  · intro x h
    rw [uneq, h]
end Mp
namespace Mp
open PySem
open Mp.T hiding W W_bind W.mono
section
variable {C : Ctx} {env : Ev} {α : Type}
@[simp] theorem denE_isx (cs : List Nat) (a : ME) : denE C (.isx cs a) env = (denE C a env >>= fun v => match v with
    | .exc k _ => T.ret (.d (.bool (cs.any fun j => subX k j)))
    | _ => stuck) := by
  simp only [denE] <;> rfl
@[simp] theorem denE_alone (a : ME) : denE C (.alone a) env = (denE C a env >>= fun v => match v with
    | .exc k _ => T.ret (.d (.bool (aloneX k)))
    | _ => stuck) := by
  simp only [denE] <;> rfl
@[simp] theorem denS_rais (c : Nat) (es : MEs) : denS C (.rais c es) env = (denEs C es env >>= fun xs => need (xs.length = (fsX c).length) >>= fun _ => T.exc ⟨c, (fsX c).zip xs⟩) := by simp only [denS]
@[simp] theorem denS_tryx (b : MS) (hs : MHs) : denS C (.tryx b hs) env = tryT (fun e => denH C hs e env) (denS C b env) := by simp only [denS]
@[simp] theorem tryT_ret {h : Ex → Option (T α)} (a : α) : tryT h (T.ret a) = T.ret a := nr rfl
@[simp] theorem tryT_stuck {h : Ex → Option (T α)} : tryT h (T.stuck : T α) = T.stuck := nr rfl
theorem tryT_exc {h : Ex → Option (T α)} (e : Ex) : tryT h (T.exc e) = match h e with
    | some t => t
    | none => T.exc e := nr rfl
theorem tryT_some {h : Ex → Option (T α)} {e : Ex} {t : T α} (q : h e = some t) : tryT h (T.exc e) = t := by rw [tryT_exc, q]
@[simp] theorem denH_nil (e : Ex) : denH C .nil e env = none := by simp only [denH]
@[simp] theorem denH_cons (c i : Nat) (s : MSs) (r : MHs) (e : Ex) : denH C (.cons c i s r) e env = if subX e.c c = true then some (nox (denSs C s (env.set i (.v (.exc e.c e.fs)))) >>= unx i) else denH C r e env := by simp only [denH]
@[simp] theorem unx_d (i : Nat) (x : PyData) (env : Ev) : unx i (.rt (.d x), env) = T.ret (.rt (.d x), (env.map Slot.nx).set i .un) := nr rfl
@[simp] theorem unx_nx (i : Nat) (env : Ev) : unx i (.nx, env) = T.ret (.nx, (env.map Slot.nx).set i .un) := nr rfl
@[simp] theorem nx_d (x : PyData) : Slot.nx (.v (.d x)) = .v (.d x) := nr rfl
@[simp] theorem nx_rng : Slot.nx (.v .rng) = .v .rng := nr rfl
@[simp] theorem nx_un : Slot.nx .un = .un := nr rfl
@[simp] theorem nx_own (xs : List PyData) : Slot.nx (.own xs) = .own xs := nr rfl
@[simp] theorem nx_exc (c : Nat) (fs : List (Str × PyData)) : Slot.nx (.v (.exc c fs)) = .un := nr rfl
@[simp] theorem isTy_dict (kvs : List (PyData × PyData)) (t : Ty) : isTy (.dict kvs) t = decide (t = .dict) := by cases t <;> rfl
@[simp] theorem isNoneD_dict (kvs : List (PyData × PyData)) : isNoneD (.dict kvs) = false := nr rfl
end
end Mp
namespace Mp
open PySem
open Mp.T (ret_bind)
mutual
/-- what the law compares with itself: dicts are empty, and in no list -/
def eqOk : PyData → Bool
  | .none => true
  | .bool _ => true
  | .int _ => true
  | .str s => PyData.strOk s
  | .tuple xs => eqOks xs
  | .list xs => PyData.canLayAll0 xs
  | .dict [] => true
  | .dict (_ :: _) => false
def eqOks : List PyData → Bool
  | [] => true
  | x :: xs => eqOk x && eqOks xs
end
mutual
theorem eqOk_canLay : ∀ d : PyData, d.canLay0 = true → eqOk d = true
  | .none, _ => rfl
  | .bool _, _ => rfl
  | .int _, _ => rfl
  | .str s, h => by simpa only [PyData.canLay0, eqOk] using h
  | .tuple xs, h => by
    simp only [PyData.canLay0, eqOk] at h ⊢
    exact eqOks_canLay xs h
  | .list xs, h => by simpa only [PyData.canLay0, eqOk] using h
  | .dict _, h => by simp [PyData.canLay0] at h
theorem eqOks_canLay : ∀ ds : List PyData, PyData.canLayAll0 ds = true → eqOks ds = true
  | [], _ => rfl
  | x :: xs, h => by
    simp only [PyData.canLayAll0, Bool.and_eq_true] at h
    simp only [eqOks, Bool.and_eq_true]
    exact ⟨eqOk_canLay x h.1, eqOks_canLay xs h.2⟩
end
/-- one of any values -/
theorem law_one_any {xs : List PyData} (h : xs ≠ []) (hl : xs.length ≤ 1000000) (l : Bool) (n : Nat) : W (fun v => ∃ x ∈ xs, v = .d x) (callF tb noSub (n+1) i_law_one [.rng, .d (seqOf l xs)]) := by
  have hp := List.length_pos_iff.mpr h
  have hlen : o1 .len (seqOf l xs) = T.ret (.int xs.length) := by cases l <;> rfl
  rw [call_law_one]
  refine wQ fun J hJ => ?_
  simp [B_law_one, hlen]
  refine wN (by omega) (wD (by omega) fun k h1 => ?_)
  have hk : k < xs.length := by omega
  rw [seqAt_ok (x := xs[k]) (by simp [hk])]
  exact wR (hJ _ ⟨_, List.getElem_mem hk, rfl⟩)
end Mp
namespace Mp
open PySem
open Mp.T (ret_bind)
mutual
/-- short texts, empty dicts, ints of at most forty digits -/
def briefX : PyData → Bool
  | .none => true
  | .bool _ => true
  | .int i => decide (i.natAbs < 10 ^ 40)
  | .tuple xs => briefXs xs
  | .list xs => briefXs xs
  | .str s => (PyData.str s).showable && (PyData.str s).leavesShort 41 && (PyData.str s).shown.cps.toList.all fun c => decide (c < 128)
  | .dict [] => true
  | .dict (_ :: _) => false
def briefXs : List PyData → Bool
  | [] => true
  | x :: xs => briefX x && briefXs xs
end
theorem briefXs_all {xs : List PyData} : briefXs xs = true ↔ ∀ x ∈ xs, briefX x = true := by
  induction xs with
  | nil => simp [briefXs]
  | cons x xs ih => simp [briefXs, ih]
mutual
theorem briefX_showable : ∀ d : PyData, briefX d = true → d.showable = true
  | .none, _ => by simp only [PyData.showable]
  | .bool _, _ => by simp only [PyData.showable]
  | .int i, h => by
    simp only [briefX, decide_eq_true_eq] at h
    simp only [PyData.showable, decide_eq_true_eq]
    by_cases e : i.natAbs = 0
    · rw [e]
      decide
    · rw [Nat.log2_lt e]
      exact Nat.lt_of_lt_of_le h (by decide +kernel)
  | .tuple xs, h => by
    simp only [briefX] at h
    simp only [PyData.showable]
    exact briefXs_showable xs h
  | .list xs, h => by
    simp only [briefX] at h
    simp only [PyData.showable]
    exact briefXs_showable xs h
  | .str s, h => by
    simp only [briefX, Bool.and_eq_true] at h
    exact h.1.1
  | .dict [], _ => by simp only [PyData.showable, PyData.showableKv]
  | .dict (_ :: _), h => by simp [briefX] at h
theorem briefXs_showable : ∀ ds : List PyData, briefXs ds = true → PyData.showableAll ds = true
  | [], _ => by simp only [PyData.showableAll]
  | x :: xs, h => by
    simp only [briefXs, Bool.and_eq_true] at h
    simp only [PyData.showableAll, Bool.and_eq_true]
    exact ⟨briefX_showable x h.1, briefXs_showable xs h.2⟩
end
mutual
theorem briefX_leaves : ∀ d : PyData, briefX d = true → d.leavesShort 41 = true
  | .none, _ => by simp only [PyData.leavesShort]
  | .bool _, _ => by simp only [PyData.leavesShort]
  | .int i, h => by
    simp only [briefX, decide_eq_true_eq] at h
    simp only [PyData.leavesShort, decide_eq_true_eq]
    have e := int_text_length_le10 (k := 40) (by decide) h
    have e2 : (PyData.shown (.int i)).length = (toString i).length := by
      simp only [PyData.shown]
      exact ofString_length _
    omega
  | .tuple xs, h => by
    simp only [briefX] at h
    simp only [PyData.leavesShort]
    exact briefXs_leaves xs h
  | .list xs, h => by
    simp only [briefX] at h
    simp only [PyData.leavesShort]
    exact briefXs_leaves xs h
  | .str s, h => by
    simp only [briefX, Bool.and_eq_true] at h
    exact h.1.2
  | .dict [], _ => by simp only [PyData.leavesShort, PyData.leavesShortKv]
  | .dict (_ :: _), h => by simp [briefX] at h
theorem briefXs_leaves : ∀ ds : List PyData, briefXs ds = true → PyData.leavesShortAll 41 ds = true
  | [], _ => by simp only [PyData.leavesShortAll]
  | x :: xs, h => by
    simp only [briefXs, Bool.and_eq_true] at h
    simp only [PyData.leavesShortAll, Bool.and_eq_true]
    exact ⟨briefX_leaves x h.1, briefXs_leaves xs h.2⟩
end
open PyProof.Rows in
mutual
theorem briefX_low : ∀ d : PyData, briefX d = true → ∀ c ∈ d.shown.cps.toList, c < 128
  | .none, _, c, hc => by
    rw [mem_shown_none] at hc
    simp at hc
    omega
  | .bool b, _, c, hc => by
    rw [mem_shown_bool] at hc
    cases b
    · simp at hc
      omega
    · simp at hc
      omega
  | .int i, _, c, hc => by
    rcases Nat.lt_or_ge c 128 with h | h
    · exact h
    · exact absurd hc (shown_int_free' ⟨by omega, by omega⟩ i)
  | .tuple xs, h, c, hc => by
    simp only [briefX] at h
    simp only [PyData.shown, tupleText, mem_cps_append, mem_join, signs_lparen, signs_sep] at hc
    rcases hc with (hc | ⟨t, ht, hc⟩ | ⟨_, hc⟩) | hc
    · simp at hc; omega
    · exact briefXs_low xs h t ht c hc
    · simp at hc; omega
    · split at hc
      · have e : ((",)" : String) : Str).cps.toList = [44, 41] := by decide
        rw [e] at hc
        simp at hc; omega
      · have e : ((")" : String) : Str).cps.toList = [41] := by decide
        rw [e] at hc
        simp at hc; omega
  | .list xs, h, c, hc => by
    simp only [briefX] at h
    have e : PyData.shown (.list xs) = listText (PyData.shownAll xs) := by simp only [PyData.shown]
    rw [e, listText_eq_join] at hc
    simp only [mem_cps_append, mem_join, signs_lbrack, signs_rbrack, signs_sep] at hc
    rcases hc with (hc | ⟨t, ht, hc⟩ | ⟨_, hc⟩) | hc
    · simp at hc; omega
    · exact briefXs_low xs h t ht c hc
    · simp at hc; omega
    · simp at hc; omega
  | .str s, h, c, hc => by
    simp only [briefX, Bool.and_eq_true, List.all_eq_true, decide_eq_true_eq] at h
    exact h.2 c hc
  | .dict [], _, c, hc => by
    have e : (PyData.shown (.dict [])).cps.toList = [123, 125] := by decide
    rw [e] at hc
    simp at hc
    omega
  | .dict (_ :: _), h, _, _ => by simp [briefX] at h
theorem briefXs_low : ∀ ds : List PyData, briefXs ds = true → ∀ t ∈ PyData.shownAll ds, ∀ c ∈ t.cps.toList, c < 128
  | [], _, t, ht => by simp [PyData.shownAll] at ht
  | x :: xs, h, t, ht => by
    simp only [briefXs, Bool.and_eq_true] at h
    simp only [PyData.shownAll, List.mem_cons] at ht
    rcases ht with rfl | ht
    · exact briefX_low x h.1
    · exact briefXs_low xs h.2 t ht
end
theorem reprX_ok {d : PyData} (h : briefX d = true) (hd : d.depth ≤ 64) (hb : d.bulk ≤ 300000) : reprD d = T.ret (.str d.shown) := by
  have h1 := PyData.shown_le_bulk 41 (by decide) d (briefX_leaves d h)
  show (need _ >>= fun _ => T.ret _) = _
  rw [need_pos ⟨briefX_showable d h, hd, by rw [SL_lit]; omega⟩]
  rfl
theorem shownX_ok {d : PyData} (h : briefX d = true) : PyData.strOk d.shown = true := by
  have h1 := briefX_low d h
  unfold PyData.strOk
  rw [Array.all_eq_true_iff_forall_mem]
  intro c hc
  have := h1 c (by simpa using hc)
  simp
  omega
theorem eqD_shownX {d : PyData} (h : briefX d = true) : eqD (.str d.shown) (.str d.shown) = T.ret true :=
  eqD_same (by simpa only [PyData.canLay0] using shownX_ok h) (by simp [PyData.depth])
mutual
theorem briefX_of : ∀ d : PyData, brief d = true → briefX d = true
  | .none, _ => rfl
  | .bool _, _ => rfl
  | .int i, h => by simpa only [brief, briefX] using h
  | .tuple xs, h => by
    simp only [brief, briefX] at h ⊢
    exact briefXs_of xs h
  | .list xs, h => by
    simp only [brief, briefX] at h ⊢
    exact briefXs_of xs h
  | .str _, h => by simp [brief] at h
  | .dict _, h => by simp [brief] at h
theorem briefXs_of : ∀ ds : List PyData, briefs ds = true → briefXs ds = true
  | [], _ => rfl
  | x :: xs, h => by
    simp only [briefs, Bool.and_eq_true] at h
    simp only [briefXs, Bool.and_eq_true]
    exact ⟨briefX_of x h.1, briefXs_of xs h.2⟩
end
end Mp
namespace Mp
open PySem
open Mp.T (ret_bind exc_bind)
end Mp
namespace Mp
open PySem
open Mp.T (ret_bind exc_bind)
end Mp
namespace Mp
open PySem
open Mp.T (ret_bind)
mutual
/-- short texts, empty dicts, ints up to a bound -/
def bnd (B : Nat) : PyData → Bool
  | .none => true
  | .bool _ => true
  | .int i => decide (i.natAbs ≤ B)
  | .tuple xs => bnds B xs
  | .list xs => bnds B xs
  | .str s => briefX (.str s)
  | .dict [] => true
  | .dict (_ :: _) => false
def bnds (B : Nat) : List PyData → Bool
  | [] => true
  | x :: xs => bnd B x && bnds B xs
end
theorem bnds_all {B : Nat} {xs : List PyData} : bnds B xs = true ↔ ∀ x ∈ xs, bnd B x = true := by
  induction xs with
  | nil => simp [bnds]
  | cons x xs ih => simp [bnds, ih]
mutual
theorem bnd_mono {B B' : Nat} (h : B ≤ B') : ∀ d : PyData, bnd B d = true → bnd B' d = true
  | .none, _ => rfl
  | .bool _, _ => rfl
  | .int i, hb => by
    simp only [bnd, decide_eq_true_eq] at hb ⊢
    omega
  | .tuple xs, hb => by
    simp only [bnd] at hb ⊢
    exact bnds_mono h xs hb
  | .list xs, hb => by
    simp only [bnd] at hb ⊢
    exact bnds_mono h xs hb
  | .str s, hb => by
    simp only [bnd] at hb ⊢
    exact hb
  | .dict [], _ => rfl
  | .dict (_ :: _), hb => by simp [bnd] at hb
theorem bnds_mono {B B' : Nat} (h : B ≤ B') : ∀ ds : List PyData, bnds B ds = true → bnds B' ds = true
  | [], _ => rfl
  | x :: xs, hb => by
    simp only [bnds, Bool.and_eq_true] at hb ⊢
    exact ⟨bnd_mono h x hb.1, bnds_mono h xs hb.2⟩
end
mutual
theorem bnd_brief {B : Nat} (h : B < 10 ^ 40) : ∀ d : PyData, bnd B d = true → briefX d = true
  | .none, _ => rfl
  | .bool _, _ => rfl
  | .int i, hb => by
    simp only [bnd, briefX, decide_eq_true_eq] at hb ⊢
    omega
  | .tuple xs, hb => by
    simp only [bnd, briefX] at hb ⊢
    exact bnds_brief h xs hb
  | .list xs, hb => by
    simp only [bnd, briefX] at hb ⊢
    exact bnds_brief h xs hb
  | .str s, hb => by
    simp only [bnd] at hb
    exact hb
  | .dict [], _ => rfl
  | .dict (_ :: _), hb => by simp [bnd] at hb
theorem bnds_brief {B : Nat} (h : B < 10 ^ 40) : ∀ ds : List PyData, bnds B ds = true → briefXs ds = true
  | [], _ => rfl
  | x :: xs, hb => by
    simp only [bnds, Bool.and_eq_true] at hb
    simp only [briefXs, Bool.and_eq_true]
    exact ⟨bnd_brief h x hb.1, bnds_brief h xs hb.2⟩
end
/-- a value within bounds -/
def Vb (B d b : Nat) (v : PyData) : Prop := bnd B v = true ∧ v.depth ≤ d ∧ v.bulk ≤ b
theorem Vb.mono {B d b B' d' b' : Nat} {v : PyData} (h : Vb B d b v) (h1 : B ≤ B') (h2 : d ≤ d') (h3 : b ≤ b') : Vb B' d' b' v :=
  ⟨bnd_mono h1 v h.1, Nat.le_trans h.2.1 h2, Nat.le_trans h.2.2 h3⟩
theorem bulkAll_append (xs ys : List PyData) : PyData.bulkAll (xs ++ ys) = PyData.bulkAll xs + PyData.bulkAll ys := by
  induction xs with
  | nil => simp [PyData.bulkAll]
  | cons x xs ih => simp [PyData.bulkAll, ih]; omega
theorem bulkAll_cut (xs : List PyData) (n : Nat) : PyData.bulkAll xs = PyData.bulkAll (xs.take n) + PyData.bulkAll (xs.drop n) := by
  rw [← bulkAll_append, List.take_append_drop]
theorem Vb.tup {B d b : Nat} {xs : List PyData} : Vb B (d + 1) b (.tuple xs) ↔ (∀ x ∈ xs, bnd B x = true) ∧ (∀ x ∈ xs, x.depth ≤ d) ∧ PyData.bulkAll xs ≤ b := by
  unfold Vb
  simp only [bnd, bnds_all, PyData.depth, PyData.bulk]
  constructor
  · rintro ⟨h1, h2, h3⟩
    exact ⟨h1, fun x hx => by have := depth_mem hx; omega, h3⟩
  · rintro ⟨h1, h2, h3⟩
    have := depthAll_le h2
    exact ⟨h1, by omega, h3⟩
theorem Vb.lst {B d b : Nat} {xs : List PyData} : Vb B (d + 1) b (.list xs) ↔ (∀ x ∈ xs, bnd B x = true) ∧ (∀ x ∈ xs, x.depth ≤ d) ∧ PyData.bulkAll xs ≤ b := by
  unfold Vb
  simp only [bnd, bnds_all, PyData.depth, PyData.bulk]
  constructor
  · rintro ⟨h1, h2, h3⟩
    exact ⟨h1, fun x hx => by have := depth_mem hx; omega, h3⟩
  · rintro ⟨h1, h2, h3⟩
    have := depthAll_le h2
    exact ⟨h1, by omega, h3⟩
/-- some of the items of a tuple -/
theorem Vb.sub {B d b b' : Nat} {xs ys : List PyData} (h : Vb B (d + 1) b (.tuple xs)) (hs : ∀ y ∈ ys, y ∈ xs) (hb : PyData.bulkAll ys ≤ b') : Vb B (d + 1) b' (.tuple ys) ∧ Vb B (d + 1) b' (.list ys) := by
  have h := Vb.tup.mp h
  exact ⟨Vb.tup.mpr ⟨fun y hy => h.1 y (hs y hy), fun y hy => h.2.1 y (hs y hy), hb⟩, Vb.lst.mpr ⟨fun y hy => h.1 y (hs y hy), fun y hy => h.2.1 y (hs y hy), hb⟩⟩
theorem take_mem {xs : List PyData} {n : Nat} {y : PyData} (h : y ∈ xs.take n) : y ∈ xs := List.mem_of_mem_take h
theorem drop_mem {xs : List PyData} {n : Nat} {y : PyData} (h : y ∈ xs.drop n) : y ∈ xs := List.mem_of_mem_drop h
/-- a place of a tuple replaced -/
theorem Vb.swap {B d b d' b' c : Nat} {xs : List PyData} {k : Nat} {w : PyData} (h : Vb B (d + 1) b (.tuple xs)) (hk : k < xs.length) (hw : Vb B d' b' w) (hd : d ≤ d') (hc : b + b' ≤ c + (xs[k]'hk).bulk) : Vb B (d' + 1) c (.tuple (xs.take k ++ w :: xs.drop (k + 1))) := by
  have h := Vb.tup.mp h
  refine Vb.tup.mpr ⟨fun y hy => ?_, fun y hy => ?_, ?_⟩
  · simp only [List.mem_append, List.mem_cons] at hy
    rcases hy with hy | rfl | hy
    · exact h.1 y (take_mem hy)
    · exact hw.1
    · exact h.1 y (drop_mem hy)
  · simp only [List.mem_append, List.mem_cons] at hy
    rcases hy with hy | rfl | hy
    · exact Nat.le_trans (h.2.1 y (take_mem hy)) hd
    · exact hw.2.1
    · exact Nat.le_trans (h.2.1 y (drop_mem hy)) hd
  · have e1 := bulkAll_cut xs k
    have e2 := bulkAll_cut (xs.drop k) 1
    rw [List.drop_drop, List.drop_eq_getElem_cons hk, List.take_succ_cons, List.take_zero] at e2
    rw [List.drop_eq_getElem_cons hk] at e1
    simp only [PyData.bulkAll] at e1 e2
    have := hw.2.2
    have := h.2.2
    simp only [bulkAll_append, PyData.bulkAll]
    omega
end Mp
namespace Mp
open PySem
open Mp.T (ret_bind)
theorem Ord.mem {m : Nat} {o : List Nat} (h : Ord m o) {i : Nat} (hi : i < m) : (i : Int) ∈ natD o := natD_mem.mpr ⟨i, h.mem_iff.mpr (List.mem_range.mpr hi), rfl⟩
end Mp
namespace Mp
open PySem
open Mp.T (ret_bind)
def steps (t : List (List Int)) (p : List Nat) : List Int := (p.zip p.tail).map fun q => lv t q.1 q.2
def Low (t : List (List Int)) (l : Int) (p : List Nat) : Prop := ∀ q ∈ p.zip p.tail, lv t q.1 q.2 ≤ l
theorem Low.cons {t : List (List Int)} {l : Int} {a b : Nat} {r : List Nat} : Low t l (a :: b :: r) ↔ lv t a b ≤ l ∧ Low t l (b :: r) := by
  unfold Low
  simp
theorem Low.snoc {t : List (List Int)} {l : Int} {b : Nat} : ∀ {p : List Nat} {a : Nat}, p.getLast? = some a → (Low t l (p ++ [b]) ↔ Low t l p ∧ lv t a b ≤ l)
  | [], a, h => by simp at h
  | [c], a, h => by
    simp at h
    subst h
    simp [Low]
  | c :: d :: r, a, h => by
    have ih := Low.snoc (t := t) (l := l) (b := b) (p := d :: r) (a := a) (by rw [List.getLast?_cons_cons] at h; exact h)
    rw [List.cons_append] at ih
    rw [List.cons_append, List.cons_append, Low.cons, Low.cons, ih, and_assoc]
/-- a simple way that begins at i -/
structure Way (m i : Nat) (p : List Nat) : Prop where
  nd : p.Nodup
  lt : ∀ x ∈ p, x < m
  hd : p.head? = some i
theorem Way.len {m i : Nat} {p : List Nat} (h : Way m i p) : p.length ≤ m := by
  have := h.nd.length_le_of_subset (l₂ := List.range m) fun x hx => List.mem_range.mpr (h.lt x hx)
  simpa using this
def exts (m : Nat) (p : List Nat) : List (List Nat) := ((List.range m).filter fun x => !decide (x ∈ p)).map fun x => p ++ [x]
theorem Way.ext {m i x : Nat} {p : List Nat} (h : Way m i p) (hx : x < m) (hn : x ∉ p) : Way m i (p ++ [x]) := by
  refine ⟨?_, fun y hy => ?_, ?_⟩
  · rw [List.nodup_append]
    exact ⟨h.nd, by simp, fun a ha b hb e => by simp at hb; subst hb e; exact hn ha⟩
  · simp at hy
    rcases hy with hy | rfl
    · exact h.lt y hy
    · exact hx
  · have := h.hd
    cases p with
    | nil => simp at this
    | cons c u => simpa using this
/-- the stack and what is found -/
structure Srch (m i j : Nat) (rs fs : List (List Nat)) : Prop where
  r : ∀ p ∈ rs, Way m i p
  f : ∀ p ∈ fs, Way m i p ∧ p.getLast? = some j
  all : ∀ q, Way m i q → q.getLast? = some j → q ∈ fs ∨ ∃ p ∈ rs, p <+: q
theorem Srch.hit {m i j : Nat} {rs fs : List (List Nat)} {p : List Nat} (h : Srch m i j (rs ++ [p]) fs) (hp : p.getLast? = some j) : Srch m i j rs (fs ++ [p]) := by
  refine ⟨fun q hq => h.r q (List.mem_append_left _ hq), fun q hq => ?_, fun q w hq => ?_⟩
  · rcases List.mem_append.mp hq with hq | hq
    · exact h.f q hq
    · simp at hq
      subst hq
      exact ⟨h.r q (by simp), hp⟩
  · rcases h.all q w hq with h1 | ⟨u, hu, s, rfl⟩
    · exact .inl (List.mem_append_left _ h1)
    · rcases List.mem_append.mp hu with hu | hu
      · exact .inr ⟨u, hu, s, rfl⟩
      · simp at hu
        subst hu
        cases s with
        | nil => exact .inl (by simp)
        | cons a s =>
          exfalso
          have h1 : j ∈ u := List.mem_of_getLast? hp
          have h2 : j ∈ a :: s := by
            rw [List.getLast?_append] at hq
            have e : (a :: s).getLast? = some ((a :: s).getLast (by simp)) := List.getLast?_eq_some_getLast (by simp)
            rw [e] at hq
            cases hq
            exact List.getLast_mem _
          have h3 := (List.nodup_append.mp w.nd).2.2 j h1 j h2
          exact h3 rfl
theorem Srch.go {m i j : Nat} {rs fs : List (List Nat)} {p : List Nat} (h : Srch m i j (rs ++ [p]) fs) (hp : p.getLast? ≠ some j) : Srch m i j (rs ++ exts m p) fs := by
  have hw := h.r p (by simp)
  refine ⟨fun q hq => ?_, h.f, fun q w hq => ?_⟩
  · rcases List.mem_append.mp hq with hq | hq
    · exact h.r q (List.mem_append_left _ hq)
    · obtain ⟨x, hx, rfl⟩ := List.mem_map.mp hq
      rw [List.mem_filter] at hx
      exact hw.ext (List.mem_range.mp hx.1) (by simpa using hx.2)
  · rcases h.all q w hq with h1 | ⟨u, hu, s, rfl⟩
    · exact .inl h1
    · rcases List.mem_append.mp hu with hu | hu
      · exact .inr ⟨u, List.mem_append_left _ hu, s, rfl⟩
      · simp at hu
        subst hu
        cases s with
        | nil =>
          rw [List.append_nil] at hq
          exact absurd hq hp
        | cons a s =>
          refine .inr ⟨u ++ [a], List.mem_append_right _ (List.mem_map.mpr ⟨a, ?_, rfl⟩), s, by simp⟩
          rw [List.mem_filter, List.mem_range]
          refine ⟨w.lt a (by simp), ?_⟩
          have h3 := (List.nodup_append.mp w.nd).2.2
          simp
          intro hm
          exact h3 a hm a (by simp) rfl
end Mp
namespace Mp
open PySem
end Mp
namespace Mp
open PySem
open Mp.T (ret_bind)
end Mp
namespace Mp
open PySem
open Mp.T (ret_bind)
/-- the items to which lower steps lead -/
def dvs (t : List (List Int)) (i : Nat) (l : Int) : List Nat := (List.range t.length).filter fun x => decide (jn t i x < l)
theorem dvs_mem {t : List (List Int)} {i x : Nat} {l : Int} : x ∈ dvs t i l ↔ x < t.length ∧ jn t i x < l := by simp [dvs]
theorem dvs_sorted (t : List (List Int)) (i : Nat) (l : Int) : (dvs t i l).Pairwise (· < ·) := (range_sorted _).sublist List.filter_sublist
/-- found so far: the first k are done -/
structure Rch (t : List (List Int)) (i : Nat) (l : Int) (fs : List Nat) (k : Nat) : Prop where
  nd : fs.Nodup
  low : ∀ x ∈ fs, x < t.length ∧ jn t i x < l
  st : i ∈ fs
  kl : k ≤ fs.length
  clo : ∀ a ∈ fs.take k, ∀ b, b < t.length → lv t a b < l → b ∈ fs
theorem Rch.len {t : List (List Int)} {i : Nat} {l : Int} {fs : List Nat} {k : Nat} (h : Rch t i l fs k) : fs.length ≤ t.length := by
  have := h.nd.length_le_of_subset (l₂ := List.range t.length) fun x hx => List.mem_range.mpr (h.low x hx).1
  simpa using this
theorem Rch.done {t : List (List Int)} {i : Nat} {l : Int} {fs : List Nat} (hi : i < t.length) (h : Rch t i l fs fs.length) : sortI (natD fs) = natD (dvs t i l) := by
  have hnd : (natD fs).Nodup := by
    unfold natD
    unfold List.Nodup
    rw [List.pairwise_map]
    exact h.nd.imp fun h e => h (by omega)
  refine sorted_ext (sortI_strict hnd) (natD_sorted (dvs_sorted t i l)) fun x => ?_
  rw [sortI_mem, natD_mem, natD_mem]
  constructor
  · rintro ⟨j, hj, rfl⟩
    exact ⟨j, dvs_mem.mpr (h.low j hj), rfl⟩
  · rintro ⟨j, hj, rfl⟩
    have hj := dvs_mem.mp hj
    refine ⟨j, ?_, rfl⟩
    refine closed_fw (t := t) (l := l - 1) (P := fun b => b ∈ fs) (fun a b ha hb pa hab => ?_) t.length (Nat.le_refl _) i j hi hj.1 h.st (by have := hj.2; unfold jn at this; omega)
    exact h.clo a (by simpa using pa) b hb (by omega)
end Mp
namespace Mp
open PySem
open Mp.T (ret_bind)
end Mp
namespace Mp
open PySem
open Mp.T (ret_bind exc_bind)
theorem law_alone_7 (fs : List (Str × PyData)) (n : Nat) : callF tb noSub (n+1) i_law_alone [.exc 7 fs] = T.ret (.d (.bool true)) := by
  rw [call_law_alone]
  simp [B_law_alone, subX]
  have h := countD_bs (p := true) [true, false, false, false]
  simp only [List.map_cons, List.map_nil] at h
  rw [h, ret_bind]
  simp
/-- what a call tells -/
def told (r : List (List Int)) : Option Nat → PyData
  | none => tabD r
  | some k => .list [.int (k : Int)]
end Mp
namespace Mp
open PySem
open Mp.T (ret_bind exc_bind)
theorem law_row_of {f : Int → Int → Int} {t u : List (List Int)} (i : Nat) : zipD ((rowI t i).map PyData.int) ((rowI u i).map .int) = (List.range i).map fun j => .tuple [.int (lv t i j), .int (lv u i j)] := by
  have e3 : ∀ v : List (List Int), (rowI v i).map PyData.int = (List.range i).map fun j => .int (lv v i j) := fun v => by rw [rowI, List.map_map]; rfl
  rw [e3, e3, zipD_of]
theorem zip_rows {t u : List (List Int)} (ht : IsTab t) (hu : IsTab u) (hl : u.length = t.length) : zipD (t.map tupI) (u.map tupI) = (List.range t.length).map fun i => .tuple [tupI (rowI t i), tupI (rowI u i)] := by
  rw [tabD_rows ht.tri, tabD_rows hu.tri, hl, zipD_of]
/-- no level of the first table is greater -/
def below (t u : List (List Int)) : Bool := decide (∀ i, i < t.length → ∀ j, j < i → lv t i j ≤ lv u i j)
theorem law_below_eq {t u : List (List Int)} (ht : IsTab t) (hu : IsTab u) (hl : u.length = t.length) (n : Nat) : callF tb noSub (n+1) i_law_below [.d (tabD t), .d (tabD u)] = T.ret (.d (.bool (below t u))) := by
  refine det (by rfl) ?_
  rw [call_law_below]
  refine wQ fun J hJ => ?_
  have e4 : tabD t = .tuple (t.map tupI) := rfl
  have e5 : tabD u = .tuple (u.map tupI) := rfl
  rw [e4, e5]
  simp [B_law_below, zip_rows ht hu hl]
  refine W_find (fun env => ∃ s2 s3 s4 s5, env = [.v (.d (.tuple (t.map tupI))), .v (.d (.tuple (u.map tupI))), s2, s3, s4, s5]) (fun i : Nat => PyData.tuple [tupI (rowI t i), tupI (rowI u i)]) (fun i => if ∀ j, j < i → lv t i j ≤ lv u i j then none else some ()) (fun q => .d (.bool false)) ⟨_, _, _, _, rfl⟩ ?_ ?_ ?_
  · rintro i hi env ⟨s2, s3, s4, s5, rfl⟩ J' R hJ' hR
    simp [tupI, law_row_of (f := max)]
    rw [filT_map_p, filT_if (c := fun j => decide (lv u i j < lv t i j)) (v := fun j => PyData.int (lv t i j))]
    · simp only [ret_bind, asD_d, o2_ne, eqD_nil_l]
      by_cases hb : ∀ j, j < i → lv t i j ≤ lv u i j
      · have e : ((List.range i).filter fun j => decide (lv u i j < lv t i j)) = [] := by
          rw [List.filter_eq_nil_iff]
          intro j hj
          have := hb j (List.mem_range.mp hj)
          simp
          omega
        rw [e]
        simp
        exact hJ' (by rw [if_pos hb]) _ ⟨_, _, _, _, rfl⟩
      · have e : (((List.range i).filter fun j => decide (lv u i j < lv t i j)).map fun j => PyData.int (lv t i j)).isEmpty = false := by
          cases hz : ((List.range i).filter fun j => decide (lv u i j < lv t i j)) with
          | cons a as => rfl
          | nil =>
            exact (hb fun j hj => by
              have := List.filter_eq_nil_iff.mp hz j (List.mem_range.mpr hj)
              simp at this
              omega).elim
        rw [e]
        simp
        exact hR () _ (by rw [if_neg hb]) ⟨_, _, _, _, rfl⟩
    · intro j hj
      simp
      split <;> rfl
  · rintro hn e ⟨s2, s3, s4, s5, rfl⟩
    simp
    apply hJ
    rw [List.findSome?_eq_none_iff] at hn
    have : below t u = true := decide_eq_true fun i hi => by
      have := hn i (List.mem_range.mpr hi)
      by_cases hb : ∀ j, j < i → lv t i j ≤ lv u i j
      · exact hb
      · rw [if_neg hb] at this
        cases this
    rw [this]
  · rintro d hd e ⟨s2, s3, s4, s5, rfl⟩
    simp
    apply hJ
    obtain ⟨i, hi, h⟩ := List.exists_of_findSome?_eq_some hd
    have : below t u = false := decide_eq_false fun hb => by
      rw [if_pos (hb i (List.mem_range.mp hi))] at h
      cases h
    rw [this]
end Mp
namespace Mp
open PySem
open Mp.T (ret_bind exc_bind)
theorem tabs_brief {ts : List (List (List Int))} (h : ∀ t ∈ ts, IsTab t) (hl : ts.length ≤ 4) : briefX (.list (ts.map tabD)) = true ∧ (PyData.list (ts.map tabD)).depth ≤ 3 ∧ (PyData.list (ts.map tabD)).bulk ≤ 700 := by
  refine ⟨?_, ?_, ?_⟩
  · simp only [briefX]
    rw [briefXs_all]
    intro x hx
    obtain ⟨t, ht, rfl⟩ := List.mem_map.mp hx
    exact briefX_of _ (tab_brief (h t ht))
  · simp only [PyData.depth]
    have := depthAll_le (xs := ts.map tabD) (d := 2) fun x hx => by
      obtain ⟨t, ht, rfl⟩ := List.mem_map.mp hx
      exact tab_depth t
    omega
  · simp only [PyData.bulk]
    have := bulkAll_le (xs := ts.map tabD) (d := 156) fun x hx => by
      obtain ⟨t, ht, rfl⟩ := List.mem_map.mp hx
      exact tab_bulk (h t ht)
    simp only [List.length_map] at this
    omega
end Mp
namespace Mp
open PySem
open Mp.T (ret_bind exc_bind)
def growR (t : List (List Int)) (i : Nat) (v : Int) : List Int := (List.range t.length).map fun k => max v (lv t i k)
def grow (t : List (List Int)) (i : Nat) (v : Int) : List (List Int) := t ++ [growR t i v]
end Mp
namespace Mp
open PySem
open Mp.T (ret_bind)
/-- different items of t -/
structure Sel (t : List (List Int)) (o : List Nat) : Prop where
  lt : ∀ a ∈ o, a < t.length
  nd : o.Nodup
theorem Sel.inj {t : List (List Int)} {o : List Nat} (h : Sel t o) {i j : Nat} (hi : i < o.length) (hj : j < o.length) (e : o.getD i 0 = o.getD j 0) : i = j := by
  have e1 : o[i]? = some (o.getD i 0) := by simp [List.getD, hi]
  have e2 : o[j]? = some (o.getD j 0) := by simp [List.getD, hj]
  rw [e] at e1
  exact (List.getElem?_inj (l := o) (i := i) (j := j) hi h.nd).mp (e1.trans e2.symm)
@[simp] theorem enumK_seqOf (l : Bool) (xs : List PyData) : enumK (seqOf l xs) = T.ret xs := by cases l <;> rfl
@[simp] theorem slice_seqOf (l : Bool) (lo hi : Option Int) (xs : List PyData) : sliceD lo hi (seqOf l xs) = T.ret (seqOf l (cut xs lo hi)) := by cases l <;> rfl
@[simp] theorem asSeq_seqOf (l : Bool) (xs : List PyData) : asSeq (seqOf l xs) = T.ret xs := by cases l <;> rfl
theorem take_range' {o : List Nat} {i : Nat} (hi : i ≤ o.length) : (natD o).take i = (List.range i).map fun j => ((o.getD j 0 : Nat) : Int) := by
  refine List.ext_getElem? fun j => ?_
  rw [List.getElem?_take]
  simp only [natD, List.getElem?_map]
  rcases Nat.lt_or_ge j i with h | h
  · rw [if_pos h, List.getElem?_range h, List.getElem?_eq_getElem (by omega)]
    simp [List.getD, show j < o.length by omega]
  · rw [if_neg (by omega), List.getElem?_eq_none (by simpa using h)]
    rfl
end Mp
namespace Mp
open PySem
open Mp.T (ret_bind)
end Mp
namespace Mp
open PySem
open Mp.T (ret_bind)
end Mp
namespace Mp
open PySem
open Mp.T (ret_bind exc_bind)
theorem tupI_inj {a b : List Int} : tupI a = tupI b ↔ a = b := by
  unfold tupI
  rw [PyData.tuple.injEq, ints_inj]
theorem tabD_inj : ∀ {a b : List (List Int)}, a.map tupI = b.map tupI ↔ a = b
  | [], [] => by simp
  | [], b :: bs => by simp
  | a :: as, [] => by simp
  | a :: as, b :: bs => by
    simp only [List.map_cons, List.cons.injEq, tupI_inj, tabD_inj]
theorem plain_tab (t : List (List Int)) : plainD (tabD t) = true := by
  unfold tabD
  simp only [plainD]
  induction t with
  | nil => rfl
  | cons r t ih =>
    simp only [List.map_cons, plainDs, tupI, plainD, plainDs_ints, Bool.true_and]
    exact ih
theorem eqD_tabD (a b : List (List Int)) : eqD (tabD a) (tabD b) = T.ret (decide (a = b)) := by
  refine eqD_plain (plain_tab a) (plain_tab b) (Nat.le_trans (tab_depth a) (by omega)) (Nat.le_trans (tab_depth b) (by omega)) ?_
  rw [decide_eq_true_eq]
  unfold tabD
  rw [PyData.tuple.injEq, tabD_inj]
def snoc (t : List (List Int)) (r : List Int) : List (List Int) := t ++ [r]
end Mp
namespace Mp
open PySem
open Mp.T (ret_bind exc_bind)
theorem uneq_two (t u : List (List Int)) : uneq [t, u] = if u.length = t.length then none else some 1 := by
  unfold uneq
  by_cases h : u.length = t.length
  · simp [List.range_succ_eq_map, List.find?, h]
  · simp [List.range_succ_eq_map, List.find?, h]
theorem max_is {t u : List (List Int)} (ht : IsTab t) (hu : IsTab u) (hl : u.length = t.length) : (maxT t u = u) ↔ below t u = true := by
  rw [below, decide_eq_true_eq]
  constructor
  · intro h i hi j hj
    have := lv_maxT (t := t) (u := u) hi (show j < t.length by omega)
    rw [h] at this
    omega
  · intro h
    refine tab_ext (maxT_tab ht hu hl).tri hu.tri (by rw [maxT_len, hl]) fun i j hi hj => ?_
    rw [maxT_len] at hi
    rw [lv_maxT hi (by omega)]
    have := h i hi j hj
    omega
theorem is_below_eq {t u : List (List Int)} (ht : IsTab t) (hu : IsTab u) (n : Nat) : callF tb noSub (n+2) i_is_below [.d (tabD t), .d (tabD u)] = if u.length = t.length then T.ret (.d (.bool (below t u))) else T.exc (badSizes 1) := by
  have h1 := need_equal_sizes_eq (ts := [t, u]) (by simp) (by simp) n
  rw [uneq_two] at h1
  simp only [List.map_cons, List.map_nil] at h1
  rw [call_is_below]
  by_cases hl : u.length = t.length
  · rw [if_pos hl] at h1 ⊢
    have h2 := greater_levels_eq ht hu hl n
    have e : decide (maxT t u = u) = below t u := by
      rw [Bool.eq_iff_iff, decide_eq_true_eq]
      exact max_is ht hu hl
    simp [B_is_below, h1, h2, eqD_tabD, e]
  · rw [if_neg hl] at h1 ⊢
    simp [B_is_below, h1, exc_bind]
/-- what a call of is_below tells -/
def told8 (t u : List (List Int)) : PyData := if u.length = t.length then .bool (below t u) else .list [.int 1]
theorem law_told_8_eq {t u : List (List Int)} (ht : IsTab t) (hu : IsTab u) (n : Nat) : callF tb noSub (n+3) i_law_told_8 [.d (tabD t), .d (tabD u)] = T.ret (.d (told8 t u)) := by
  have h1 := is_below_eq ht hu n
  rw [call_law_told_8]
  by_cases hl : u.length = t.length
  · rw [if_pos hl] at h1
    simp [B_law_told_8, h1, told8, hl]
  · rw [if_neg hl] at h1
    have h3 : ∀ fs, callF tb noSub (n + 2) i_law_alone [.exc 7 fs] = _ := fun fs => law_alone_7 fs (n + 1)
    simp [B_law_told_8, h1, badSizes, tryT_exc, subX, h3, told8, hl]
theorem told8_brief (t u : List (List Int)) : briefX (told8 t u) = true ∧ (told8 t u).depth ≤ 2 ∧ (told8 t u).bulk ≤ 200 := by
  unfold told8
  split
  · exact ⟨rfl, by simp [PyData.depth], by simp [PyData.bulk]⟩
  · exact ⟨by decide +kernel, by simp [PyData.depth, PyData.depthAll], by simp [PyData.bulk, PyData.bulkAll]⟩
theorem triT_one {m : Nat} {g : Nat → Nat → Int} (h : ∀ i j, i < m → j < i → Lev (g i j)) {a b : Nat} {x : Int} (hx : Lev x) : ∀ i j, i < m → j < i → Lev ((fun i j => if i = a ∧ j = b then x else g i j) i j) := fun i j hi hj => by
  dsimp only
  split
  · exact hx
  · exact h i j hi hj
theorem law_moved_2_ok {t : List (List Int)} (ht : IsTab t) {q : Nat} (hq : q < 4) (n : Nat) : W (fun v => ∃ t', v = .d (tabD t') ∧ IsTab t' ∧ t'.length = t.length) (callF tb noSub (n+2) i_law_moved_2 [.rng, .d (tabD t), .d (.int (q : Int))]) := by
  rw [call_law_moved_2]
  refine wQ fun J hJ => ?_
  have hf := ht.few
  have hp := ht.pos
  obtain ⟨c, hc1, hc2, hc3, hc4⟩ : ∃ c : Nat, c < 4 ∧ (0 < c → 1 < t.length) ∧ (q : Int) * bI (decide (1 < (t.length : Int))) = (c : Int) ∧ (small (q : Int) ∨ small (bI (decide (1 < (t.length : Int))))) := by
    by_cases h : 1 < (t.length : Int)
    · refine ⟨q, hq, fun _ => by omega, by simp [h, bI], .inl ?_⟩
      unfold small
      omega
    · refine ⟨0, by omega, fun h => by omega, by simp [h, bI], .inl ?_⟩
      unfold small
      omega
  simp only [B_law_moved_2, denSs_cons, denS_asgO2, denI_seq, denE_var, at_zero, at_succ, ret_bind, asD_d, tabD, asSeq_tuple, guardL_false]
  rw [mapT_map, mapT_ret (g := fun r => r.map PyData.int) (fun r hr => by simp [tupI])]
  simp
  refine wN hc4 ?_
  rw [hc3, rangeD0 (show c ≤ 16777216 by omega), ret_bind]
  refine wG (by simp; omega) ?_
  refine W_for (fun i env => ∃ g s4 s5 s6 s7, env = [.v .rng, .v (.d (.tuple (t.map tupI))), .v (.d (.int (q : Int))), .own2 ((triT t.length g).map fun r => r.map PyData.int), s4, s5, s6, s7] ∧ ∀ i j, i < t.length → j < i → Lev (g i j)) ⟨lv t, _, _, _, _, by rw [triT_of ht.tri], fun i j hi hj => lv_pos ht hi (by omega) (by omega)⟩ ?_ ?_
  · rintro i x env hx ⟨g, s4, s5, s6, s7, rfl, hg⟩ J' R hJ' hR
    have hi : i < c := by
      have := (List.getElem?_eq_some_iff.mp hx).1
      simpa using this
    have hl1 : 1 < t.length := hc2 (by omega)
    simp
    refine wN ⟨by omega, by omega⟩ ?_
    refine wD (by omega) fun a0 ha0 => ?_
    refine wN ⟨by omega, by omega⟩ ?_
    refine wD (by omega) fun b hb => ?_
    have ha : 1 + a0 < t.length := by omega
    have hba : b < 1 + a0 := by omega
    have e1 : (1 : Int) + (a0 : Int) = ((1 + a0 : Nat) : Int) := by omega
    rw [e1]
    generalize 1 + a0 = a at *
    have hrow := triT_get (g := g) ha
    have r1 : seqAt (List.map (PyData.list ∘ fun r => List.map PyData.int r) (triT t.length g)) (a : Int) = T.ret (lstI ((List.range a).map fun j => g a j)) := seqAt_ok (by rw [List.getElem?_map, hrow]; rfl)
    have r2 : o2 .ix (lstI ((List.range a).map fun j => g a j)) (.int (b : Int)) = T.ret (.int (g a b)) := by
      unfold lstI
      rw [o2_ix_l, List.map_map]
      exact seqAt_ok (by rw [List.getElem?_map, List.getElem?_range hba]; rfl)
    rw [r1]
    simp only [ret_bind, r2, nox_ret, asD_d]
    refine wN rfl ?_
    refine W_use (law_one_ints (ns := [1, -1, 1000, -1000]) (by simp) (by simp) n) ?_
    rintro _ ⟨y, hy, rfl⟩
    have hy : -1000 ≤ y ∧ y ≤ 1000 := by
      simp at hy
      omega
    have hgab := hg a b ha hba
    have pa : place (triT t.length g).length (a : Int) = some a := place_nat (by rw [triT_len]; exact ha)
    have ga : (triT t.length g)[a]? = some ((List.range a).map fun j => g a j) := hrow
    have pb : place (((List.range a).map fun j => g a j).map PyData.int).length (b : Int) = some b := place_nat (by simpa using hba)
    unfold Lev at hgab
    simp only [asD_d, ret_bind]
    simp only [o2_add_i, o2_max, o2_min, ret_bind, pa, opt_some_p, ga, Option.map_some, pb]
    refine wR (hJ' _ ⟨fun i j => if i = a ∧ j = b then min 1000000000000 (max 1 (g a b + y)) else g i j, .v (.d x), .v (.d (.int (a : Int))), .v (.d (.int (b : Int))), s7, ?_, triT_one hg (by unfold Lev; omega)⟩)
    rw [← triT_set (g := g) ha hba, List.map_set, List.map_set]
  · rintro env ⟨g, s4, s5, s6, s7, rfl, hg⟩
    simp
    rw [mapT_map, mapT_ret (g := fun r => tupI r) (fun r hr => by simp [tupI])]
    simp
    exact hJ _ ⟨triT t.length g, rfl, triT_tab hp hf hg, triT_len _ _⟩
end Mp
namespace Mp
open PySem
open Mp.T (ret_bind exc_bind)
theorem law_k42' (n : Nat) : W (fun p => p.1 = .rt (.d (.bool true))) (denSs (CC (n + 20)) B_law_30 [.un, .v .rng, .un, .un, .un, .un, .un, .un, .un, .un]) := by
  refine wQ fun J hJ => ?_
  simp [B_law_30]
  rw [show (12 : Int) = ((12 : Nat) : Int) from rfl, rangeD0 (by omega), ret_bind]
  refine wG (by simp) ?_
  refine W_for (fun i env => ∃ s2 s3 s4 s5 s6 s7 s8 s9, env = [.un, .v .rng, s2, s3, s4, s5, s6, s7, s8, s9]) ⟨_, _, _, _, _, _, _, _, rfl⟩ ?_ ?_
  · rintro i x env hx ⟨s2, s3, s4, s5, s6, s7, s8, s9, rfl⟩ J' R hJ' hR
    simp
    rw [show (12 : Int) = ((12 : Nat) : Int) from rfl]
    refine W_use (law_count_ok (m := 12) (by omega) (by omega) _) ?_
    rintro _ ⟨k, rfl, hk1, hk2⟩
    refine W_use (law_table_2_ok hk1 hk2 (n + 17)) ?_
    rintro _ ⟨t, rfl, ht, hl⟩
    have hf := ht.few
    have hp := ht.pos
    refine wD (by omega) fun q hq => ?_
    refine W_use (law_moved_2_ok ht (show q < 4 by omega) (n + 18)) ?_
    rintro _ ⟨t1, rfl, ht1, hl1⟩
    simp [tab_len']
    refine W_use (law_table_2_ok hp hf (n + 17)) ?_
    rintro _ ⟨t2, rfl, ht2, hl2⟩
    simp
    rw [show (12 : Int) = ((12 : Nat) : Int) from rfl]
    refine W_use (law_count_ok (m := 12) (by omega) (by omega) _) ?_
    rintro _ ⟨k', rfl, hk1', hk2'⟩
    refine W_use (law_table_2_ok hk1' hk2' (n + 17)) ?_
    rintro _ ⟨t3, rfl, ht3, hl3⟩
    simp
    refine W_use (law_one_any (xs := [tabD t1, tabD t2, tabD t3]) (by simp) (by simp) true (n + 19)) ?_
    rintro _ ⟨w, hw, rfl⟩
    obtain ⟨u, rfl, hu⟩ : ∃ u, w = tabD u ∧ IsTab u := by
      simp only [List.mem_cons, List.not_mem_nil, or_false] at hw
      rcases hw with rfl | rfl | rfl
      · exact ⟨_, rfl, ht1⟩
      · exact ⟨_, rfl, ht2⟩
      · exact ⟨_, rfl, ht3⟩
    have z0 : seqAt [tabD t1, tabD t2] 0 = T.ret (tabD t1) := seqAt_ok (n := 0) rfl
    have z1 : seqAt [tabD t1, tabD t2] 1 = T.ret (tabD t2) := seqAt_ok (n := 1) rfl
    simp [z0, z1]
    refine W_for (fun i env => ∃ s6 s7 s8 s9, env = [.un, .v .rng, .v (.d x), .v (.d (tabD t)), .v (.d (.list [tabD t1, tabD t2])), .v (.d (tabD u)), s6, s7, s8, s9]) ⟨_, _, _, _, rfl⟩ ?_ ?_
    · rintro i v env hv ⟨s6, s7, s8, s9, rfl⟩ J2 R2 hJ2 hR2
      obtain ⟨a, b, rfl, ha, hb⟩ : ∃ a b, v = .tuple [tabD a, tabD b] ∧ IsTab a ∧ IsTab b := by
        have := List.mem_of_getElem? hv
        simp only [List.mem_cons, List.not_mem_nil, or_false] at this
        rcases this with rfl | rfl | rfl | rfl
        · exact ⟨_, _, rfl, ht, hu⟩
        · exact ⟨_, _, rfl, hu, ht⟩
        · exact ⟨_, _, rfl, ht, ht⟩
        · exact ⟨_, _, rfl, ht1, ht2⟩
      obtain ⟨b1, b2, b3⟩ := tabs_brief (ts := [a, b]) (fun t h => by
        simp only [List.mem_cons, List.not_mem_nil, or_false] at h
        rcases h with rfl | rfl
        · exact ha
        · exact hb) (by simp)
      simp only [List.map_cons, List.map_nil] at b1 b2 b3
      have r1 := reprX_ok b1 (by omega) (by omega)
      have r2 := eqD_shownX b1
      obtain ⟨d1, d2, d3⟩ := told8_brief a b
      have r3 := reprX_ok d1 (by omega) (by omega)
      have r4 := eqD_shownX d1
      have h1 : callF tb noSub (n + 20) i_law_told_8 _ = _ := law_told_8_eq ha hb (n + 17)
      by_cases hab : b.length = a.length
      · have h2 : callF tb noSub (n + 20) i_law_below _ = _ := law_below_eq ha hb hab (n + 19)
        have e : told8 a b = .bool (below a b) := by rw [told8, if_pos hab]
        have hab' : (a.length : Int) = (b.length : Int) := by omega
        rw [e] at h1 r3 r4
        simp [r1, r2, tab_len', hab, h1, h2, r3, r4]
        exact hJ2 _ ⟨_, _, _, _, rfl⟩
      · have e : told8 a b = .list [.int 1] := by rw [told8, if_neg hab]
        have hab' : ¬ (a.length : Int) = (b.length : Int) := by omega
        have hab2 : ¬ a.length = b.length := by omega
        rw [e] at h1 r3 r4
        simp [r1, r2, tab_len', hab', hab2, h1, r3, r4]
        exact hJ2 _ ⟨_, _, _, _, rfl⟩
    · rintro env ⟨s6, s7, s8, s9, rfl⟩
      exact wR (hJ' _ ⟨_, _, _, _, _, _, _, _, rfl⟩)
  · rintro env ⟨s2, s3, s4, s5, s6, s7, s8, s9, rfl⟩
    simp
    exact hJ _ rfl
theorem law_k42 (n : Nat) : W (fun p => p.1 = .rt (.d (.bool true))) (denSs (CC 30) B_law_30 [.un, .v .rng, .un, .un, .un, .un, .un, .un, .un, .un]) := law_k42' 10
end Mp
namespace Mp
open PySem PySem.Spec PyProof.Rows L2
def csL : List Nat := [2, 4, 7, 8, 9]
def gsL : List Nat := []
def lawL : List (Nat × Str × FD) := [(147, Str.ofString "need_equal_sizes", F_need_equal_sizes), (148, Str.ofString "greater_levels", F_greater_levels), (150, Str.ofString "is_below", F_is_below), (16, Str.ofString "_law_one", F_law_one), (18, Str.ofString "_law_count", F_law_count), (19, Str.ofString "_law_grades", F_law_grades), (20, Str.ofString "_law_level", F_law_level), (72, Str.ofString "_law_nested", F_law_nested_2), (22, Str.ofString "_law_raised", F_law_raised), (23, Str.ofString "_law_levels", F_law_levels), (24, Str.ofString "_law_any", F_law_any), (73, Str.ofString "_law_table", F_law_table_2), (237, Str.ofString "_law_below", F_law_below), (238, Str.ofString "_law_moved", F_law_moved_2), (239, Str.ofString "_law_told", F_law_told_8)]
def nm : Nat → Option Str := nmL lawL
def hotL : List (Nat × Str × FD) := [(232, Str.ofString "_law_alone", F_law_alone)]
def hm : Nat → Option Str := nmL hotL
def topS (i : Nat) : Stmt := PySem.Challenge.pw_mergelevels_k42_tables_compared.main.body.getD i (.Pass ⟨0, 0, 0, 0⟩)
abbrev s_need_equal_sizes : Stmt := topS 7
abbrev n_need_equal_sizes : List Str := [Str.ofString "tables", Str.ofString "index", Str.ofString "table"]
theorem sc_need_equal_sizes : FnScope n_need_equal_sizes [Str.ofString "tables"] (defScope s_need_equal_sizes) := ⟨by decide +kernel, by decide +kernel, by decide +kernel, by decide +kernel, by decide +kernel, by decide +kernel, by decide +kernel⟩
theorem ck_need_equal_sizes : chkSs ⟨n_need_equal_sizes, nm, gsL, csL, false, false, hm⟩ (defScope s_need_equal_sizes) B_need_equal_sizes (defBody s_need_equal_sizes) = true := by decide +kernel
abbrev s_greater_levels : Stmt := topS 8
abbrev n_greater_levels : List Str := [Str.ofString "one", Str.ofString "other", Str.ofString "row", Str.ofString "further", Str.ofString "pair"]
theorem sc_greater_levels : FnScope n_greater_levels [Str.ofString "one", Str.ofString "other"] (defScope s_greater_levels) := ⟨by decide +kernel, by decide +kernel, by decide +kernel, by decide +kernel, by decide +kernel, by decide +kernel, by decide +kernel⟩
theorem ck_greater_levels : chkSs ⟨n_greater_levels, nm, gsL, csL, false, false, hm⟩ (defScope s_greater_levels) B_greater_levels (defBody s_greater_levels) = true := by decide +kernel
abbrev s_is_below : Stmt := topS 9
abbrev n_is_below : List Str := [Str.ofString "one", Str.ofString "other"]
theorem sc_is_below : FnScope n_is_below [Str.ofString "one", Str.ofString "other"] (defScope s_is_below) := ⟨by decide +kernel, by decide +kernel, by decide +kernel, by decide +kernel, by decide +kernel, by decide +kernel, by decide +kernel⟩
theorem ck_is_below : chkSs ⟨n_is_below, nm, gsL, csL, false, false, hm⟩ (defScope s_is_below) B_is_below (defBody s_is_below) = true := by decide +kernel
abbrev s_law_one : Stmt := topS 13
abbrev n_law_one : List Str := [Str.ofString "_law_drawn", Str.ofString "_law_items"]
theorem sc_law_one : FnScope n_law_one [Str.ofString "_law_drawn", Str.ofString "_law_items"] (defScope s_law_one) := ⟨by decide +kernel, by decide +kernel, by decide +kernel, by decide +kernel, by decide +kernel, by decide +kernel, by decide +kernel⟩
theorem ck_law_one : chkSs ⟨n_law_one, nm, gsL, csL, false, false, hm⟩ (defScope s_law_one) B_law_one (defBody s_law_one) = true := by decide +kernel
abbrev s_law_count : Stmt := topS 14
abbrev n_law_count : List Str := [Str.ofString "_law_drawn", Str.ofString "_law_most"]
theorem sc_law_count : FnScope n_law_count [Str.ofString "_law_drawn", Str.ofString "_law_most"] (defScope s_law_count) := ⟨by decide +kernel, by decide +kernel, by decide +kernel, by decide +kernel, by decide +kernel, by decide +kernel, by decide +kernel⟩
theorem ck_law_count : chkSs ⟨n_law_count, nm, gsL, csL, false, false, hm⟩ (defScope s_law_count) B_law_count (defBody s_law_count) = true := by decide +kernel
abbrev s_law_grades : Stmt := topS 15
abbrev n_law_grades : List Str := [Str.ofString "_law_drawn", Str.ofString "_law_wide", Str.ofString "_law_found", Str.ofString "_law_way", Str.ofString "_law_many", Str.ofString "_law_k"]
theorem sc_law_grades : FnScope n_law_grades [Str.ofString "_law_drawn"] (defScope s_law_grades) := ⟨by decide +kernel, by decide +kernel, by decide +kernel, by decide +kernel, by decide +kernel, by decide +kernel, by decide +kernel⟩
theorem ck_law_grades : chkSs ⟨n_law_grades, nm, gsL, csL, false, false, hm⟩ (defScope s_law_grades) B_law_grades (defBody s_law_grades) = true := by decide +kernel
abbrev s_law_level : Stmt := topS 16
abbrev n_law_level : List Str := [Str.ofString "_law_table_here", Str.ofString "_law_one_here", Str.ofString "_law_other", Str.ofString "_law_low", Str.ofString "_law_high"]
theorem sc_law_level : FnScope n_law_level [Str.ofString "_law_table_here", Str.ofString "_law_one_here", Str.ofString "_law_other"] (defScope s_law_level) := ⟨by decide +kernel, by decide +kernel, by decide +kernel, by decide +kernel, by decide +kernel, by decide +kernel, by decide +kernel⟩
theorem ck_law_level : chkSs ⟨n_law_level, nm, gsL, csL, false, false, hm⟩ (defScope s_law_level) B_law_level (defBody s_law_level) = true := by decide +kernel
abbrev s_law_nested_2 : Stmt := topS 17
abbrev n_law_nested_2 : List Str := [Str.ofString "_law_drawn", Str.ofString "_law_count_here", Str.ofString "_law_grades_here", Str.ofString "_law_rows", Str.ofString "_law_near", Str.ofString "_law_level_here", Str.ofString "_law_k"]
theorem sc_law_nested_2 : FnScope n_law_nested_2 [Str.ofString "_law_drawn", Str.ofString "_law_count_here", Str.ofString "_law_grades_here"] (defScope s_law_nested_2) := ⟨by decide +kernel, by decide +kernel, by decide +kernel, by decide +kernel, by decide +kernel, by decide +kernel, by decide +kernel⟩
theorem ck_law_nested_2 : chkSs ⟨n_law_nested_2, nm, gsL, csL, false, false, hm⟩ (defScope s_law_nested_2) B_law_nested_2 (defBody s_law_nested_2) = true := by decide +kernel
abbrev s_law_raised : Stmt := topS 18
abbrev n_law_raised : List Str := [Str.ofString "_law_drawn", Str.ofString "_law_table_here", Str.ofString "_law_grades_here", Str.ofString "_law_found", Str.ofString "_law_row", Str.ofString "_law_level_here"]
theorem sc_law_raised : FnScope n_law_raised [Str.ofString "_law_drawn", Str.ofString "_law_table_here", Str.ofString "_law_grades_here"] (defScope s_law_raised) := ⟨by decide +kernel, by decide +kernel, by decide +kernel, by decide +kernel, by decide +kernel, by decide +kernel, by decide +kernel⟩
theorem ck_law_raised : chkSs ⟨n_law_raised, nm, gsL, csL, false, false, hm⟩ (defScope s_law_raised) B_law_raised (defBody s_law_raised) = true := by decide +kernel
abbrev s_law_levels : Stmt := topS 19
abbrev n_law_levels : List Str := [Str.ofString "_law_drawn", Str.ofString "_law_many", Str.ofString "_law_grades_here", Str.ofString "_law_k"]
theorem sc_law_levels : FnScope n_law_levels [Str.ofString "_law_drawn", Str.ofString "_law_many", Str.ofString "_law_grades_here"] (defScope s_law_levels) := ⟨by decide +kernel, by decide +kernel, by decide +kernel, by decide +kernel, by decide +kernel, by decide +kernel, by decide +kernel⟩
theorem ck_law_levels : chkSs ⟨n_law_levels, nm, gsL, csL, false, false, hm⟩ (defScope s_law_levels) B_law_levels (defBody s_law_levels) = true := by decide +kernel
abbrev s_law_any : Stmt := topS 20
abbrev n_law_any : List Str := [Str.ofString "_law_drawn", Str.ofString "_law_many", Str.ofString "_law_wide", Str.ofString "_law_k"]
theorem sc_law_any : FnScope n_law_any [Str.ofString "_law_drawn", Str.ofString "_law_many", Str.ofString "_law_wide"] (defScope s_law_any) := ⟨by decide +kernel, by decide +kernel, by decide +kernel, by decide +kernel, by decide +kernel, by decide +kernel, by decide +kernel⟩
theorem ck_law_any : chkSs ⟨n_law_any, nm, gsL, csL, false, false, hm⟩ (defScope s_law_any) B_law_any (defBody s_law_any) = true := by decide +kernel
abbrev s_law_table_2 : Stmt := topS 21
abbrev n_law_table_2 : List Str := [Str.ofString "_law_drawn", Str.ofString "_law_count_here", Str.ofString "_law_table_here", Str.ofString "_law_one_here", Str.ofString "_law_row", Str.ofString "_law_grades_here", Str.ofString "_law_way", Str.ofString "_law_wide", Str.ofString "_law_other", Str.ofString "_law_level_here"]
theorem sc_law_table_2 : FnScope n_law_table_2 [Str.ofString "_law_drawn", Str.ofString "_law_count_here"] (defScope s_law_table_2) := ⟨by decide +kernel, by decide +kernel, by decide +kernel, by decide +kernel, by decide +kernel, by decide +kernel, by decide +kernel⟩
theorem ck_law_table_2 : chkSs ⟨n_law_table_2, nm, gsL, csL, false, false, hm⟩ (defScope s_law_table_2) B_law_table_2 (defBody s_law_table_2) = true := by decide +kernel
abbrev s_law_below : Stmt := topS 22
abbrev n_law_below : List Str := [Str.ofString "_law_one_here", Str.ofString "_law_other", Str.ofString "_law_row", Str.ofString "_law_more", Str.ofString "_law_level_here", Str.ofString "_law_limit"]
theorem sc_law_below : FnScope n_law_below [Str.ofString "_law_one_here", Str.ofString "_law_other"] (defScope s_law_below) := ⟨by decide +kernel, by decide +kernel, by decide +kernel, by decide +kernel, by decide +kernel, by decide +kernel, by decide +kernel⟩
theorem ck_law_below : chkSs ⟨n_law_below, nm, gsL, csL, false, false, hm⟩ (defScope s_law_below) B_law_below (defBody s_law_below) = true := by decide +kernel
abbrev s_law_moved_2 : Stmt := topS 23
abbrev n_law_moved_2 : List Str := [Str.ofString "_law_drawn", Str.ofString "_law_table_here", Str.ofString "_law_turns", Str.ofString "_law_rows", Str.ofString "_law_turn", Str.ofString "_law_one_here", Str.ofString "_law_other", Str.ofString "_law_row"]
theorem sc_law_moved_2 : FnScope n_law_moved_2 [Str.ofString "_law_drawn", Str.ofString "_law_table_here", Str.ofString "_law_turns"] (defScope s_law_moved_2) := ⟨by decide +kernel, by decide +kernel, by decide +kernel, by decide +kernel, by decide +kernel, by decide +kernel, by decide +kernel⟩
theorem ck_law_moved_2 : chkSs ⟨n_law_moved_2, nm, gsL, csL, false, false, hm⟩ (defScope s_law_moved_2) B_law_moved_2 (defBody s_law_moved_2) = true := by decide +kernel
abbrev s_law_alone : Stmt := topS 24
abbrev n_law_alone : List Str := [Str.ofString "_law_error", Str.ofString "_law_kinds"]
theorem sc_law_alone : FnScope n_law_alone [Str.ofString "_law_error"] (defScope s_law_alone) := ⟨by decide +kernel, by decide +kernel, by decide +kernel, by decide +kernel, by decide +kernel, by decide +kernel, by decide +kernel⟩
theorem ck_law_alone : chkSs ⟨n_law_alone, nm, gsL, csL, false, true, hm⟩ (defScope s_law_alone) B_law_alone (defBody s_law_alone) = true := by decide +kernel
abbrev s_law_told_8 : Stmt := topS 25
abbrev n_law_told_8 : List Str := [Str.ofString "_law_one_here", Str.ofString "_law_other", Str.ofString "_law_found", Str.ofString "_law_error"]
theorem sc_law_told_8 : FnScope n_law_told_8 [Str.ofString "_law_one_here", Str.ofString "_law_other"] (defScope s_law_told_8) := ⟨by decide +kernel, by decide +kernel, by decide +kernel, by decide +kernel, by decide +kernel, by decide +kernel, by decide +kernel⟩
theorem ck_law_told_8 : chkSs ⟨n_law_told_8, nm, gsL, csL, false, false, hm⟩ (defScope s_law_told_8) B_law_told_8 (defBody s_law_told_8) = true := by decide +kernel
abbrev s_law : Stmt := topS 26
abbrev n_law : List Str := [Str.ofString "_law_script", Str.ofString "_law_drawn", Str.ofString "_law_turn", Str.ofString "_law_one_here", Str.ofString "_law_some", Str.ofString "_law_other", Str.ofString "_law_left", Str.ofString "_law_right", Str.ofString "_law_kept", Str.ofString "_law_due"]
theorem sc_law : FnScope n_law [Str.ofString "_law_script"] (defScope s_law) := ⟨by decide +kernel, by decide +kernel, by decide +kernel, by decide +kernel, by decide +kernel, by decide +kernel, by decide +kernel⟩
theorem ck_law : chkSs ⟨n_law, nm, gsL, csL, false, false, hm⟩ (defScope s_law) B_law_30 ((defBody s_law).drop 1) = true := by decide +kernel
abbrev s__next : Stmt := topS 12
theorem sc__next : FnScope nextN [Str.ofString "_law_drawn", Str.ofString "_law_many"] (defScope s__next) := ⟨by decide +kernel, by decide +kernel, by decide +kernel, by decide +kernel, by decide +kernel, by decide +kernel, by decide +kernel⟩
abbrev s__draws : Stmt := topS 11
theorem sc__draws : FnScope drawsN [Str.ofString "_law_script"] (defScope s__draws) := ⟨by decide +kernel, by decide +kernel, by decide +kernel, by decide +kernel, by decide +kernel, by decide +kernel, by decide +kernel⟩
theorem wts_law : (kSs wts B_law_30 && decide (QQ ^ 30 * wSs wts B_law_30 ≤ BIG)) = true := by decide +kernel
def fdOf (x : Str) (st : Stmt) (kV dc pm : Value) (an : Option Addr) (cd ct : Value) : FuncData := PySem.W.fnOf x x (defArgs st) (defBody st) (defScope st) .none kV dc pm an cd ct
set_option maxHeartbeats 40000000 in
theorem all_mk {P : Program} {w : World} {K : PySem.W.Frag} {h : Heap} {mg : Str → Option Value} {fa : Addr} (X : K.In h) (G : h.Ns mainGlobals mg) (hfa : mg (Str.ofString "law") = some (.ref fa))
  {f0 : Addr} {oc0 kV0 dc0 pm0 cd0 ct0 : Value} {od0 an0 : Option Addr} {sl0 : Array (Option Value)}
  (a0 : PySem.W.nsIn K mainGlobals (Str.ofString "need_equal_sizes") = some (some (.ref f0)))
  (l0 : K.lookup f0 = some ⟨oc0, od0, .func (PySem.W.fnOf (Str.ofString "need_equal_sizes") (Str.ofString "need_equal_sizes") (defArgs s_need_equal_sizes) (defBody s_need_equal_sizes) (defScope s_need_equal_sizes) .none kV0 dc0 pm0 an0 cd0 ct0), sl0⟩)
  (c0 : PySem.W.codeIn K cd0 (Str.ofString "need_equal_sizes") = true)
  (k0 : PySem.W.keepIn K (.ref f0) = true)
  {f1 : Addr} {oc1 kV1 dc1 pm1 cd1 ct1 : Value} {od1 an1 : Option Addr} {sl1 : Array (Option Value)}
  (a1 : PySem.W.nsIn K mainGlobals (Str.ofString "greater_levels") = some (some (.ref f1)))
  (l1 : K.lookup f1 = some ⟨oc1, od1, .func (PySem.W.fnOf (Str.ofString "greater_levels") (Str.ofString "greater_levels") (defArgs s_greater_levels) (defBody s_greater_levels) (defScope s_greater_levels) .none kV1 dc1 pm1 an1 cd1 ct1), sl1⟩)
  (c1 : PySem.W.codeIn K cd1 (Str.ofString "greater_levels") = true)
  (k1 : PySem.W.keepIn K (.ref f1) = true)
  {f2 : Addr} {oc2 kV2 dc2 pm2 cd2 ct2 : Value} {od2 an2 : Option Addr} {sl2 : Array (Option Value)}
  (a2 : PySem.W.nsIn K mainGlobals (Str.ofString "is_below") = some (some (.ref f2)))
  (l2 : K.lookup f2 = some ⟨oc2, od2, .func (PySem.W.fnOf (Str.ofString "is_below") (Str.ofString "is_below") (defArgs s_is_below) (defBody s_is_below) (defScope s_is_below) .none kV2 dc2 pm2 an2 cd2 ct2), sl2⟩)
  (c2 : PySem.W.codeIn K cd2 (Str.ofString "is_below") = true)
  (k2 : PySem.W.keepIn K (.ref f2) = true)
  {f3 : Addr} {oc3 kV3 dc3 pm3 cd3 ct3 : Value} {od3 an3 : Option Addr} {sl3 : Array (Option Value)}
  (a3 : PySem.W.nsIn K mainGlobals (Str.ofString "_law_one") = some (some (.ref f3)))
  (l3 : K.lookup f3 = some ⟨oc3, od3, .func (PySem.W.fnOf (Str.ofString "_law_one") (Str.ofString "_law_one") (defArgs s_law_one) (defBody s_law_one) (defScope s_law_one) .none kV3 dc3 pm3 an3 cd3 ct3), sl3⟩)
  (c3 : PySem.W.codeIn K cd3 (Str.ofString "_law_one") = true)
  (k3 : PySem.W.keepIn K (.ref f3) = true)
  {f4 : Addr} {oc4 kV4 dc4 pm4 cd4 ct4 : Value} {od4 an4 : Option Addr} {sl4 : Array (Option Value)}
  (a4 : PySem.W.nsIn K mainGlobals (Str.ofString "_law_count") = some (some (.ref f4)))
  (l4 : K.lookup f4 = some ⟨oc4, od4, .func (PySem.W.fnOf (Str.ofString "_law_count") (Str.ofString "_law_count") (defArgs s_law_count) (defBody s_law_count) (defScope s_law_count) .none kV4 dc4 pm4 an4 cd4 ct4), sl4⟩)
  (c4 : PySem.W.codeIn K cd4 (Str.ofString "_law_count") = true)
  (k4 : PySem.W.keepIn K (.ref f4) = true)
  {f5 : Addr} {oc5 kV5 dc5 pm5 cd5 ct5 : Value} {od5 an5 : Option Addr} {sl5 : Array (Option Value)}
  (a5 : PySem.W.nsIn K mainGlobals (Str.ofString "_law_grades") = some (some (.ref f5)))
  (l5 : K.lookup f5 = some ⟨oc5, od5, .func (PySem.W.fnOf (Str.ofString "_law_grades") (Str.ofString "_law_grades") (defArgs s_law_grades) (defBody s_law_grades) (defScope s_law_grades) .none kV5 dc5 pm5 an5 cd5 ct5), sl5⟩)
  (c5 : PySem.W.codeIn K cd5 (Str.ofString "_law_grades") = true)
  (k5 : PySem.W.keepIn K (.ref f5) = true)
  {f6 : Addr} {oc6 kV6 dc6 pm6 cd6 ct6 : Value} {od6 an6 : Option Addr} {sl6 : Array (Option Value)}
  (a6 : PySem.W.nsIn K mainGlobals (Str.ofString "_law_level") = some (some (.ref f6)))
  (l6 : K.lookup f6 = some ⟨oc6, od6, .func (PySem.W.fnOf (Str.ofString "_law_level") (Str.ofString "_law_level") (defArgs s_law_level) (defBody s_law_level) (defScope s_law_level) .none kV6 dc6 pm6 an6 cd6 ct6), sl6⟩)
  (c6 : PySem.W.codeIn K cd6 (Str.ofString "_law_level") = true)
  (k6 : PySem.W.keepIn K (.ref f6) = true)
  {f7 : Addr} {oc7 kV7 dc7 pm7 cd7 ct7 : Value} {od7 an7 : Option Addr} {sl7 : Array (Option Value)}
  (a7 : PySem.W.nsIn K mainGlobals (Str.ofString "_law_nested") = some (some (.ref f7)))
  (l7 : K.lookup f7 = some ⟨oc7, od7, .func (PySem.W.fnOf (Str.ofString "_law_nested") (Str.ofString "_law_nested") (defArgs s_law_nested_2) (defBody s_law_nested_2) (defScope s_law_nested_2) .none kV7 dc7 pm7 an7 cd7 ct7), sl7⟩)
  (c7 : PySem.W.codeIn K cd7 (Str.ofString "_law_nested") = true)
  (k7 : PySem.W.keepIn K (.ref f7) = true)
  {f8 : Addr} {oc8 kV8 dc8 pm8 cd8 ct8 : Value} {od8 an8 : Option Addr} {sl8 : Array (Option Value)}
  (a8 : PySem.W.nsIn K mainGlobals (Str.ofString "_law_raised") = some (some (.ref f8)))
  (l8 : K.lookup f8 = some ⟨oc8, od8, .func (PySem.W.fnOf (Str.ofString "_law_raised") (Str.ofString "_law_raised") (defArgs s_law_raised) (defBody s_law_raised) (defScope s_law_raised) .none kV8 dc8 pm8 an8 cd8 ct8), sl8⟩)
  (c8 : PySem.W.codeIn K cd8 (Str.ofString "_law_raised") = true)
  (k8 : PySem.W.keepIn K (.ref f8) = true)
  {f9 : Addr} {oc9 kV9 dc9 pm9 cd9 ct9 : Value} {od9 an9 : Option Addr} {sl9 : Array (Option Value)}
  (a9 : PySem.W.nsIn K mainGlobals (Str.ofString "_law_levels") = some (some (.ref f9)))
  (l9 : K.lookup f9 = some ⟨oc9, od9, .func (PySem.W.fnOf (Str.ofString "_law_levels") (Str.ofString "_law_levels") (defArgs s_law_levels) (defBody s_law_levels) (defScope s_law_levels) .none kV9 dc9 pm9 an9 cd9 ct9), sl9⟩)
  (c9 : PySem.W.codeIn K cd9 (Str.ofString "_law_levels") = true)
  (k9 : PySem.W.keepIn K (.ref f9) = true)
  {f10 : Addr} {oc10 kV10 dc10 pm10 cd10 ct10 : Value} {od10 an10 : Option Addr} {sl10 : Array (Option Value)}
  (a10 : PySem.W.nsIn K mainGlobals (Str.ofString "_law_any") = some (some (.ref f10)))
  (l10 : K.lookup f10 = some ⟨oc10, od10, .func (PySem.W.fnOf (Str.ofString "_law_any") (Str.ofString "_law_any") (defArgs s_law_any) (defBody s_law_any) (defScope s_law_any) .none kV10 dc10 pm10 an10 cd10 ct10), sl10⟩)
  (c10 : PySem.W.codeIn K cd10 (Str.ofString "_law_any") = true)
  (k10 : PySem.W.keepIn K (.ref f10) = true)
  {f11 : Addr} {oc11 kV11 dc11 pm11 cd11 ct11 : Value} {od11 an11 : Option Addr} {sl11 : Array (Option Value)}
  (a11 : PySem.W.nsIn K mainGlobals (Str.ofString "_law_table") = some (some (.ref f11)))
  (l11 : K.lookup f11 = some ⟨oc11, od11, .func (PySem.W.fnOf (Str.ofString "_law_table") (Str.ofString "_law_table") (defArgs s_law_table_2) (defBody s_law_table_2) (defScope s_law_table_2) .none kV11 dc11 pm11 an11 cd11 ct11), sl11⟩)
  (c11 : PySem.W.codeIn K cd11 (Str.ofString "_law_table") = true)
  (k11 : PySem.W.keepIn K (.ref f11) = true)
  {f12 : Addr} {oc12 kV12 dc12 pm12 cd12 ct12 : Value} {od12 an12 : Option Addr} {sl12 : Array (Option Value)}
  (a12 : PySem.W.nsIn K mainGlobals (Str.ofString "_law_below") = some (some (.ref f12)))
  (l12 : K.lookup f12 = some ⟨oc12, od12, .func (PySem.W.fnOf (Str.ofString "_law_below") (Str.ofString "_law_below") (defArgs s_law_below) (defBody s_law_below) (defScope s_law_below) .none kV12 dc12 pm12 an12 cd12 ct12), sl12⟩)
  (c12 : PySem.W.codeIn K cd12 (Str.ofString "_law_below") = true)
  (k12 : PySem.W.keepIn K (.ref f12) = true)
  {f13 : Addr} {oc13 kV13 dc13 pm13 cd13 ct13 : Value} {od13 an13 : Option Addr} {sl13 : Array (Option Value)}
  (a13 : PySem.W.nsIn K mainGlobals (Str.ofString "_law_moved") = some (some (.ref f13)))
  (l13 : K.lookup f13 = some ⟨oc13, od13, .func (PySem.W.fnOf (Str.ofString "_law_moved") (Str.ofString "_law_moved") (defArgs s_law_moved_2) (defBody s_law_moved_2) (defScope s_law_moved_2) .none kV13 dc13 pm13 an13 cd13 ct13), sl13⟩)
  (c13 : PySem.W.codeIn K cd13 (Str.ofString "_law_moved") = true)
  (k13 : PySem.W.keepIn K (.ref f13) = true)
  {f14 : Addr} {oc14 kV14 dc14 pm14 cd14 ct14 : Value} {od14 an14 : Option Addr} {sl14 : Array (Option Value)}
  (a14 : PySem.W.nsIn K mainGlobals (Str.ofString "_law_alone") = some (some (.ref f14)))
  (l14 : K.lookup f14 = some ⟨oc14, od14, .func (PySem.W.fnOf (Str.ofString "_law_alone") (Str.ofString "_law_alone") (defArgs s_law_alone) (defBody s_law_alone) (defScope s_law_alone) .none kV14 dc14 pm14 an14 cd14 ct14), sl14⟩)
  (c14 : PySem.W.codeIn K cd14 (Str.ofString "_law_alone") = true)
  (k14 : PySem.W.keepIn K (.ref f14) = true)
  {f15 : Addr} {oc15 kV15 dc15 pm15 cd15 ct15 : Value} {od15 an15 : Option Addr} {sl15 : Array (Option Value)}
  (a15 : PySem.W.nsIn K mainGlobals (Str.ofString "_law_told") = some (some (.ref f15)))
  (l15 : K.lookup f15 = some ⟨oc15, od15, .func (PySem.W.fnOf (Str.ofString "_law_told") (Str.ofString "_law_told") (defArgs s_law_told_8) (defBody s_law_told_8) (defScope s_law_told_8) .none kV15 dc15 pm15 an15 cd15 ct15), sl15⟩)
  (c15 : PySem.W.codeIn K cd15 (Str.ofString "_law_told") = true)
  (k15 : PySem.W.keepIn K (.ref f15) = true)
  {f16 : Addr} {oc16 kV16 dc16 pm16 cd16 ct16 : Value} {od16 an16 : Option Addr} {sl16 : Array (Option Value)}
  (a16 : PySem.W.nsIn K mainGlobals (Str.ofString "law") = some (some (.ref f16)))
  (l16 : K.lookup f16 = some ⟨oc16, od16, .func (PySem.W.fnOf (Str.ofString "law") (Str.ofString "law") (defArgs s_law) (defBody s_law) (defScope s_law) .none kV16 dc16 pm16 an16 cd16 ct16), sl16⟩)
  (c16 : PySem.W.codeIn K cd16 (Str.ofString "law") = true)
  (k16 : PySem.W.keepIn K (.ref f16) = true)
  {f17 : Addr} {oc17 kV17 dc17 pm17 cd17 ct17 : Value} {od17 an17 : Option Addr} {sl17 : Array (Option Value)}
  (a17 : PySem.W.nsIn K mainGlobals (Str.ofString "_law_next") = some (some (.ref f17)))
  (l17 : K.lookup f17 = some ⟨oc17, od17, .func (PySem.W.fnOf (Str.ofString "_law_next") (Str.ofString "_law_next") (defArgs s__next) (defBody s__next) (defScope s__next) .none kV17 dc17 pm17 an17 cd17 ct17), sl17⟩)
  (c17 : PySem.W.codeIn K cd17 (Str.ofString "_law_next") = true)
  (k17 : PySem.W.keepIn K (.ref f17) = true)
  {f18 : Addr} {oc18 kV18 dc18 pm18 cd18 ct18 : Value} {od18 an18 : Option Addr} {sl18 : Array (Option Value)}
  (a18 : PySem.W.nsIn K mainGlobals (Str.ofString "_law_draws") = some (some (.ref f18)))
  (l18 : K.lookup f18 = some ⟨oc18, od18, .func (PySem.W.fnOf (Str.ofString "_law_draws") (Str.ofString "_law_draws") (defArgs s__draws) (defBody s__draws) (defScope s__draws) .none kV18 dc18 pm18 an18 cd18 ct18), sl18⟩)
  (c18 : PySem.W.codeIn K cd18 (Str.ofString "_law_draws") = true)
  (k18 : PySem.W.keepIn K (.ref f18) = true)
  (z0 : PySem.W.nsIn K mainGlobals (Str.ofString "len") = some none)
  (z1 : PySem.W.nsIn K mainGlobals (Str.ofString "tuple") = some none)
  (z2 : PySem.W.nsIn K mainGlobals (Str.ofString "list") = some none)
  (z3 : PySem.W.nsIn K mainGlobals (Str.ofString "sorted") = some none)
  (z4 : PySem.W.nsIn K mainGlobals (Str.ofString "set") = some none)
  (z5 : PySem.W.nsIn K mainGlobals (Str.ofString "max") = some none)
  (z6 : PySem.W.nsIn K mainGlobals (Str.ofString "min") = some none)
  (z7 : PySem.W.nsIn K mainGlobals (Str.ofString "sum") = some none)
  (z8 : PySem.W.nsIn K mainGlobals (Str.ofString "all") = some none)
  (z9 : PySem.W.nsIn K mainGlobals (Str.ofString "any") = some none)
  (z10 : PySem.W.nsIn K mainGlobals (Str.ofString "abs") = some none)
  (z11 : PySem.W.nsIn K mainGlobals (Str.ofString "int") = some none)
  (z12 : PySem.W.nsIn K mainGlobals (Str.ofString "repr") = some none)
  (z13 : PySem.W.nsIn K mainGlobals (Str.ofString "isinstance") = some none)
  (z14 : PySem.W.nsIn K mainGlobals (Str.ofString "range") = some none)
  (z15 : PySem.W.nsIn K mainGlobals (Str.ofString "enumerate") = some none)
  (z16 : PySem.W.nsIn K mainGlobals (Str.ofString "zip") = some none)
  (z17 : PySem.W.nsIn K mainGlobals (Str.ofString "bool") = some none)
  (z18 : PySem.W.nsIn K mainGlobals (Str.ofString "str") = some none)
  (z19 : PySem.W.nsIn K mainGlobals (Str.ofString "dict") = some none)
  (z20 : PySem.W.nsIn K mainGlobals (Str.ofString "ValueError") = some none)
  (z21 : PySem.W.nsIn K mainGlobals (Str.ofString "LookupError") = some none)
  {x2 : Addr} (hx2 : XKs K x2 2 x2)
  {x4 : Addr} (hx4 : XKs K x2 4 x4)
  {x7 : Addr} (hx7 : XKs K x2 7 x7)
  {x8 : Addr} (hx8 : XKs K x2 8 x8)
  {x9 : Addr} (hx9 : XKs K x2 9 x9) :
  ∃ fd : FuncData, (∀ (s : Shared) (v : Value), BindsTo s fd ⟨[v], []⟩ [(Str.ofString "_law_script", v)]) ∧ ∀ base : Heap, K.In base → base.Ns mainGlobals mg → FnOkG P w K mg base (30 + 2) fa fd [Str.ofString "_law_script"] (spL K) := by
  have e := hfa.symm.trans (PySem.W.mg_of X G a16)
  cases e
  have TT : ∀ base : Heap, K.In base → base.Ns mainGlobals mg → TabOk P w K mg base nm hm gsL csL tb := fun base _ _ => {
    xs := by
      refine ⟨x2, fun k hk => ?_, fun k hk => ?_⟩
      · simp only [csL, List.mem_cons, List.not_mem_nil, or_false] at hk
        rcases hk with rfl | rfl | rfl | rfl | rfl
        · exact ⟨x2, xkn_mg X G hx2⟩
        · exact ⟨x4, xkn_mg X G hx4⟩
        · exact ⟨x7, xkn_mg X G hx7⟩
        · exact ⟨x8, xkn_mg X G hx8⟩
        · exact ⟨x9, xkn_mg X G hx9⟩
      · exact .inl (xkn_mg X G hx2)
    blt := by
      intro x hx
      simp only [bltNames, List.mem_cons, List.not_mem_nil, or_false] at hx
      rcases hx with rfl | rfl | rfl | rfl | rfl | rfl | rfl | rfl | rfl | rfl | rfl | rfl | rfl | rfl | rfl | rfl | rfl | rfl | rfl | rfl | rfl | rfl
      · exact PySem.W.mg_none_of X G z0
      · exact PySem.W.mg_none_of X G z1
      · exact PySem.W.mg_none_of X G z2
      · exact PySem.W.mg_none_of X G z3
      · exact PySem.W.mg_none_of X G z4
      · exact PySem.W.mg_none_of X G z5
      · exact PySem.W.mg_none_of X G z6
      · exact PySem.W.mg_none_of X G z7
      · exact PySem.W.mg_none_of X G z8
      · exact PySem.W.mg_none_of X G z9
      · exact PySem.W.mg_none_of X G z10
      · exact PySem.W.mg_none_of X G z11
      · exact PySem.W.mg_none_of X G z12
      · exact PySem.W.mg_none_of X G z13
      · exact PySem.W.mg_none_of X G z14
      · exact PySem.W.mg_none_of X G z15
      · exact PySem.W.mg_none_of X G z16
      · exact PySem.W.mg_none_of X G z17
      · exact PySem.W.mg_none_of X G z18
      · exact PySem.W.mg_none_of X G z19
      · exact PySem.W.mg_none_of X G z20
      · exact PySem.W.mg_none_of X G z21
    gl := by
      intro k hk
      cases hk
    df := tab_df (by
      refine List.forall_mem_cons.mpr ⟨?_, List.forall_mem_cons.mpr ⟨?_, List.forall_mem_cons.mpr ⟨?_, List.forall_mem_cons.mpr ⟨?_, List.forall_mem_cons.mpr ⟨?_, List.forall_mem_cons.mpr ⟨?_, List.forall_mem_cons.mpr ⟨?_, List.forall_mem_cons.mpr ⟨?_, List.forall_mem_cons.mpr ⟨?_, List.forall_mem_cons.mpr ⟨?_, List.forall_mem_cons.mpr ⟨?_, List.forall_mem_cons.mpr ⟨?_, List.forall_mem_cons.mpr ⟨?_, List.forall_mem_cons.mpr ⟨?_, List.forall_mem_cons.mpr ⟨?_, List.forall_mem_nil _⟩⟩⟩⟩⟩⟩⟩⟩⟩⟩⟩⟩⟩⟩⟩
      · exact ⟨rfl, n_need_equal_sizes, [Str.ofString "tables"], f0, _, _, _, _, _, _, _, _, _, _, _, _, _, _, _, PySem.W.mg_of X G a0, k0, .inr ⟨rfl, [], Str.ofString "tables", rfl, rfl, bd_star0 (B := fun l => bindArgs (fdOf (Str.ofString "need_equal_sizes") s_need_equal_sizes kV0 dc0 pm0 an0 cd0 ct0) ⟨l, []⟩) rfl (fun _ _ => rfl)⟩, l0, c0, sc_need_equal_sizes, rfl, ck_need_equal_sizes, fun z => Bool.noConfusion z⟩
      · exact ⟨rfl, n_greater_levels, [Str.ofString "one", Str.ofString "other"], f1, _, _, _, _, _, _, _, _, _, _, _, _, _, _, _, PySem.W.mg_of X G a1, k1, .inl ⟨rfl, .all fun us hl => (match us, hl with | [_, _], _ => rfl), rfl⟩, l1, c1, sc_greater_levels, rfl, ck_greater_levels, fun z => Bool.noConfusion z⟩
      · exact ⟨rfl, n_is_below, [Str.ofString "one", Str.ofString "other"], f2, _, _, _, _, _, _, _, _, _, _, _, _, _, _, _, PySem.W.mg_of X G a2, k2, .inl ⟨rfl, .all fun us hl => (match us, hl with | [_, _], _ => rfl), rfl⟩, l2, c2, sc_is_below, rfl, ck_is_below, fun z => Bool.noConfusion z⟩
      · exact ⟨rfl, n_law_one, [Str.ofString "_law_drawn", Str.ofString "_law_items"], f3, _, _, _, _, _, _, _, _, _, _, _, _, _, _, _, PySem.W.mg_of X G a3, k3, .inl ⟨rfl, .all fun us hl => (match us, hl with | [_, _], _ => rfl), rfl⟩, l3, c3, sc_law_one, rfl, ck_law_one, fun z => Bool.noConfusion z⟩
      · exact ⟨rfl, n_law_count, [Str.ofString "_law_drawn", Str.ofString "_law_most"], f4, _, _, _, _, _, _, _, _, _, _, _, _, _, _, _, PySem.W.mg_of X G a4, k4, .inl ⟨rfl, .all fun us hl => (match us, hl with | [_, _], _ => rfl), rfl⟩, l4, c4, sc_law_count, rfl, ck_law_count, fun z => Bool.noConfusion z⟩
      · exact ⟨rfl, n_law_grades, [Str.ofString "_law_drawn"], f5, _, _, _, _, _, _, _, _, _, _, _, _, _, _, _, PySem.W.mg_of X G a5, k5, .inl ⟨rfl, .all fun us hl => (match us, hl with | [_], _ => rfl), rfl⟩, l5, c5, sc_law_grades, rfl, ck_law_grades, fun z => Bool.noConfusion z⟩
      · exact ⟨rfl, n_law_level, [Str.ofString "_law_table_here", Str.ofString "_law_one_here", Str.ofString "_law_other"], f6, _, _, _, _, _, _, _, _, _, _, _, _, _, _, _, PySem.W.mg_of X G a6, k6, .inl ⟨rfl, .all fun us hl => (match us, hl with | [_, _, _], _ => rfl), rfl⟩, l6, c6, sc_law_level, rfl, ck_law_level, fun z => Bool.noConfusion z⟩
      · exact ⟨rfl, n_law_nested_2, [Str.ofString "_law_drawn", Str.ofString "_law_count_here", Str.ofString "_law_grades_here"], f7, _, _, _, _, _, _, _, _, _, _, _, _, _, _, _, PySem.W.mg_of X G a7, k7, .inl ⟨rfl, .all fun us hl => (match us, hl with | [_, _, _], _ => rfl), rfl⟩, l7, c7, sc_law_nested_2, rfl, ck_law_nested_2, fun z => Bool.noConfusion z⟩
      · exact ⟨rfl, n_law_raised, [Str.ofString "_law_drawn", Str.ofString "_law_table_here", Str.ofString "_law_grades_here"], f8, _, _, _, _, _, _, _, _, _, _, _, _, _, _, _, PySem.W.mg_of X G a8, k8, .inl ⟨rfl, .all fun us hl => (match us, hl with | [_, _, _], _ => rfl), rfl⟩, l8, c8, sc_law_raised, rfl, ck_law_raised, fun z => Bool.noConfusion z⟩
      · exact ⟨rfl, n_law_levels, [Str.ofString "_law_drawn", Str.ofString "_law_many", Str.ofString "_law_grades_here"], f9, _, _, _, _, _, _, _, _, _, _, _, _, _, _, _, PySem.W.mg_of X G a9, k9, .inl ⟨rfl, .all fun us hl => (match us, hl with | [_, _, _], _ => rfl), rfl⟩, l9, c9, sc_law_levels, rfl, ck_law_levels, fun z => Bool.noConfusion z⟩
      · exact ⟨rfl, n_law_any, [Str.ofString "_law_drawn", Str.ofString "_law_many", Str.ofString "_law_wide"], f10, _, _, _, _, _, _, _, _, _, _, _, _, _, _, _, PySem.W.mg_of X G a10, k10, .inl ⟨rfl, .all fun us hl => (match us, hl with | [_, _, _], _ => rfl), rfl⟩, l10, c10, sc_law_any, rfl, ck_law_any, fun z => Bool.noConfusion z⟩
      · exact ⟨rfl, n_law_table_2, [Str.ofString "_law_drawn", Str.ofString "_law_count_here"], f11, _, _, _, _, _, _, _, _, _, _, _, _, _, _, _, PySem.W.mg_of X G a11, k11, .inl ⟨rfl, .all fun us hl => (match us, hl with | [_, _], _ => rfl), rfl⟩, l11, c11, sc_law_table_2, rfl, ck_law_table_2, fun z => Bool.noConfusion z⟩
      · exact ⟨rfl, n_law_below, [Str.ofString "_law_one_here", Str.ofString "_law_other"], f12, _, _, _, _, _, _, _, _, _, _, _, _, _, _, _, PySem.W.mg_of X G a12, k12, .inl ⟨rfl, .all fun us hl => (match us, hl with | [_, _], _ => rfl), rfl⟩, l12, c12, sc_law_below, rfl, ck_law_below, fun z => Bool.noConfusion z⟩
      · exact ⟨rfl, n_law_moved_2, [Str.ofString "_law_drawn", Str.ofString "_law_table_here", Str.ofString "_law_turns"], f13, _, _, _, _, _, _, _, _, _, _, _, _, _, _, _, PySem.W.mg_of X G a13, k13, .inl ⟨rfl, .all fun us hl => (match us, hl with | [_, _, _], _ => rfl), rfl⟩, l13, c13, sc_law_moved_2, rfl, ck_law_moved_2, fun z => Bool.noConfusion z⟩
      · exact ⟨rfl, n_law_told_8, [Str.ofString "_law_one_here", Str.ofString "_law_other"], f15, _, _, _, _, _, _, _, _, _, _, _, _, _, _, _, PySem.W.mg_of X G a15, k15, .inl ⟨rfl, .all fun us hl => (match us, hl with | [_, _], _ => rfl), rfl⟩, l15, c15, sc_law_told_8, rfl, ck_law_told_8, fun z => Bool.noConfusion z⟩)
    dh := tab_df (by
      refine List.forall_mem_cons.mpr ⟨?_, List.forall_mem_nil _⟩
      · exact ⟨rfl, n_law_alone, [Str.ofString "_law_error"], f14, _, _, _, _, _, _, _, _, _, _, _, _, _, _, _, PySem.W.mg_of X G a14, k14, .inl ⟨rfl, .all fun us hl => (match us, hl with | [_], _ => rfl), rfl⟩, l14, c14, sc_law_alone, rfl, ck_law_alone, fun _ => rfl⟩)
    nxt := ⟨f17, _, [Str.ofString "_law_drawn", Str.ofString "_law_many"], PySem.W.mg_of X G a17, k17, .all fun us hl => (match us, hl with | [_, _], _ => rfl), next_fn (n := 0) l17 c17 sc__next (by decide +kernel) (by decide +kernel) (PySem.W.mg_none_of X G z0)⟩ }
  refine ⟨fdOf (Str.ofString "law") s_law kV16 dc16 pm16 an16 cd16 ct16, fun s v => .of_eq rfl, fun base hb1 hb2 => ?_⟩
  refine law_den (c := ⟨n_law, nm, gsL, csL, false, false, hm⟩) (k := 1) (rs := B_law_30) (C := CC 30) (xr := XRel K mg csL) rfl (gok_n (TT base hb1 hb2) 30 _ _ _) (PySem.W.mg_of X G a18) k18 (.all fun us hl => (match us, hl with | [_], _ => rfl))
    ((draws_fn (n := 0) l18 c18 sc__draws (by decide +kernel) (by decide +kernel) (by decide +kernel) (by decide +kernel) (by decide +kernel) (by decide +kernel) (by decide +kernel) (by decide +kernel) (PySem.W.mg_none_of X G z2) (PySem.W.mg_none_of X G z11) (PySem.W.mg_none_of X G z0)).mono (by omega))
    l16 c16 sc_law rfl rfl (by decide +kernel) (by first | exact .inl (by decide +kernel) | exact .inr (by decide +kernel)) (by decide +kernel) ck_law ?_
  refine Mp.T.Wc_of_W _ _ (W_iff.mp (law_k42 20)) ?_
  have h1 := wts_law
  rw [Bool.and_eq_true, decide_eq_true_eq] at h1
  have hp : 1 ≤ QQ ^ 30 := Nat.pow_pos QQ_pos
  exact Mp.T.Few.mono _ (Nat.le_trans (w_scSs hp B_law_30) h1.2) (few_Ss (B := fun f => QQ ^ 30 * wts f) (fun f vs => few_call _ f vs) B_law_30 _ (k_scSs hp B_law_30 h1.1))
end Mp
open PySem PySem.W PyProof.Rows
set_option maxHeartbeats 0 in
theorem PySem.Challenge.cw_mergelevels_k42_tables_compared_holds : PySem.Challenge.rw_mergelevels_k42_tables_compared.Holds := by
  w_on; o_law; k_head; (case hw => w_witness2)
  k_fill
  refine Mp.walk_ofG (l := PySem.Challenge.rw_mergelevels_k42_tables_compared) (n := 63) (k := 32) (x := Str.ofString "_law_script") rfl (by decide) rfl ⟨rfl, by decide, by decide⟩ (fun w h Y => PySem.W.kIn_of Y) ?F
  case F =>
    intro w mg fa h KX G hmg
    refine' Mp.all_mk KX G hmg ?a0 ?l0 ?c0 ?k0 ?a1 ?l1 ?c1 ?k1 ?a2 ?l2 ?c2 ?k2 ?a3 ?l3 ?c3 ?k3 ?a4 ?l4 ?c4 ?k4 ?a5 ?l5 ?c5 ?k5 ?a6 ?l6 ?c6 ?k6 ?a7 ?l7 ?c7 ?k7 ?a8 ?l8 ?c8 ?k8 ?a9 ?l9 ?c9 ?k9 ?a10 ?l10 ?c10 ?k10 ?a11 ?l11 ?c11 ?k11 ?a12 ?l12 ?c12 ?k12 ?a13 ?l13 ?c13 ?k13 ?a14 ?l14 ?c14 ?k14 ?a15 ?l15 ?c15 ?k15 ?a16 ?l16 ?c16 ?k16 ?a17 ?l17 ?c17 ?k17 ?a18 ?l18 ?c18 ?k18 ?z0 ?z1 ?z2 ?z3 ?z4 ?z5 ?z6 ?z7 ?z8 ?z9 ?z10 ?z11 ?z12 ?z13 ?z14 ?z15 ?z16 ?z17 ?z18 ?z19 ?z20 ?z21 ?hx2 ?hx4 ?hx7 ?hx8 ?hx9
    (case a0 => k_is)
    (case l0 => k_is)
    (case c0 => k_is)
    (case k0 => k_is)
    (case a1 => k_is)
    (case l1 => k_is)
    (case c1 => k_is)
    (case k1 => k_is)
    (case a2 => k_is)
    (case l2 => k_is)
    (case c2 => k_is)
    (case k2 => k_is)
    (case a3 => k_is)
    (case l3 => k_is)
    (case c3 => k_is)
    (case k3 => k_is)
    (case a4 => k_is)
    (case l4 => k_is)
    (case c4 => k_is)
    (case k4 => k_is)
    (case a5 => k_is)
    (case l5 => k_is)
    (case c5 => k_is)
    (case k5 => k_is)
    (case a6 => k_is)
    (case l6 => k_is)
    (case c6 => k_is)
    (case k6 => k_is)
    (case a7 => k_is)
    (case l7 => k_is)
    (case c7 => k_is)
    (case k7 => k_is)
    (case a8 => k_is)
    (case l8 => k_is)
    (case c8 => k_is)
    (case k8 => k_is)
    (case a9 => k_is)
    (case l9 => k_is)
    (case c9 => k_is)
    (case k9 => k_is)
    (case a10 => k_is)
    (case l10 => k_is)
    (case c10 => k_is)
    (case k10 => k_is)
    (case a11 => k_is)
    (case l11 => k_is)
    (case c11 => k_is)
    (case k11 => k_is)
    (case a12 => k_is)
    (case l12 => k_is)
    (case c12 => k_is)
    (case k12 => k_is)
    (case a13 => k_is)
    (case l13 => k_is)
    (case c13 => k_is)
    (case k13 => k_is)
    (case a14 => k_is)
    (case l14 => k_is)
    (case c14 => k_is)
    (case k14 => k_is)
    (case a15 => k_is)
    (case l15 => k_is)
    (case c15 => k_is)
    (case k15 => k_is)
    (case a16 => k_is)
    (case l16 => k_is)
    (case c16 => k_is)
    (case k16 => k_is)
    (case a17 => k_is)
    (case l17 => k_is)
    (case c17 => k_is)
    (case k17 => k_is)
    (case a18 => k_is)
    (case l18 => k_is)
    (case c18 => k_is)
    (case k18 => k_is)
    (case z0 => k_is)
    (case z1 => k_is)
    (case z2 => k_is)
    (case z3 => k_is)
    (case z4 => k_is)
    (case z5 => k_is)
    (case z6 => k_is)
    (case z7 => k_is)
    (case z8 => k_is)
    (case z9 => k_is)
    (case z10 => k_is)
    (case z11 => k_is)
    (case z12 => k_is)
    (case z13 => k_is)
    (case z14 => k_is)
    (case z15 => k_is)
    (case z16 => k_is)
    (case z17 => k_is)
    (case z18 => k_is)
    (case z19 => k_is)
    (case z20 => k_is)
    (case z21 => k_is)
    (case hx2 => (refine' Mp.xks_of ⟨by decide, by decide⟩ ?aC2 ?xL2 ?ea2 ?eb2 ?ec2 ?sa2 ?ga2 ?gg2 ?kC2 ?eC2 ?tC2 ?ca2 ?cn2 ?ct2 ?cm2 ?mk2; (case aC2 => k_is); (case xL2 => k_is); (case ea2 => decide +kernel); (case eb2 => rfl); (case ec2 => rfl); (case sa2 => k_is); (case ga2 => k_is); (case gg2 => k_is); (case kC2 => k_is); (case eC2 => k_is); (case tC2 => k_is); (case ca2 => k_is); (case cn2 => k_is); (case ct2 => k_is); (case cm2 => k_is); (case mk2 => (refine' Mp.xmk_0 rfl ?qx2; (case qx2 => (show PySem.W.excIn _ _ [.type "ValueError", .type "Exception", .type "BaseException", .type "object"] "ValueError.__new__" = true; k_exc))))))
    (case hx4 => (refine' Mp.xks_of ⟨by decide, by decide⟩ ?aC4 ?xL4 ?ea4 ?eb4 ?ec4 ?sa4 ?ga4 ?gg4 ?kC4 ?eC4 ?tC4 ?ca4 ?cn4 ?ct4 ?cm4 ?mk4; (case aC4 => k_is); (case xL4 => k_is); (case ea4 => decide +kernel); (case eb4 => rfl); (case ec4 => rfl); (case sa4 => k_is); (case ga4 => k_is); (case gg4 => k_is); (case kC4 => k_is); (case eC4 => k_is); (case tC4 => k_is); (case ca4 => k_is); (case cn4 => k_is); (case ct4 => k_is); (case cm4 => k_is); (case mk4 => (refine' Mp.xmk_1 (f := Str.ofString "item") rfl (by decide +kernel) ?nf4 ?iC4 ?tI4 ?lk4 ?hcd4 ?e04 ?e14 ?e24 ?e34 ?e44 ?e54 ?hbd4; (case nf4 => k_is); (case iC4 => k_is); (case tI4 => k_is); (case lk4 => k_is); (case hcd4 => k_is); (case e04 => rfl); (case e14 => rfl); (case e24 => rfl); (case e34 => rfl); (case e44 => rfl); (case e54 => rfl); (case hbd4 => (intro a b; rfl))))))
    (case hx7 => (refine' Mp.xks_of ⟨by decide, by decide⟩ ?aC7 ?xL7 ?ea7 ?eb7 ?ec7 ?sa7 ?ga7 ?gg7 ?kC7 ?eC7 ?tC7 ?ca7 ?cn7 ?ct7 ?cm7 ?mk7; (case aC7 => k_is); (case xL7 => k_is); (case ea7 => decide +kernel); (case eb7 => rfl); (case ec7 => rfl); (case sa7 => k_is); (case ga7 => k_is); (case gg7 => k_is); (case kC7 => k_is); (case eC7 => k_is); (case tC7 => k_is); (case ca7 => k_is); (case cn7 => k_is); (case ct7 => k_is); (case cm7 => k_is); (case mk7 => (refine' Mp.xmk_1 (f := Str.ofString "index") rfl (by decide +kernel) ?nf7 ?iC7 ?tI7 ?lk7 ?hcd7 ?e07 ?e17 ?e27 ?e37 ?e47 ?e57 ?hbd7; (case nf7 => k_is); (case iC7 => k_is); (case tI7 => k_is); (case lk7 => k_is); (case hcd7 => k_is); (case e07 => rfl); (case e17 => rfl); (case e27 => rfl); (case e37 => rfl); (case e47 => rfl); (case e57 => rfl); (case hbd7 => (intro a b; rfl))))))
    (case hx8 => (refine' Mp.xks_of ⟨by decide, by decide⟩ ?aC8 ?xL8 ?ea8 ?eb8 ?ec8 ?sa8 ?ga8 ?gg8 ?kC8 ?eC8 ?tC8 ?ca8 ?cn8 ?ct8 ?cm8 ?mk8; (case aC8 => k_is); (case xL8 => k_is); (case ea8 => decide +kernel); (case eb8 => rfl); (case ec8 => rfl); (case sa8 => k_is); (case ga8 => k_is); (case gg8 => k_is); (case kC8 => k_is); (case eC8 => k_is); (case tC8 => k_is); (case ca8 => k_is); (case cn8 => k_is); (case ct8 => k_is); (case cm8 => k_is); (case mk8 => (refine' Mp.xmk_1 (f := Str.ofString "levels") rfl (by decide +kernel) ?nf8 ?iC8 ?tI8 ?lk8 ?hcd8 ?e08 ?e18 ?e28 ?e38 ?e48 ?e58 ?hbd8; (case nf8 => k_is); (case iC8 => k_is); (case tI8 => k_is); (case lk8 => k_is); (case hcd8 => k_is); (case e08 => rfl); (case e18 => rfl); (case e28 => rfl); (case e38 => rfl); (case e48 => rfl); (case e58 => rfl); (case hbd8 => (intro a b; rfl))))))
    (case hx9 => (refine' Mp.xks_of ⟨by decide, by decide⟩ ?aC9 ?xL9 ?ea9 ?eb9 ?ec9 ?sa9 ?ga9 ?gg9 ?kC9 ?eC9 ?tC9 ?ca9 ?cn9 ?ct9 ?cm9 ?mk9; (case aC9 => k_is); (case xL9 => k_is); (case ea9 => decide +kernel); (case eb9 => rfl); (case ec9 => rfl); (case sa9 => k_is); (case ga9 => k_is); (case gg9 => k_is); (case kC9 => k_is); (case eC9 => k_is); (case tC9 => k_is); (case ca9 => k_is); (case cn9 => k_is); (case ct9 => k_is); (case cm9 => k_is); (case mk9 => (refine' Mp.xmk_2 (f := Str.ofString "one") (g := Str.ofString "other") rfl (by decide +kernel) (by decide +kernel) (by decide +kernel) ?nf9 ?ng9 ?iC9 ?tI9 ?lk9 ?hcd9 ?e09 ?e19 ?e29 ?e39 ?e49 ?e59 ?hbd9; (case nf9 => k_is); (case ng9 => k_is); (case iC9 => k_is); (case tI9 => k_is); (case lk9 => k_is); (case hcd9 => k_is); (case e09 => rfl); (case e19 => rfl); (case e29 => rfl); (case e39 => rfl); (case e49 => rfl); (case e59 => rfl); (case hbd9 => (intro a b c; rfl))))))
