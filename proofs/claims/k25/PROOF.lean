import PyProof.Rows.All
import Wide.All
import OpenK.AllK
import Wide.FinOn
import HandS.Iter
import HandS.Walk
import HandS.Zip
import HandS.TupMul
import HandS.ForMost
import HandS.ForExc
import HandS.CallSlots
import HandS.TupAny
import HandS.Deep
import HandS.SortInts
import HandS.TupLe
import HandS.TupLen
import HandS.SortOrd
import HandS.Dict
import HandS.Style
import HandS.WideBits
import HandS.Conv
import HandS.Text
import HandS.WordsDict
import HandS.IsInst
import HandS.More
import HandS.Codes
import HandS.Comp
import HandS.Small
import HandS.CallRecv
import HandS.Defaults
import HandS.Head0
import HandS.Head1
import HandS.Head2
import HandS.HeadEnd
import HandS.HeadHook1
import HandS.HeadHook2
import HandS.HeadHook3
import HandS.HeadHook4
import HandS.Ends
import HandS.Words
import PySem.Challenge.RW_latestword_k25_whole_newer_news
set_option Elab.async false
set_option linter.all false
set_option maxRecDepth 100000
set_option maxHeartbeats 4000000
/-! enumerate over tuples: as the library has it for lists -/
namespace Ev
open PySem PySem.Spec L2 PyProof.Rows
open PySem.Sem (wp)
open PySem.AutoSeq1 (wpAny_loadPart')

theorem meets_enum_newT (l : Addr) (items : Array Value) (n : Nat) (dct : Option Addr) (sl : Array (Option Value)) :
    Meets (Builtin.«enumerate.__new__» ⟨[.type "enumerate", .ref l], []⟩) (fun _ R s => s.heap.get? l = some { cls := .type "tuple", dict := dct, data := .seq items n, slots := sl } ∧
      R (.ok (.ret (.ref (s.heap.push { cls := .type "tuple_iterator", data := .fields #[.ref l, .int 0 0] }).objs.size)))
        { s with heap := (s.heap.push { cls := .type "tuple_iterator", data := .fields #[.ref l, .int 0 0] }).push { cls := .type "enumerate", data := .fields #[.none, .bool false, .ref s.heap.objs.size, rawInt 0, .none, .none] } }) :=
  .of_wp fun prog w A R s h => by
    obtain ⟨hp, g, d, tk, os⟩ := s; obtain ⟨hl, h⟩ := h
    have hsub := sub_enumerate
    have hL : Heap.IsTuple (Shared.heap ⟨hp, g, d, tk, os⟩) l items := ⟨_, hl, rfl, n, rfl⟩
    wp_walk using wpAny_loadPart' hl
    refine wpAny_stack_any fun st => wpAny_pure ?_
    split
    · rename_i c _ _ _ _ _
      cases (c == Value.type "enumerate")
      · wp_walk using wpAny_loadPart' hl, wpAny_pyIter_tuple hL
        exact ⟨_, rfl, h⟩
      · wp_walk using wpAny_loadPart' hl, wpAny_pyIter_tuple hL
        exact ⟨_, rfl, h⟩
    · wp_walk using wpAny_loadPart' hl, wpAny_pyIter_tuple hL
      exact ⟨_, rfl, h⟩
section
variable {prog : Program} {w : World} {A : Around} {E : Value → Shared → Prop} {s : Shared}
theorem enum_next_itemT {e it l : Addr} {i : Nat} {items : Array Value} {x old : Value} {Q : Value → Shared → Prop}
    (he : IsEnum s.heap e it i old) (hit : s.heap.IsTupleIter it l i) (hl : s.heap.IsTuple l items) (hx : items[i]? = some x) (hne : e ≠ it)
    (hQ : ∀ h', IsEnumOut h' e it ((i : Int) + 1) x s.heap.objs.size → h'.IsTupleIter it l (i + 1) →
      h'.get? s.heap.objs.size = some { cls := .type "tuple", data := .seq #[.int i s.toks, x] } → h'.objs.size = s.heap.objs.size + 1 →
      (∀ b o, b ≠ e → b ≠ it → s.heap.get? b = some o → h'.get? b = some o) → Q (.ref s.heap.objs.size) { s with heap := h', toks := s.toks + 1 }) :
    wpAny (model prog w) A (Builtin.«enumerate.__next__» ⟨[.ref e], []⟩) (fun fin s' => ∃ v, fin = .done (.ret v) ∧ Q v s') E s := by
  obtain ⟨hp, g, d, tk, os⟩ := s
  show wpAny _ _ (field (.ref e) 2 >>= _) _ _ _
  refine wpAny_bind (wpAny_field he rfl (x := .ref it) rfl ?_)
  refine wpAny_bind (RZ.nextOf_tuple_item hit hl hx fun h₁ hit₁ hs₁ => ?_)
  replace hs₁ : Heap.SameBut it hp h₁ := hs₁
  have he₁ : IsEnum h₁ e it i old := (hs₁.2 e hne).trans he
  show wpAny _ _ (field (.ref e) 3 >>= _) _ _ ⟨h₁, g, d, tk, os⟩
  refine wpAny_bind (wpAny_field he₁ rfl (x := rawInt i) rfl ?_)
  show wpAny _ _ (field (.ref e) 4 >>= _) _ _ ⟨h₁, g, d, tk, os⟩
  refine wpAny_bind (wpAny_field he₁ rfl (x := .none) rfl ?_)
  show wpAny _ _ (mkInt i >>= _) _ _ ⟨h₁, g, d, tk, os⟩
  refine wpAny_bind (wpAny_mkInt ?_)
  show wpAny _ _ (setField (.ref e) 3 (rawInt ((i : Int) + 1)) >>= _) _ _ ⟨h₁, g, d, tk + 1, os⟩
  refine wpAny_bind (wpAny_setField_rec he₁ (by simp) fun h₂ he₂ hs₂ => ?_)
  replace hs₂ : Heap.SameBut e h₁ h₂ := hs₂
  replace he₂ : IsEnum h₂ e it ((i : Int) + 1) old := he₂
  show wpAny _ _ (setField (.ref e) 4 .none >>= _) _ _ ⟨h₂, g, d, tk + 1, os⟩
  refine wpAny_bind (wpAny_setField_rec he₂ (by simp) fun h₃ he₃ hs₃ => ?_)
  replace hs₃ : Heap.SameBut e h₂ h₃ := hs₃
  replace he₃ : IsEnum h₃ e it ((i : Int) + 1) old := he₃
  show wpAny _ _ (newTuple [.int i tk, x] >>= _) _ _ ⟨h₃, g, d, tk + 1, os⟩
  refine wpAny_bind (wpAny_newTuple ?_)
  have he₄ : IsEnum (h₃.push { cls := .type "tuple", data := .seq #[.int i tk, x] }) e it ((i : Int) + 1) old := Heap.get?_push_of_some _ he₃
  generalize hh₄ : h₃.push { cls := .type "tuple", data := .seq #[.int i tk, x] } = h₄ at he₄
  have hsz : h₃.objs.size = hp.objs.size := by rw [hs₃.1, hs₂.1, hs₁.1]
  have hel : e < hp.objs.size := Heap.lt_size he
  have ht₄ : h₄.get? hp.objs.size = some { cls := .type "tuple", data := .seq #[.int i tk, x] } := by rw [← hh₄, ← hsz]; exact Heap.get?_push_size _ rfl
  have hz₄ : h₄.objs.size = hp.objs.size + 1 := by rw [← hh₄, Heap.size_push, hsz]
  have hk₄ : ∀ b o, b ≠ e → b ≠ it → hp.get? b = some o → h₄.get? b = some o := fun b o hbe hbi hb => by
    rw [← hh₄]; exact Heap.get?_push_of_some _ (hs₃.extBut b o hbe (hs₂.extBut b o hbe (hs₁.extBut b o hbi hb)))
  have hit₄ : h₄.IsTupleIter it l (i + 1) := by
    rw [← hh₄]; obtain ⟨o, ho, r⟩ := (hit₁.extBut hs₂.extBut (Ne.symm hne)).extBut hs₃.extBut (Ne.symm hne); exact ⟨o, Heap.get?_push_of_some _ ho, r⟩
  show wpAny _ _ (Builtin.SmallTypes.ownedTupleIsFree (.ref e) >>= _) _ _ ⟨h₄, g, d, tk + 1, os⟩
  rw [hsz]
  clear hh₄ he₃ hs₃ he₂ hs₂ he₁ hs₁ hit₁ hsz h₃ h₂ h₁
  refine wpAny_bind ?_
  · unfold Builtin.SmallTypes.ownedTupleIsFree
    refine wpAny_bind (wpAny_field he₄ rfl (x := .none) rfl (wpAny_pure ?_))
    simp only [if_true]
    refine wpAny_bind (wpAny_rule ?_)
    refine wpAny_bind (wpAny_field he₄ rfl (x := old) rfl ?_)
    refine wpAny_bind (wpAny_setField_rec he₄ (by simp) fun h₅ he₅ hs₅ => ?_)
    replace hs₅ : Heap.SameBut e h₄ h₅ := hs₅
    replace he₅ : IsEnum h₅ e it ((i : Int) + 1) x := he₅
    show wpAny _ _ (Builtin.SmallTypes.ownedTupleHandOut (.ref e) (.ref hp.objs.size) >>= _) _ _ ⟨h₅, g, d, tk + 1, os⟩
    refine wpAny_bind ?_
    · unfold Builtin.SmallTypes.ownedTupleHandOut
      refine wpAny_bind (wpAny_setField_rec he₅ (by simp) fun h₆ he₆ hs₆ => ?_)
      replace hs₆ : Heap.SameBut e h₅ h₆ := hs₆
      replace he₆ : IsEnumOut h₆ e it ((i : Int) + 1) x hp.objs.size := he₆
      refine wpAny_setField_rec he₆ (by simp) fun h₇ he₇ hs₇ => ?_
      replace hs₇ : Heap.SameBut e h₆ h₇ := hs₇
      replace he₇ : IsEnumOut h₇ e it ((i : Int) + 1) x hp.objs.size := he₇
      refine wpAny_bind (wpAny_letGo (wpAny_pure ⟨_, rfl, hQ h₇ he₇ ?_ ?_ ?_ ?_⟩))
      · exact ((hit₄.extBut hs₅.extBut (Ne.symm hne)).extBut hs₆.extBut (Ne.symm hne)).extBut hs₇.extBut (Ne.symm hne)
      · exact hs₇.extBut _ _ (Nat.ne_of_gt hel) (hs₆.extBut _ _ (Nat.ne_of_gt hel) (hs₅.extBut _ _ (Nat.ne_of_gt hel) ht₄))
      · rw [hs₇.1, hs₆.1, hs₅.1, hz₄]
      · exact fun b o hbe hbi hb => hs₇.extBut b o hbe (hs₆.extBut b o hbe (hs₅.extBut b o hbe (hk₄ b o hbe hbi hb)))
theorem pyNext_enumT_item {e it l : Addr} {i : Nat} {items : Array Value} {x old : Value} {Q : Option Value → Shared → Prop}
    (he : IsEnum s.heap e it i old) (hit : s.heap.IsTupleIter it l i) (hl : s.heap.IsTuple l items) (hx : items[i]? = some x) (hne : e ≠ it)
    (hQ : ∀ h', IsEnumOut h' e it ((i : Int) + 1) x s.heap.objs.size → h'.IsTupleIter it l (i + 1) →
      h'.get? s.heap.objs.size = some { cls := .type "tuple", data := .seq #[.int i s.toks, x] } → h'.objs.size = s.heap.objs.size + 1 →
      (∀ b o, b ≠ e → b ≠ it → s.heap.get? b = some o → h'.get? b = some o) → Q (some (.ref s.heap.objs.size)) { s with heap := h', toks := s.toks + 1 }) :
    wpAny (model prog w) A (pyNext (.ref e)) Q E s := by
  have hT : s.TypeIs (.ref e) "enumerate" := ⟨_, he, rfl⟩
  unfold pyNext
  exact wpAny_bind (wpAny_attempt (wpAny_callSpecial?_slot (name := Str.ofString "__next__") hT F.slot_enumerate_next
    (wpAny_call_entry F.slot_enumerate_next hT F.entry_enumerate_next
      (enum_next_itemT he hit hl hx hne fun h' a b c d k => wpAny_pure (hQ h' a b c d k)) (F.args_enumerate_next_1 _))))
theorem pyNext_enumT_end {e it l : Addr} {i : Nat} {items : Array Value} {old : Value} {Q : Option Value → Shared → Prop} (hh : A.handled = none)
    (he : IsEnum s.heap e it i old) (hit : s.heap.IsTupleIter it l i) (hl : s.heap.IsTuple l items) (hx : items[i]? = none)
    (hQ : ∀ h', Heap.ExtBut it s.heap h' → Q none { s with heap := h' }) : wpAny (model prog w) A (pyNext (.ref e)) Q E s := by
  have hT : s.TypeIs (.ref e) "enumerate" := ⟨_, he, rfl⟩
  unfold pyNext
  refine wpAny_bind (wpAny_attempt (wpAny_callSpecial?_slot (name := Str.ofString "__next__") hT F.slot_enumerate_next
    (wpAny_call_entry F.slot_enumerate_next hT F.entry_enumerate_next ?_ (F.args_enumerate_next_1 _))))
  show wpAny _ _ (field (.ref e) 2 >>= _) _ _ _
  refine wpAny_bind (wpAny_field he rfl (x := .ref it) rfl ?_)
  refine wpAny_bind (RZ.nextOf_tuple_end hh hit hl hx fun h' x he' hx' => ?_)
  obtain ⟨o, ho, hc⟩ := hx'
  refine wpAny_bind (wpAny_isInstance (T := "StopIteration") (b := true) ⟨o, ho, hc⟩ isSubtype_stop ?_)
  exact wpAny_pure (hQ _ he')
theorem call_enumT {l : Addr} {items : Array Value} {Q : Value → Shared → Prop} (hL : s.heap.IsTuple l items)
    (h : ∀ h', IsEnum h' (s.heap.objs.size + 1) s.heap.objs.size 0 .none → h'.IsTupleIter s.heap.objs.size l 0 → h'.objs.size = s.heap.objs.size + 2 →
      (∀ b o, s.heap.get? b = some o → h'.get? b = some o) → Q (.ref (s.heap.objs.size + 1)) { s with heap := h' }) :
    wpAny (model prog w) A (call (.type "enumerate") [.ref l]) Q E s := by
  obtain ⟨⟨c, dct, dt, sl⟩, hl, hc, n, hd⟩ := hL
  replace hc : c = .type "tuple" := hc
  replace hd : dt = .seq items n := hd
  subst hc hd
  refine callType_new F.called_enumerate (by decide) (F.typeCall_enumerate_1 _) (F.newCall_enumerate_1 _) (fun obj => F.args_object_init_2 obj _) F.entry_enumerate_new
    (meets_enum_newT l items n dct sl) ⟨hl, ?_⟩
  have hz : (s.heap.push { cls := .type "tuple_iterator", data := .fields #[.ref l, .int 0 0] }).objs.size = s.heap.objs.size + 1 := Heap.size_push ..
  show _ ∧ _
  rw [hz]
  have he : IsEnum ((s.heap.push { cls := .type "tuple_iterator", data := .fields #[.ref l, .int 0 0] }).push
      { cls := .type "enumerate", data := .fields #[.none, .bool false, .ref s.heap.objs.size, rawInt 0, .none, .none] }) (s.heap.objs.size + 1) s.heap.objs.size 0 .none := by
    have := Heap.get?_push_size (s.heap.push { cls := .type "tuple_iterator", data := .fields #[.ref l, .int 0 0] })
      (o := { cls := .type "enumerate", data := .fields #[.none, .bool false, .ref s.heap.objs.size, rawInt 0, .none, .none] }) rfl
    rw [hz] at this; exact this
  refine ⟨⟨_, he, rfl⟩, h _ he ⟨_, Heap.get?_push_of_some _ (Heap.get?_push_size _ rfl), rfl, rfl⟩ (by rw [Heap.size_push, hz]) fun b o x => Heap.get?_push_of_some _ (Heap.get?_push_of_some _ x)⟩
end
def ItT (K : PySem.W.Frag) (a : Addr) : It :=
  ⟨fun i H => ∃ (xs : List V) (x : V), SqT K H a xs ∧ xs[i]? = some x, fun i H v H' => ∃ T x, v = .ref T ∧ H T = none ∧ H' = upd H T (.tup [.int (i : Nat), x]) ∧ ∀ xs, SqT K H a xs → xs[i]? = some x, fun i H => ∃ xs : List V, SqT K H a xs ∧ xs.length ≤ i⟩
theorem turn_enumT {P : Program} {w : World} {K : PySem.W.Frag} {elts : List Expr} {kk : Nat} {tpos : Pos} (a e it : Addr) :
    Turn P w K (.Tuple elts kk tpos) (ItT K a) [e, it] e (fun i h => (∃ old, IsEnum h e it ((i : Nat) : Int) old) ∧ h.IsTupleIter it a i ∧ e ≠ it) where
  mem := by simp
  obj := fun i h st b hb => by
    obtain ⟨⟨old, he⟩, ⟨o, ho, hc, hd⟩, _⟩ := st
    have e' : b = e ∨ b = it := by simpa using hb
    rcases e' with z | z
    · rw [z]; exact ⟨_, he, fun v q => nomatch q⟩
    · rw [z]; exact ⟨o, ho, fun v q => by rw [hd] at q; cases q⟩
  keep := fun i h h' st k => let ⟨⟨old, he⟩, hi, hne⟩ := st; ⟨⟨old, k e (by simp) _ he⟩, hi.at fun o q => k it (by simp) o q, hne⟩
  item := by
    intro X hP hw hK hc i pins s σ H E I hf st hg
    subst hP hw hK
    obtain ⟨⟨old, he⟩, hit, hne⟩ := st
    obtain ⟨xs, x, hq, hx⟩ := hg
    obtain ⟨its, rv, p, _⟩ := I.tuple hq
    obtain ⟨u, hu, ru⟩ := rv.get hx
    have hel : e < s.heap.objs.size := Heap.lt_size he
    have hil : it < s.heap.objs.size := by obtain ⟨_, q, _⟩ := hit; exact Heap.lt_size q
    refine pyNext_enumT_item he hit p (x := u) (by simpa using hu) hne fun h' ho hit' hT hsz hk => ?_
    refine ⟨_, rfl, wpAny_letOwnedTupleGo_enum (s := { s with heap := h', toks := s.toks + 1 }) ho fun h'' he' sb => ?_⟩
    have hT2 : h''.get? s.heap.objs.size = some { cls := .type "tuple", data := .seq #[.int i s.toks, u] } := (sb.2 _ (Nat.ne_of_gt hel)).trans hT
    have new : ObjOk X.prog X.w (upd H s.heap.objs.size (.tup [.int (i : Nat), x])) h'' s.heap.objs.size (.tup [.int (i : Nat), x]) :=
      ⟨by show 2 ≤ sizeLine; decide, [.int i s.toks, u], .cons ⟨_, rfl⟩ (.cons ru .nil), ⟨_, hT2, rfl, _, rfl⟩⟩
    have I1 : Inv X pins σ (upd H s.heap.objs.size (.tup [.int (i : Nat), x])) { s with heap := h'', toks := s.toks + 1 } :=
      I.turnedNew (ch := [e, it]) (fun b ob hb q => (sb.2 b (fun z => hb (by simp [z]))).trans (hk b ob (fun z => hb (by simp [z])) (fun z => hb (by simp [z])) q)) hf (Nat.le_refl _) new
    refine ⟨.ref s.heap.objs.size, _, I1, rfl, ⟨_, x, rfl, I.hok.fresh (Nat.le_refl _), rfl, fun ys hy => by rw [I.tuple_inj hy hq]; exact hx⟩, ⟨⟨u, ?_⟩, hit'.at fun o q => (sb.2 it (Ne.symm hne)).trans q, hne⟩, fun b hb => ?_⟩
    · have e1 : ((i + 1 : Nat) : Int) = (i : Int) + 1 := by omega
      rw [e1]; exact he'
    · have hb' : b < s.heap.objs.size := by
        have e' : b = e ∨ b = it := by simpa using hb
        rcases e' with z | z
        · rw [z]; exact hel
        · rw [z]; exact hil
      rw [upd_ne (Nat.ne_of_lt hb')]
      exact (hf b hb).1
  done := by
    intro X hP hw hK hc i pins s σ H E I hf st hg
    subst hP hw hK
    obtain ⟨⟨old, he⟩, hit, hne⟩ := st
    obtain ⟨xs, hq, hx⟩ := hg
    obtain ⟨its, rv, p, _⟩ := I.tuple hq
    obtain ⟨f0, f1, f2, f3, f4, f5⟩ := hf it (by simp)
    have hl := rv.length
    exact pyNext_enumT_end (I.ok.hd hc) he hit p (by simp; omega) fun h' eb => ⟨rfl, I.turned (t' := s.toks) (fun b o hb q => eb b o hb q) f0 f1 f3 f4 f5⟩
  self := fun A i s Q E st h => let ⟨⟨_, he⟩, _⟩ := st; wpAny_pyIter_enum he h
def iEnumT (K : PySem.W.Frag) (ta : TA) : TI := fun σ H R => ta σ H fun vs H1 => ∃ a xs, vs = [.ref a] ∧ SqT K H1 a xs ∧ R (ItT K a) H1
theorem pi_enumT {X : Cx} {e : Expr} {ta : TA} {p pos tpos : Pos} {elts : List Expr} {kk : Nat} (hg : Gl X "enumerate") (hm : X.mg "enumerate" = none) (ha : PA X [e] ta) (hs : starEach [e] X.env = [(false, eval e X.env)] := by rfl) :
    PI X (.Tuple elts kk tpos) (.Call (.Name "enumerate" p) [e] [] pos) (iEnumT X.K ta) := by
  refine ⟨fun pins s σ H R I h => ?_⟩
  refine Call_ (ld_blt I hg hm boot_enumerate (PyProof.Rows.callWith_type1 (thn (ha.run pos pins s σ H _ I h) fun us s1 ⟨vs, H1, I1, r1, q1⟩ => ?_) hs rfl))
  obtain ⟨a, xs, ex, hq, q⟩ := q1
  subst ex
  cases r1 with
  | cons r rr =>
    cases rr
    cases r
    obtain ⟨its, rv, p', _⟩ := I1.tuple hq
    refine call_enumT p' fun h' he hit hsz hk => wpAny_pyIter_enum he ?_
    have I2 : Inv X pins σ H1 { s1 with heap := h' } := I1.kept (t' := s1.toks) hk
    refine ⟨s1.heap.objs.size + 1, [s1.heap.objs.size + 1, s1.heap.objs.size], _, _, H1, rfl, I2, turn_enumT a (s1.heap.objs.size + 1) s1.heap.objs.size, ⟨⟨.none, he⟩, hit, Nat.succ_ne_self _⟩, fun b hb => ?_, q⟩
    have e' : b = s1.heap.objs.size + 1 ∨ b = s1.heap.objs.size := by simpa using hb
    have hle : s1.heap.objs.size ≤ b := by
      rcases e' with z | z
      · rw [z]; exact Nat.le_add_right _ _
      · rw [z]; exact Nat.le_refl _
    exact I1.fpOk hle (I1.hok.fresh hle)
theorem walk_enumT {K : PySem.W.Frag} {a : Addr} {xs : List V} : Walk (ItT K a) xs.length (fun H => SqT K H a xs) (YPair (fun i => some (.int (i : Nat))) (fun i => xs[i]?)) := by
  refine ⟨fun i _ hi q => ⟨xs, xs[i], q, by simp [hi]⟩, fun _ q => ⟨xs, q, Nat.le_refl _⟩, fun i H v H' _ q y => ?_⟩
  obtain ⟨T, x, h1, h2, h3, h4⟩ := y
  exact ⟨T, .int (i : Nat), x, h1, h2, h3, rfl, h4 xs q⟩
/-- enumerate over a list or a tuple -/
def iEnumA (K : PySem.W.Frag) (ta : TA) : TI := fun σ H R => ta σ H fun vs H1 => ∃ a xs, vs = [.ref a] ∧ ((SqL K H1 a xs ∧ R (Ite K a) H1) ∨ (SqT K H1 a xs ∧ R (ItT K a) H1))

theorem pi_enumA {X : Cx} {e : Expr} {ta : TA} {p pos tpos : Pos} {elts : List Expr} {kk : Nat} (hg : Gl X "enumerate") (hm : X.mg "enumerate" = none) (ha : PA X [e] ta) (hs : starEach [e] X.env = [(false, eval e X.env)] := by rfl) :
    PI X (.Tuple elts kk tpos) (.Call (.Name "enumerate" p) [e] [] pos) (iEnumA X.K ta) := by
  refine ⟨fun pins s σ H R I h => ?_⟩
  refine Call_ (ld_blt I hg hm boot_enumerate (PyProof.Rows.callWith_type1 (thn (ha.run pos pins s σ H _ I h) fun us s1 ⟨vs, H1, I1, r1, q1⟩ => ?_) hs rfl))
  obtain ⟨a, xs, ex, q1⟩ := q1
  subst ex
  cases r1 with
  | cons r rr =>
    cases rr
    cases r
    rcases q1 with ⟨hq, q⟩ | ⟨hq, q⟩
    · obtain ⟨its, rv, p', hz⟩ := I1.list hq
      refine call_enumerate_list p'.isList fun h' he hit hsz hk => wpAny_pyIter_enum he ?_
      have I2 : Inv X pins σ H1 { s1 with heap := h' } := I1.kept (t' := s1.toks) hk
      refine ⟨s1.heap.objs.size + 1, [s1.heap.objs.size + 1, s1.heap.objs.size], _, _, H1, rfl, I2, turn_enum a (s1.heap.objs.size + 1) s1.heap.objs.size, ⟨⟨.none, he⟩, hit, Nat.succ_ne_self _⟩, fun b hb => ?_, q⟩
      have e' : b = s1.heap.objs.size + 1 ∨ b = s1.heap.objs.size := by simpa using hb
      have hle : s1.heap.objs.size ≤ b := by
        rcases e' with z | z
        · rw [z]; exact Nat.le_add_right _ _
        · rw [z]; exact Nat.le_refl _
      exact I1.fpOk hle (I1.hok.fresh hle)
    · obtain ⟨its, rv, p', _⟩ := I1.tuple hq
      refine call_enumT p' fun h' he hit hsz hk => wpAny_pyIter_enum he ?_
      have I2 : Inv X pins σ H1 { s1 with heap := h' } := I1.kept (t' := s1.toks) hk
      refine ⟨s1.heap.objs.size + 1, [s1.heap.objs.size + 1, s1.heap.objs.size], _, _, H1, rfl, I2, turn_enumT a (s1.heap.objs.size + 1) s1.heap.objs.size, ⟨⟨.none, he⟩, hit, Nat.succ_ne_self _⟩, fun b hb => ?_, q⟩
      have e' : b = s1.heap.objs.size + 1 ∨ b = s1.heap.objs.size := by simpa using hb
      have hle : s1.heap.objs.size ≤ b := by
        rcases e' with z | z
        · rw [z]; exact Nat.le_add_right _ _
        · rw [z]; exact Nat.le_refl _
      exact I1.fpOk hle (I1.hok.fresh hle)
end Ev

set_option Elab.async false
set_option linter.all false
set_option maxRecDepth 100000
set_option maxHeartbeats 4000000
/-! tuple * int: once and never -/
namespace Ev
open PySem PySem.Spec L2 PyProof.Rows
theorem tuple_mul1 (l : Addr) (items : Array Value) (n : Nat) (dd : Option Addr) (sl : Array (Option Value)) (u : Tok) :
    Meets (Builtin.«tuple.__mul__» ⟨[.ref l, .int 1 u], []⟩) (fun _ R s => s.heap.get? l = some { cls := .type "tuple", dict := dd, data := .seq items n, slots := sl } ∧
      R (.ok (.ret (Value.ref l))) s) :=
  .of_wp fun prog w A R s h => by
    obtain ⟨hp, g, d, tk, os⟩ := s
    obtain ⟨hl, h⟩ := h
    have f1 := AutoSeq1.idx_int
    have c1 : (items.isEmpty || (1 : Int) == 1) = true := by simp
    wp_walk using wpAny_loadPart' hl
    repeat (first
      | (refine wpAny_ite_true (decide_eq_true (by rw [c1])) ?_; wp_walk using wpAny_loadPart' hl)
      | (refine wpAny_ite_true (by rw [c1]) ?_; wp_walk using wpAny_loadPart' hl))
    exact ⟨_, rfl, h⟩
theorem tuple_mul0 (l : Addr) (items : Array Value) (n : Nat) (dd : Option Addr) (sl : Array (Option Value)) (x : Int) (u : Tok) (c0 : (decide (x < -(2 ^ 63)) || decide (x ≥ 2 ^ 63)) = false) (c1 : (items.isEmpty || x == 1) = false) (c2 : (decide (x ≤ 0) || items.isEmpty) = true) :
    Meets (Builtin.«tuple.__mul__» ⟨[.ref l, .int x u], []⟩) (fun _ R s => s.heap.get? l = some { cls := .type "tuple", dict := dd, data := .seq items n, slots := sl } ∧
      R (.ok (.ret (Value.ref s.heap.objs.size))) { s with heap := s.heap.push { cls := Value.type "tuple", data := Data.seq #[] }, toks := s.toks }) :=
  .of_wp fun prog w A R s h => by
    obtain ⟨hp, g, d, tk, os⟩ := s
    obtain ⟨hl, h⟩ := h
    have f1 := AutoSeq1.idx_int
    wp_walk using wpAny_loadPart' hl
    repeat (first
      | (refine wpAny_ite_false (decide_eq_false (by rw [c0]; exact Bool.false_ne_true)) ?_; wp_walk using wpAny_loadPart' hl)
      | (refine wpAny_ite_false (decide_eq_false (by rw [c1]; exact Bool.false_ne_true)) ?_; wp_walk using wpAny_loadPart' hl)
      | (refine wpAny_ite_true (decide_eq_true (by rw [c2])) ?_; wp_walk using wpAny_loadPart' hl))
    exact ⟨_, rfl, h⟩
def rRepT1 (K : PySem.W.Frag) : R2 := fun x y H Q => ∃ l xs, x = .ref l ∧ y = .int 1 ∧ SqT K H l xs ∧ Q (.ref l) H
def rRepT0 (K : PySem.W.Frag) : R2 := fun x y H Q => ∃ l k xs, x = .ref l ∧ y = .int k ∧ SqT K H l xs ∧ xs ≠ [] ∧ -1000 ≤ k ∧ k ≤ 0 ∧ ∀ p, H p = none → Q (.ref p) (upd H p (.tup []))
section
variable {X : Cx}
theorem op_repT1 : OpR X (binaryOp .Mult) (rRepT1 X.K) := by
  intro pins s σ H x y v u Q I rx ry h
  obtain ⟨l, xs, rfl, rfl, hT, q⟩ := h
  cases rx
  obtain ⟨t, rfl⟩ := ry
  obtain ⟨its, r, ⟨⟨cls, dd, data, sl⟩, ho, hc, n, hd⟩, hs⟩ := I.tuple hT
  simp only at hc hd
  subst hc hd
  refine wpAny_binaryOp_repeat_ref (T := "tuple") (U := "int") (by decide) ⟨_, ho, rfl⟩ (fun s' => typeIs_int s' 1 t) noFill_tuple_mul F.fills_int_mul F.slot_int_rmul repeat_tuple F.slot_int_index.lookup
    (call_meets F.slot_int_rmul (typeIs_int s 1 t) F.entry_int_rmul (F.args_int_rmul_2 _ _) (int_rmul_tuple 1 t l its.toArray n dd sl)
      ⟨ho, rfl, ⟨_, ho, rfl⟩, call_meets F.slot_tuple_mul ⟨_, ho, rfl⟩ F.entry_tuple_mul (F.args_tuple_mul_2 _ _) (tuple_mul1 l its.toArray n dd sl t) ⟨ho, ?_⟩⟩)
  exact ⟨.ref l, _, I, rfl, q⟩
theorem op_repT0 : OpR X (binaryOp .Mult) (rRepT0 X.K) := by
  intro pins s σ H x y v u Q I rx ry h
  obtain ⟨l, k, xs, rfl, rfl, hT, hne, h1, h2, q⟩ := h
  cases rx
  obtain ⟨t, rfl⟩ := ry
  obtain ⟨its, r, ⟨⟨cls, dd, data, sl⟩, ho, hc, n, hd⟩, hs⟩ := I.tuple hT
  simp only at hc hd
  subst hc hd
  have hle : its.length = xs.length := r.length.symm
  have hn : its ≠ [] := fun e => hne (by
    rw [e] at hle
    exact List.eq_nil_of_length_eq_zero hle.symm)
  have hi : its.toArray.isEmpty = false := by
    cases its with
    | nil => exact absurd rfl hn
    | cons a b => rfl
  have c0 : (decide (k < -(2 ^ 63)) || decide (k ≥ 2 ^ 63)) = false := by
    rw [decide_eq_false (by omega), decide_eq_false (by omega)] <;> rfl
  have c1 : (its.toArray.isEmpty || k == 1) = false := by
    rw [hi, Bool.false_or]
    exact beq_eq_false_iff_ne.mpr (by omega)
  have c2 : (decide (k ≤ 0) || its.toArray.isEmpty) = true := by
    rw [decide_eq_true h2, Bool.true_or]
  refine wpAny_binaryOp_repeat_ref (T := "tuple") (U := "int") (by decide) ⟨_, ho, rfl⟩ (fun s' => typeIs_int s' k t) noFill_tuple_mul F.fills_int_mul F.slot_int_rmul repeat_tuple F.slot_int_index.lookup
    (call_meets F.slot_int_rmul (typeIs_int s k t) F.entry_int_rmul (F.args_int_rmul_2 _ _) (int_rmul_tuple k t l its.toArray n dd sl)
      ⟨ho, rfl, ⟨_, ho, rfl⟩, call_meets F.slot_tuple_mul ⟨_, ho, rfl⟩ F.entry_tuple_mul (F.args_tuple_mul_2 _ _) (tuple_mul0 l its.toArray n dd sl k t c0 c1 c2) ⟨ho, ?_⟩⟩)
  refine ⟨.ref s.heap.objs.size, _, I.laid (t' := s.toks) (o := .tup []) (fun b ob q => Heap.get?_push_of_some _ q) (Nat.le_refl _) ?_, rfl, q _ (I.hok.fresh (Nat.le_refl _))⟩
  exact ⟨by rw [sizeLine_eq]; simp, _, .nil, IsTup.new _ _⟩
end
end Ev

set_option Elab.async false
set_option linter.all false
set_option maxRecDepth 100000
set_option maxHeartbeats 4000000
namespace Ev
open PySem PySem.Spec L2

/-! ## data -/
inductive At where
  | non | bl (b : Bool) | int (i : Int) | str (x : Str)
  deriving DecidableEq
def At.v : At → V
  | .non => .non
  | .bl b => .bl b
  | .int i => .int i
  | .str x => .str x
inductive Kd where
  | tup | lst | scr
  | dk (ks : List Key)
  | dt (ks : List (List Key))
  | obj (c : Nat) (fs : List Nat)
  | rng (lo hi : Int)
  deriving DecidableEq
def Kd.imm : Kd → Bool
  | .tup => true
  | .rng _ _ => true
  | _ => false
@[simp] def Kd.scrR : Kd → Bool
  | .scr => true
  | .rng _ _ => true
  | _ => false
inductive D where
  | at (a : At)
  | nd (k : Kd) (m : Bool) (xs : List D)
abbrev D.non : D := .at .non
abbrev D.bl (b : Bool) : D := .at (.bl b)
abbrev D.int (i : Int) : D := .at (.int i)
abbrev D.str (x : Str) : D := .at (.str x)
abbrev D.tup (xs : List D) : D := .nd .tup false xs
abbrev D.lst (m : Bool) (xs : List D) : D := .nd .lst m xs

mutual
/-- no owned node within -/
def D.clean : D → Bool
  | .at _ => true
  | .nd _ m xs => !m && D.cleanL xs
def D.cleanL : List D → Bool
  | [] => true
  | x :: xs => D.clean x && D.cleanL xs
end
mutual
def D.frz : D → D
  | .at a => .at a
  | .nd k _ xs => .nd k false (D.frzL xs)
def D.frzL : List D → List D
  | [] => []
  | x :: xs => D.frz x :: D.frzL xs
end
theorem frzL_map : ∀ xs : List D, D.frzL xs = xs.map D.frz
  | [] => rfl
  | x :: xs => by rw [D.frzL, frzL_map xs]; rfl
theorem cleanL_all : ∀ xs : List D, D.cleanL xs = xs.all D.clean
  | [] => rfl
  | x :: xs => by rw [D.cleanL, cleanL_all xs]; rfl
mutual
theorem frz_clean : ∀ d : D, d.frz.clean = true
  | .at _ => rfl
  | .nd k m xs => by show (!false && D.cleanL (D.frzL xs)) = true; rw [frzL_clean xs]; rfl
theorem frzL_clean : ∀ xs : List D, D.cleanL (D.frzL xs) = true
  | [] => rfl
  | x :: xs => by show (D.clean (D.frz x) && D.cleanL (D.frzL xs)) = true; rw [frz_clean x, frzL_clean xs]; rfl
end
mutual
theorem frz_of_clean : ∀ d : D, d.clean = true → d.frz = d
  | .at _, _ => rfl
  | .nd k m xs, h => by
    have h : (!m && D.cleanL xs) = true := h
    rw [Bool.and_eq_true] at h
    show D.nd k false (D.frzL xs) = _
    rw [frzL_of_clean xs h.2]
    cases m with
    | false => rfl
    | true => exact absurd h.1 (by decide)
theorem frzL_of_clean : ∀ xs : List D, D.cleanL xs = true → D.frzL xs = xs
  | [], _ => rfl
  | x :: xs, h => by
    have h : (D.clean x && D.cleanL xs) = true := h
    rw [Bool.and_eq_true] at h
    show D.frz x :: D.frzL xs = _
    rw [frz_of_clean x h.1, frzL_of_clean xs h.2]
end

/-! ## what stands for data -/
/-- what the text's own things are: the written part, the classes' addresses by number, the fields' names by number, the exceptions' classes -/
structure Tab where
  K : PySem.W.Frag
  C : Nat → Addr
  nf : Nat
  f : Nat → Str
  X : Nat → Value
abbrev Fz := Addr → Prop
/-- the object o is a node of the kind k with the children vs -/
def IsHO (T : Tab) : Kd → List V → HO → Prop
  | .tup, vs, o => o = .tup vs
  | .lst, vs, o => o = .lst vs
  | .scr, vs, o => o = .lst vs
  | .dk ks, vs, o => ks.length = vs.length ∧ ks.Nodup ∧ o = .dK (ks.zip vs)
  | .dt ks, vs, o => ks.length = vs.length ∧ ks.Nodup ∧ o = .dT (ks.zip vs)
  | .obj c fs, vs, o => fs.length = vs.length ∧ (∀ f ∈ fs, f < T.nf) ∧ ∃ dx, o = .ins (T.C c) dx ((fs.map T.f).zip vs)
  | .rng lo hi, vs, o => vs = [] ∧ o = .rng lo hi
/-- .. of the written part -/
def IsK (T : Tab) : Kd → Addr → List V → Prop
  | .scr, a, vs => ∃ (o : Obj) (its : Array Value) (n : Nat), T.K.lookup a = some o ∧ o.cls = .type "list" ∧ o.dict = none ∧ o.data = .seq its n ∧ its.size ≤ sizeLine ∧ Vals vs its.toList
  | _, _, _ => False
def HK (T : Tab) (H : Hp) (fz : Fz) : Bool → Kd → Addr → List V → Prop
  | true, k, a, vs => k ≠ .tup ∧ k.scrR = false ∧ ∃ o, H a = some o ∧ IsHO T k vs o
  | false, k, a, vs => ((k.imm = true ∨ fz a) ∧ ∃ o, H a = some o ∧ IsHO T k vs o) ∨ (k = .scr ∧ fz a ∧ ∃ ob u, H a = some (.frz ob u) ∧ IsHO T k vs u) ∨ IsK T k a vs
/-- the owned places of a node -/
def OwnAt : Bool → Kd → Addr → List Addr → List Addr → Prop
  | true, _, a, G, F => F = a :: G
  | false, .tup, _, G, F => F = G
  | false, _, _, G, F => F = [] ∧ G = []
mutual
def Rep (T : Tab) (H : Hp) (fz : Fz) : D → V → List Addr → Prop
  | .at a, v, F => v = a.v ∧ F = []
  | .nd k m xs, v, F => ∃ a vs G, v = .ref a ∧ HK T H fz m k a vs ∧ RepL T H fz xs vs G ∧ OwnAt m k a G F
def RepL (T : Tab) (H : Hp) (fz : Fz) : List D → List V → List Addr → Prop
  | [], vs, F => vs = [] ∧ F = []
  | x :: xs, vs, F => ∃ v r F1 F2, vs = v :: r ∧ F = F1 ++ F2 ∧ Rep T H fz x v F1 ∧ RepL T H fz xs r F2
end
abbrev Env := List (Option D)
def EnvR (T : Tab) (H : Hp) (fz : Fz) : Env → St → List Addr → Prop
  | [], σ, F => σ = [] ∧ F = []
  | none :: ρ, σ, F => ∃ o r, σ = o :: r ∧ EnvR T H fz ρ r F
  | some d :: ρ, σ, F => ∃ v r F1 F2, σ = some v :: r ∧ F = F1 ++ F2 ∧ Rep T H fz d v F1 ∧ EnvR T H fz ρ r F2

/-- what is owned can be written, stands apart from what is frozen -/
structure Amb (H : Hp) (fz : Fz) (F : List Addr) : Prop where
  nd : F.Nodup
  mu : ∀ a ∈ F, Mut (H a)
  sep : ∀ a ∈ F, ¬ fz a
  there : ∀ a, fz a → H a ≠ none
structure Ext (H : Hp) (fz : Fz) (F : List Addr) (H' : Hp) (fz' : Fz) (F' : List Addr) : Prop where
  keep : ∀ a o, H a = some o → a ∉ F → H' a = some o
  fsub : ∀ a, fz a → fz' a
  fnew : ∀ a, fz' a → fz a ∨ a ∈ F ∨ H a = none
  pnew : ∀ a ∈ F', a ∈ F ∨ H a = none
  dom : ∀ a, H a ≠ none → H' a ≠ none
  amb : Amb H' fz' F'

theorem mut_some {o : Option HO} (h : Mut o) : o ≠ none := by
  intro e; subst e; exact h
theorem Amb.ne {H : Hp} {fz : Fz} {F : List Addr} (a : Amb H fz F) {x : Addr} (h : x ∈ F) : H x ≠ none := mut_some (a.mu x h)
theorem Amb.left {H : Hp} {fz : Fz} {F G : List Addr} (a : Amb H fz (F ++ G)) : Amb H fz F :=
  ⟨(List.nodup_append.mp a.nd).1, fun x h => a.mu x (List.mem_append_left _ h), fun x h => a.sep x (List.mem_append_left _ h), a.there⟩
theorem Amb.right {H : Hp} {fz : Fz} {F G : List Addr} (a : Amb H fz (F ++ G)) : Amb H fz G :=
  ⟨(List.nodup_append.mp a.nd).2.1, fun x h => a.mu x (List.mem_append_right _ h), fun x h => a.sep x (List.mem_append_right _ h), a.there⟩
theorem Amb.perm {H : Hp} {fz : Fz} {F G : List Addr} (a : Amb H fz F) (p : F.Perm G) : Amb H fz G :=
  ⟨p.nodup_iff.mp a.nd, fun x h => a.mu x (p.mem_iff.mpr h), fun x h => a.sep x (p.mem_iff.mpr h), a.there⟩
theorem Amb.disj {H : Hp} {fz : Fz} {F G : List Addr} (a : Amb H fz (F ++ G)) {x : Addr} (h1 : x ∈ F) (h2 : x ∈ G) : False :=
  (List.nodup_append.mp a.nd).2.2 x h1 x h2 rfl
theorem Amb.sub {H : Hp} {fz : Fz} {F G : List Addr} (a : Amb H fz F) (nd : G.Nodup) (h : ∀ x ∈ G, x ∈ F) : Amb H fz G :=
  ⟨nd, fun x hx => a.mu x (h x hx), fun x hx => a.sep x (h x hx), a.there⟩

theorem Ext.refl {H : Hp} {fz : Fz} {F : List Addr} (a : Amb H fz F) : Ext H fz F H fz F :=
  ⟨fun _ _ h _ => h, fun _ h => h, fun _ h => .inl h, fun _ h => .inl h, fun _ h => h, a⟩
/-- fewer owned places (what is let go is garbage) -/
theorem Ext.drop {H H' : Hp} {fz fz' : Fz} {F F' G' : List Addr} (e : Ext H fz F H' fz' F') (nd : G'.Nodup) (h : ∀ a ∈ G', a ∈ F') : Ext H fz F H' fz' G' :=
  ⟨e.keep, e.fsub, e.fnew, fun a ha => e.pnew a (h a ha), e.dom, e.amb.sub nd h⟩
theorem Ext.perm {H H' : Hp} {fz fz' : Fz} {F F' G' : List Addr} (e : Ext H fz F H' fz' F') (p : F'.Perm G') : Ext H fz F H' fz' G' :=
  e.drop (p.nodup_iff.mp e.amb.nd) fun a ha => p.mem_iff.mpr ha
/-- one step, then one that leaves the temporary's places G1 alone -/
theorem Ext.trans {H H1 H2 : Hp} {fz fz1 fz2 : Fz} {F F1 G1 F2 : List Addr} (a : Ext H fz F H1 fz1 (F1 ++ G1)) (b : Ext H1 fz1 F1 H2 fz2 F2) : Ext H fz F H2 fz2 (F2 ++ G1) where
  keep := fun x o h hx => by
    have h1 := a.keep x o h hx
    refine b.keep x o h1 fun hm => ?_
    rcases a.pnew x (List.mem_append_left _ hm) with q | q
    · exact hx q
    · rw [h] at q; cases q
  fsub := fun x h => b.fsub x (a.fsub x h)
  fnew := fun x h => by
    rcases b.fnew x h with q | q | q
    · exact a.fnew x q
    · exact .inr (a.pnew x (List.mem_append_left _ q))
    · refine .inr (.inr ?_)
      cases e : H x with
      | none => rfl
      | some o => exact absurd q (a.dom x (by rw [e]; simp))
  pnew := fun x h => by
    rcases List.mem_append.mp h with h | h
    · rcases b.pnew x h with q | q
      · exact a.pnew x (List.mem_append_left _ q)
      · refine .inr ?_
        cases e : H x with
        | none => rfl
        | some o => exact absurd q (a.dom x (by rw [e]; simp))
    · exact a.pnew x (List.mem_append_right _ h)
  dom := fun x h => b.dom x (a.dom x h)
  amb := by
    have g1 : ∀ x ∈ G1, x ∉ F1 := fun x h h' => a.amb.disj h' h
    have keep1 : ∀ x ∈ G1, H2 x = H1 x := fun x h => by
      cases e : H1 x with
      | none => exact absurd e (a.amb.ne (List.mem_append_right _ h))
      | some o => exact b.keep x o e (g1 x h)
    refine ⟨List.nodup_append.mpr ⟨b.amb.nd, (List.nodup_append.mp a.amb.nd).2.1, fun x hx y hy q => ?_⟩, fun x h => ?_, fun x h => ?_, b.amb.there⟩
    · subst q
      rcases b.pnew x hx with z | z
      · exact g1 x hy z
      · exact a.amb.ne (List.mem_append_right _ hy) z
    · rcases List.mem_append.mp h with h | h
      · exact b.amb.mu x h
      · rw [keep1 x h]; exact a.amb.mu x (List.mem_append_right _ h)
    · rcases List.mem_append.mp h with h | h
      · exact b.amb.sep x h
      · intro z
        rcases b.fnew x z with q | q | q
        · exact a.amb.sep x (List.mem_append_right _ h) q
        · exact g1 x h q
        · exact a.amb.ne (List.mem_append_right _ h) q
theorem Ext.trans0 {H H1 H2 : Hp} {fz fz1 fz2 : Fz} {F F1 F2 : List Addr} (a : Ext H fz F H1 fz1 F1) (b : Ext H1 fz1 F1 H2 fz2 F2) : Ext H fz F H2 fz2 F2 := by
  have := Ext.trans (G1 := []) (by simpa using a) b
  simpa using this

/-! ## frames -/
/-- what H2 keeps of H1 for the pieces at G -/
structure Fr (H : Hp) (fz : Fz) (H' : Hp) (fz' : Fz) (G : List Addr) : Prop where
  old : ∀ a o, H a = some o → (a ∈ G ∨ fz a ∨ ¬ Mut (some o)) → H' a = some o
  fsub : ∀ a, fz a → fz' a
theorem Fr.mono {H H' : Hp} {fz fz' : Fz} {G G' : List Addr} (f : Fr H fz H' fz' G) (h : ∀ a ∈ G', a ∈ G) : Fr H fz H' fz' G' :=
  ⟨fun a o e q => f.old a o e (q.imp_left (h a)), f.fsub⟩
theorem Fr.refl {H : Hp} {fz : Fz} {G : List Addr} : Fr H fz H fz G := ⟨fun _ _ h _ => h, fun _ h => h⟩
theorem Ext.fr {H H' : Hp} {fz fz' : Fz} {F F' G : List Addr} (e : Ext H fz F H' fz' F') (a : Amb H fz F) (d : ∀ x ∈ G, x ∉ F) : Fr H fz H' fz' G :=
  ⟨fun x o h q => e.keep x o h fun hm => by
    rcases q with q | q | q
    · exact d x q hm
    · exact a.sep x hm q
    · exact q (by rw [← h]; exact a.mu x hm), e.fsub⟩

section
variable {T : Tab} {H H' : Hp} {fz fz' : Fz}
theorem notMut_tup {o : HO} {vs : List V} (h : IsHO T .tup vs o) : ¬ Mut (some o) := by
  have h : o = .tup vs := h
  subst h
  exact fun z => z
theorem notMut_imm {k : Kd} {o : HO} {vs : List V} (c : k.imm = true) (h : IsHO T k vs o) : ¬ Mut (some o) := by
  cases k with
  | tup => exact notMut_tup h
  | rng lo hi =>
    obtain ⟨_, e⟩ := (show vs = [] ∧ o = .rng lo hi from h)
    subst e
    exact fun z => z
  | _ => cases c
theorem HK.fr {m : Bool} {k : Kd} {a : Addr} {vs : List V} {G : List Addr} (h : HK T H fz m k a vs) (f : Fr H fz H' fz' G) (ho : m = true → a ∈ G) : HK T H' fz' m k a vs := by
  cases m with
  | true =>
    obtain ⟨n, n2, o, e, q⟩ := h
    exact ⟨n, n2, o, f.old a o e (.inl (ho rfl)), q⟩
  | false =>
    rcases h with ⟨c, o, e, q⟩ | ⟨c0, c, ob, u, e, q⟩ | h
    · refine .inl ⟨c.imp_right (f.fsub a), o, f.old a o e ?_, q⟩
      rcases c with c | c
      · exact .inr (.inr (notMut_imm c q))
      · exact .inr (.inl c)
    · exact .inr (.inl ⟨c0, f.fsub a c, ob, u, f.old a _ e (.inr (.inl c)), q⟩)
    · exact .inr (.inr h)
theorem OwnAt.sub {m : Bool} {k : Kd} {a : Addr} {G F : List Addr} (h : OwnAt m k a G F) : ∀ x ∈ G, x ∈ F := by
  cases m with
  | true => have h : F = a :: G := h; subst h; intro x hx; exact List.mem_cons_of_mem _ hx
  | false =>
    cases k with
    | tup => have h : F = G := h; subst h; intro x hx; exact hx
    | _ => obtain ⟨h1, h2⟩ := (show F = [] ∧ G = [] from h); subst h1; subst h2; intro x hx; exact hx
theorem OwnAt.self {k : Kd} {a : Addr} {G F : List Addr} (h : OwnAt true k a G F) : a ∈ F := by
  have h : F = a :: G := h
  subst h; exact List.mem_cons_self
mutual
theorem Rep.fr : ∀ {d : D} {v : V} {G : List Addr}, Rep T H fz d v G → Fr H fz H' fz' G → Rep T H' fz' d v G
  | .at a, v, G, h, _ => h
  | .nd k m xs, v, G, h, f => by
    obtain ⟨a, vs, G1, e, hk, hl, ho⟩ := h
    refine ⟨a, vs, G1, e, hk.fr f fun q => ?_, RepL.fr hl (f.mono ho.sub), ho⟩
    subst q; exact ho.self
theorem RepL.fr : ∀ {xs : List D} {vs : List V} {G : List Addr}, RepL T H fz xs vs G → Fr H fz H' fz' G → RepL T H' fz' xs vs G
  | [], vs, G, h, _ => h
  | x :: xs, vs, G, h, f => by
    obtain ⟨v, r, F1, F2, e1, e2, h1, h2⟩ := h
    subst e2
    exact ⟨v, r, F1, F2, e1, rfl, Rep.fr h1 (f.mono fun a q => List.mem_append_left _ q), RepL.fr h2 (f.mono fun a q => List.mem_append_right _ q)⟩
end
theorem EnvR.fr : ∀ {ρ : Env} {σ : St} {G : List Addr}, EnvR T H fz ρ σ G → Fr H fz H' fz' G → EnvR T H' fz' ρ σ G
  | [], σ, G, h, _ => h
  | none :: ρ, σ, G, h, f => by
    obtain ⟨o, r, e, h⟩ := h
    exact ⟨o, r, e, EnvR.fr h f⟩
  | some d :: ρ, σ, G, h, f => by
    obtain ⟨v, r, F1, F2, e1, e2, h1, h2⟩ := h
    subst e2
    exact ⟨v, r, F1, F2, e1, rfl, h1.fr (f.mono fun a q => List.mem_append_left _ q), EnvR.fr h2 (f.mono fun a q => List.mem_append_right _ q)⟩
theorem EnvR.len : ∀ {ρ : Env} {σ : St} {G : List Addr}, EnvR T H fz ρ σ G → ρ.length = σ.length
  | [], σ, G, h => by have e := h.1; subst e; rfl
  | none :: ρ, σ, G, h => by
    obtain ⟨o, r, e, h⟩ := h
    subst e
    simp [EnvR.len h]
  | some d :: ρ, σ, G, h => by
    obtain ⟨v, r, F1, F2, e1, e2, h1, h2⟩ := h
    subst e1
    simp [EnvR.len h2]
/-- clean data own nothing -/
theorem clean_nil : ∀ {d : D} {v : V} {G : List Addr}, d.clean = true → Rep T H fz d v G → G = []
  | .at a, v, G, _, h => h.2
  | .nd k m xs, v, G, c, h => by
    have c : (!m && D.cleanL xs) = true := c
    rw [Bool.and_eq_true] at c
    obtain ⟨a, vs, G1, e, hk, hl, ho⟩ := h
    cases m with
    | true => exact absurd c.1 (by decide)
    | false =>
      have g1 := cleanL_nil c.2 hl
      subst g1
      cases k <;> first | exact ho | exact ho.1
where cleanL_nil : ∀ {xs : List D} {vs : List V} {G : List Addr}, D.cleanL xs = true → RepL T H fz xs vs G → G = []
  | [], vs, G, _, h => h.2
  | x :: xs, vs, G, c, h => by
    have c : (D.clean x && D.cleanL xs) = true := c
    rw [Bool.and_eq_true] at c
    obtain ⟨v, r, F1, F2, e1, e2, h1, h2⟩ := h
    rw [e2, clean_nil c.1 h1, cleanL_nil c.2 h2]
    rfl

/-! ## freezing -/
abbrev fzAdd (fz : Fz) (G : List Addr) : Fz := fun a => fz a ∨ a ∈ G
theorem HK.frz {m : Bool} {k : Kd} {a : Addr} {vs : List V} {G : List Addr} (h : HK T H fz m k a vs) (ho : m = true → a ∈ G) : HK T H (fzAdd fz G) false k a vs := by
  cases m with
  | true =>
    obtain ⟨n, _, o, e, q⟩ := h
    exact .inl ⟨.inr (.inr (ho rfl)), o, e, q⟩
  | false =>
    rcases h with ⟨c, o, e, q⟩ | ⟨c0, c, ob, u, e, q⟩ | h
    · exact .inl ⟨c.imp_right .inl, o, e, q⟩
    · exact .inr (.inl ⟨c0, .inl c, ob, u, e, q⟩)
    · exact .inr (.inr h)
mutual
theorem Rep.frz : ∀ {d : D} {v : V} {G G' : List Addr}, Rep T H fz d v G → (∀ a ∈ G, a ∈ G') → Rep T H (fzAdd fz G') d.frz v []
  | .at a, v, G, G', h, _ => ⟨h.1, rfl⟩
  | .nd k m xs, v, G, G', h, hs => by
    obtain ⟨a, vs, G1, e, hk, hl, ho⟩ := h
    refine ⟨a, vs, [], e, hk.frz fun q => ?_, RepL.frz hl fun a q => hs a (ho.sub a q), ?_⟩
    · subst q; exact hs a ho.self
    · cases k <;> first | exact rfl | exact ⟨rfl, rfl⟩
theorem RepL.frz : ∀ {xs : List D} {vs : List V} {G G' : List Addr}, RepL T H fz xs vs G → (∀ a ∈ G, a ∈ G') → RepL T H (fzAdd fz G') (D.frzL xs) vs []
  | [], vs, G, G', h, _ => ⟨h.1, rfl⟩
  | x :: xs, vs, G, G', h, hs => by
    obtain ⟨v, r, F1, F2, e1, e2, h1, h2⟩ := h
    subst e2
    exact ⟨v, r, [], [], e1, rfl, Rep.frz h1 fun a q => hs a (List.mem_append_left _ q), RepL.frz h2 fun a q => hs a (List.mem_append_right _ q)⟩
end
theorem Amb.frz {F G : List Addr} (a : Amb H fz (F ++ G)) : Amb H (fzAdd fz G) F :=
  ⟨a.left.nd, a.left.mu, fun x hx z => z.elim (a.left.sep x hx) fun q => a.disj hx q, fun x z => z.elim (a.there x) fun q => a.ne (List.mem_append_right _ q)⟩
/-- what is owned at G becomes frozen -/
theorem Ext.frz {F F' G : List Addr} (e : Ext H fz F H' fz' (F' ++ G)) : Ext H fz F H' (fzAdd fz' G) F' :=
  ⟨e.keep, fun a h => .inl (e.fsub a h), fun a h => h.elim (e.fnew a) fun q => .inr (e.pnew a (List.mem_append_right _ q)), fun a h => e.pnew a (List.mem_append_left _ h), e.dom, e.amb.frz⟩
theorem fr_frz {G G' : List Addr} : Fr H fz H (fzAdd fz G) G' := ⟨fun _ _ h _ => h, fun _ h => .inl h⟩

/-! ## slots -/
theorem EnvR.split : ∀ {ρ : Env} {σ : St} {F : List Addr} {i : Nat} {d : D}, EnvR T H fz ρ σ F → ρ[i]? = some (some d) →
    ∃ v A B C, F = A ++ B ++ C ∧ σ[i]? = some (some v) ∧ Rep T H fz d v B ∧
      ∀ (H' : Hp) (fz' : Fz), Fr H fz H' fz' (A ++ C) → (∀ d' v' B', Rep T H' fz' d' v' B' → EnvR T H' fz' (ρ.set i (some d')) (σ.set i (some v')) (A ++ B' ++ C)) ∧ ∀ o, EnvR T H' fz' (ρ.set i none) (σ.set i o) (A ++ C)
  | [], σ, F, i, d, h, e => by simp at e
  | none :: ρ, σ, F, 0, d, h, e => by simp at e
  | none :: ρ, σ, F, i + 1, d, h, e => by
    obtain ⟨o, r, e1, h⟩ := h
    subst e1
    obtain ⟨v, A, B, C, e2, e3, hr, k⟩ := EnvR.split (i := i) (d := d) h (by simpa using e)
    refine ⟨v, A, B, C, e2, by simpa using e3, hr, fun H' fz' f => ⟨fun d' v' B' h' => ?_, fun o' => ?_⟩⟩
    · exact ⟨o, _, rfl, (k H' fz' f).1 d' v' B' h'⟩
    · exact ⟨o, _, rfl, (k H' fz' f).2 o'⟩
  | some d0 :: ρ, σ, F, 0, d, h, e => by
    obtain ⟨v, r, F1, F2, e1, e2, h1, h2⟩ := h
    subst e1
    have ed : d0 = d := by simpa using e
    subst ed
    refine ⟨v, [], F1, F2, by simpa using e2, rfl, h1, fun H' fz' f => ⟨fun d' v' B' h' => ?_, fun o' => ?_⟩⟩
    · exact ⟨v', r, B', F2, rfl, by simp, h', h2.fr (f.mono fun a q => by simpa using q)⟩
    · exact ⟨o', r, rfl, by simpa using h2.fr (f.mono fun a q => by simpa using q)⟩
  | some d0 :: ρ, σ, F, i + 1, d, h, e => by
    obtain ⟨v0, r, F1, F2, e1, e2, h1, h2⟩ := h
    subst e1
    obtain ⟨v, A, B, C, e3, e4, hr, k⟩ := EnvR.split (i := i) (d := d) h2 (by simpa using e)
    refine ⟨v, F1 ++ A, B, C, by rw [e2, e3]; simp, by simpa using e4, hr, fun H' fz' f => ?_⟩
    have f1 : Fr H fz H' fz' F1 := f.mono fun a q => by simp [q]
    have f2 : Fr H fz H' fz' (A ++ C) := f.mono fun a q => by simp only [List.mem_append] at q ⊢; rcases q with q | q <;> simp [q]
    refine ⟨fun d' v' B' h' => ?_, fun o' => ?_⟩
    · exact ⟨v0, _, F1, A ++ B' ++ C, rfl, by simp, h1.fr f1, (k H' fz' f2).1 d' v' B' h'⟩
    · exact ⟨v0, _, F1, A ++ C, rfl, by simp, h1.fr f1, (k H' fz' f2).2 o'⟩
/-- a slot is given a new value (what it held is let go) -/
theorem EnvR.put : ∀ {ρ : Env} {σ : St} {F : List Addr} {i : Nat} {d : D} {v : V} {G : List Addr}, EnvR T H fz ρ σ F → i < ρ.length → Rep T H fz d v G →
    ∃ A B C, F = A ++ B ++ C ∧ EnvR T H fz (ρ.set i (some d)) (σ.set i (some v)) (A ++ G ++ C)
  | [], σ, F, i, d, v, G, h, e, _ => absurd e (by simp)
  | none :: ρ, σ, F, 0, d, v, G, h, _, hr => by
    obtain ⟨o, r, e1, h⟩ := h
    subst e1
    exact ⟨[], [], F, by simp, v, r, G, F, rfl, by simp, hr, h⟩
  | none :: ρ, σ, F, i + 1, d, v, G, h, e, hr => by
    obtain ⟨o, r, e1, h⟩ := h
    subst e1
    obtain ⟨A, B, C, e2, k⟩ := EnvR.put (i := i) h (by simpa using e) hr
    exact ⟨A, B, C, e2, o, _, rfl, k⟩
  | some d0 :: ρ, σ, F, 0, d, v, G, h, _, hr => by
    obtain ⟨v0, r, F1, F2, e1, e2, h1, h2⟩ := h
    subst e1
    exact ⟨[], F1, F2, by simpa using e2, v, r, G, F2, rfl, by simp, hr, h2⟩
  | some d0 :: ρ, σ, F, i + 1, d, v, G, h, e, hr => by
    obtain ⟨v0, r, F1, F2, e1, e2, h1, h2⟩ := h
    subst e1
    obtain ⟨A, B, C, e3, k⟩ := EnvR.put (i := i) h2 (by simpa using e) hr
    exact ⟨F1 ++ A, B, C, by rw [e2, e3]; simp, v0, _, F1, A ++ G ++ C, rfl, by simp, h1, k⟩
end
end Ev

set_option Elab.async false
set_option linter.all false
set_option maxRecDepth 100000
set_option maxHeartbeats 4000000
namespace Ev
open PySem PySem.Spec L2

/-! ## the small language -/
inductive BO where | add | sub | mul | fdiv | mod | pow | shl | shr | band | bor
  deriving DecidableEq
inductive CO where | eq | ne | lt | le | gt | ge | inn | nin | is | isn
  deriving DecidableEq
inductive UO where | neg | inv | blen
  deriving DecidableEq
inductive B1 where | len | abs | int | sum | max | min | sorted | tuple | list | all | any | range
  deriving DecidableEq
inductive B2 where | max | min | range
  deriving DecidableEq
inductive SK where | seq | range | enum | zip | keys | items | values | chars
  deriving DecidableEq
inductive Ty where | int | bool | str | tuple | list | dict | cls (c : Nat)
  deriving DecidableEq
inductive MK where | append | extend | insert | pop | update
  deriving DecidableEq
inductive PM where | count | index | get | items
  deriving DecidableEq
inductive E where
  | cn (a : At)
  | gl (a : At)
  | var (i : Nat)
  | mv (i : Nat)
  | sh (i : Nat)
  | rf (i : Nat)
  | un (o : UO) (a : E)
  | bin (o : BO) (a b : E)
  | cmp (o : CO) (a b : E)
  | chn (o1 o2 : CO) (a b c : E)
  | and_ (a b : E)
  | or_ (a b : E)
  | not_ (a : E)
  | ife (c a b : E)
  | tup (es : List E)
  | lst (es : List E)
  | dic (t : Bool)
  | dis (k v : E)
  | dsp (kvs : List (At × At))
  | dg (a k : E) (df : Option At)
  | idx (a i : E)
  | slc (a : E) (lo hi : List E)
  | rev (a : E)
  | fld (a : E) (f : Nat)
  | b1 (o : B1) (a : E)
  | b2 (o : B2) (a b : E)
  | isi (a : E) (t : List Ty)
  | pm (o : PM) (a : E) (es : List E)
  | call (f : Nat) (es : List E)
  | mk (c : Nat) (es : List E)
  | mth (m : Nat) (o : E) (es : List E)
  | mut (k : MK) (pl : E) (es : List E)
  | lc (own tg : List Nat) (one : Bool) (sk : SK) (src cond : List E) (elt : E)
inductive S where
  | e (e : E)
  | set (i : Nat) (e : E)
  | setF (i : Nat) (e : E)
  | unp (is : List Nat) (e : E)
  | par (i j : Nat) (a b : E)
  | sto (pl : E) (e : E)
  | aug (i : Nat) (o : BO) (e : E)
  | augs (pl : E) (o : BO) (e : E)
  | dup (pl : E) (es : List E)
  | if_ (c : E) (a b : List S)
  | for_ (tg : List Nat) (one : Bool) (sk : SK) (src : List E) (body : List S)
  | forO (tg : List Nat) (one : Bool) (i : Nat) (body : List S)
  | whl (c : E) (body : List S)
  | ret (e : E)
  | rtn
  | brk
  | cnt
  | pas
  | nev

/-- an exception: its class, its field -/
structure Exn where
  c : Nat
  fd : Option (Nat × D)
inductive R (α : Type) where
  | ok (a : α) (ρ : Env)
  | ex (x : Exn) (ρ : Env)
  | unk
inductive CR where
  | ok (d : D) (rs : List D)
  | ex (x : Exn) (rs : List D)
  | unk
inductive Fl where
  | nx (ρ : Env)
  | rt (d : D) (ρ : Env)
  | bk (ρ : Env)
  | ct (ρ : Env)
  | ex (x : Exn) (ρ : Env)
  | unk
abbrev M (α : Type) := Env → R α
def M.pure {α : Type} (a : α) : M α := fun ρ => .ok a ρ
def M.bind {α β : Type} (m : M α) (f : α → M β) : M β := fun ρ => match m ρ with
  | .ok a ρ' => f a ρ'
  | .ex x ρ' => .ex x ρ'
  | .unk => .unk
def M.lift {α : Type} : Option α → M α
  | some a => fun ρ => .ok a ρ
  | none => fun _ => .unk
def M.chk {α : Type} (b : Bool) (m : M α) : M α := fun ρ => match b with
  | true => m ρ
  | false => .unk
def M.noex {α : Type} (m : M α) : M α := fun ρ => match m ρ with
  | .ok a ρ' => .ok a ρ'
  | .ex _ _ => .unk
  | .unk => .unk
/-- what is handed on by an expression that is no place: frozen where it is looked at only -/
def fin (p : Bool) (m : M D) : M D := fun ρ => match m ρ with
  | .ok d ρ' => .ok (match p with | true => d.frz | false => d) ρ'
  | .ex x ρ' => .ex x ρ'
  | .unk => .unk
def plc (p : Bool) (d : D) : M D := M.chk (p || d.clean) (M.pure d)

/-! ## primitives -/
def lineB (n : Nat) : Bool := decide (n ≤ sizeLine)
def bigB (i : Int) : Bool := decide (-(2 ^ 64) < i) && decide (i < 2 ^ 64)
def powB (i j : Int) : Bool := decide (0 ≤ j) && (decide (j ≤ 1000000) && decide (i.natAbs < 2 ^ 64))
def binI : BO → Int → Int → Option Int
  | .add, i, j => some (i + j)
  | .sub, i, j => some (i - j)
  | .mul, i, j => if bigB i || bigB j then some (i * j) else none
  | .fdiv, i, j => if decide (0 < j) && decide (j < 1073741824) then some (i / j) else none
  | .mod, i, j => if decide (0 < j) then some (i % j) else none
  | .pow, i, j => if powB i j then some (i ^ j.toNat) else none
  | .shl, i, j => if powB i j then some (i * 2 ^ j.toNat) else none
  | .shr, i, j => if decide (0 ≤ j) then some (i / 2 ^ j.toNat) else none
  | .band, i, j => some (Builtin.bitAnd i j)
  | .bor, i, j => some (Builtin.bitOr i j)
def binD : BO → D → D → Option D
  | o, .at (.int i), .at (.int j) => (binI o i j).map D.int
  | .add, .nd .tup false xs, .nd .tup false ys => if lineB (xs.length + ys.length) && (D.cleanL xs && D.cleanL ys) then some (D.tup (xs ++ ys)) else none
  | .add, .nd .lst _ xs, .nd .lst _ ys => if lineB (xs.length + ys.length) && (D.cleanL xs && D.cleanL ys) then some (D.lst true (xs ++ ys)) else none
  | .mul, .nd .tup false xs, .at (.int k) => if !xs.isEmpty && (decide (-1000 ≤ k) && (decide (k ≤ 1000) && (decide (xs.length ≤ 1000) && D.cleanL xs))) then some (D.tup (List.replicate k.toNat xs).flatten) else none
  | .mul, .nd .lst _ xs, .at (.int k) => if lineB (xs.length * k.toNat) && (decide (-(2 ^ 63) ≤ k) && (decide (k < 2 ^ 63) && D.cleanL xs)) then some (D.lst true (List.replicate k.toNat xs).flatten) else none
  | _, _, _ => none
mutual
/-- data without dicts and objects, nested at most n deep -/
def D.shp (n : Nat) : D → Bool
  | .at (.str x) => SeqAt.shaped (.str x)
  | .at _ => true
  | .nd .tup _ xs => match n with
    | 0 => false
    | n + 1 => D.shpL n xs
  | .nd .lst _ xs => match n with
    | 0 => false
    | n + 1 => D.shpL n xs
  | .nd _ _ _ => false
def D.shpL (n : Nat) : List D → Bool
  | [] => true
  | x :: xs => D.shp n x && D.shpL n xs
end
def b2i (b : Bool) : Int := if b then 1 else 0
def atEq : At → At → Bool
  | .non, .non => true
  | .bl a, .bl b => a == b
  | .bl a, .int j => b2i a == j
  | .int i, .bl b => i == b2i b
  | .int i, .int j => i == j
  | .str x, .str y => x == y
  | _, _ => false
mutual
def D.eqv : D → D → Bool
  | .at a, .at b => atEq a b
  | .nd .tup _ xs, .nd .tup _ ys => D.eqvL xs ys
  | .nd .lst _ xs, .nd .lst _ ys => D.eqvL xs ys
  | _, _ => false
def D.eqvL : List D → List D → Bool
  | [], [] => true
  | x :: xs, y :: ys => D.eqv x y && D.eqvL xs ys
  | _, _ => false
end
def intsOf : List D → Option (List Int)
  | [] => some []
  | .at (.int i) :: xs => (intsOf xs).map (i :: ·)
  | _ => none
def blsOf : List D → Option (List Bool)
  | [] => some []
  | .at (.bl b) :: xs => (blsOf xs).map (b :: ·)
  | _ => none
/-- a dict's key -/
def keyOf : D → Option Key
  | .at (.int i) => some (.inl i)
  | .at (.str x) => some (.inr x)
  | _ => none
def keysOf : List D → Option (List Key)
  | [] => some []
  | x :: xs => match keyOf x, keysOf xs with
    | some k, some ks => some (k :: ks)
    | _, _ => none
def keyD : Key → D
  | .inl i => D.int i
  | .inr x => D.str x
def posK {κ : Type} [DecidableEq κ] (k : κ) : List κ → Option Nat
  | q :: ks => if q = k then some 0 else (posK k ks).map (· + 1)
  | [] => none
def isNon : D → Bool
  | .at .non => true
  | _ => false
def cmpD : CO → D → D → Option Bool
  | .eq, x, y => if D.shp 64 x && D.shp 64 y then some (D.eqv x y) else none
  | .ne, x, y => if D.shp 64 x && D.shp 64 y then some (!D.eqv x y) else none
  | .lt, .at (.int i), .at (.int j) => some (decide (i < j))
  | .le, .at (.int i), .at (.int j) => some (decide (i ≤ j))
  | .gt, .at (.int i), .at (.int j) => some (decide (j < i))
  | .ge, .at (.int i), .at (.int j) => some (decide (j ≤ i))
  | .lt, .nd .tup _ xs, .nd .tup _ ys => match intsOf xs, intsOf ys with
    | some is, some js => some (HT.lexLt is js)
    | _, _ => none
  | .inn, x, .nd .tup _ ys => if D.shp 63 x && D.shpL 63 ys then some (ys.any fun y => D.eqv y x) else none
  | .inn, x, .nd .lst _ ys => if D.shp 63 x && D.shpL 63 ys then some (ys.any fun y => D.eqv y x) else none
  | .nin, x, .nd .tup _ ys => if D.shp 63 x && D.shpL 63 ys then some (!ys.any fun y => D.eqv y x) else none
  | .nin, x, .nd .lst _ ys => if D.shp 63 x && D.shpL 63 ys then some (!ys.any fun y => D.eqv y x) else none
  | .inn, x, .nd (.dk ks) _ _ => (keyOf x).map fun k => (posK k ks).isSome
  | .nin, x, .nd (.dk ks) _ _ => (keyOf x).map fun k => !(posK k ks).isSome
  | .inn, .nd .tup false xs, .nd (.dt ks) _ _ => (keysOf xs).map fun k => (posK k ks).isSome
  | .nin, .nd .tup false xs, .nd (.dt ks) _ _ => (keysOf xs).map fun k => !(posK k ks).isSome
  | .is, x, .at .non => some (isNon x)
  | .isn, x, .at .non => some (!isNon x)
  | .is, .at (.bl a), .at (.bl b) => some (a == b)
  | .isn, .at (.bl a), .at (.bl b) => some (!(a == b))
  | _, _, _ => none
def unD : UO → D → Option D
  | .neg, .at (.int i) => some (D.int (-i))
  | .inv, .at (.int i) => some (D.int (Builtin.bitNot i))
  | .blen, .at (.int i) => some (D.int (Builtin.Int.intBits i : Nat))
  | _, _ => none
def atK {κ : Type} [DecidableEq κ] (k : κ) : List κ → List D → Option D
  | q :: ks, v :: vs => if q = k then some v else atK k ks vs
  | _, _ => none
def fldAt (f : Nat) : List Nat → List D → Option D
  | g :: fs, v :: vs => if g = f then some v else fldAt f fs vs
  | _, _ => none
def idxD : D → D → Option D
  | .nd .tup _ xs, .at (.int i) => atI xs i
  | .nd .lst _ xs, .at (.int i) => atI xs i
  | .nd .scr _ xs, .at (.int i) => atI xs i
  | .at (.str z), .at (.int i) => if lineB z.length then (atI z.cps.toList i).map fun c => D.str ⟨#[c]⟩ else none
  | .nd (.dk ks) _ vs, x => match keyOf x with
    | some k => atK k ks vs
    | none => none
  | .nd (.dt ks) _ vs, .nd .tup false xs => match keysOf xs with
    | some k => atK k ks vs
    | none => none
  | _, _ => none
def fldD (f : Nat) : D → Option D
  | .nd (.obj _ fs) _ xs => fldAt f fs xs
  | _ => none
def cutD (xs : List D) (lo hi : Option Int) : List D := (xs.drop (HT.sIx xs.length 0 lo)).take (HT.sIx xs.length xs.length hi - HT.sIx xs.length 0 lo)
def slcD (d : D) (lo hi : Option Int) : Option D := match d with
  | .nd .tup false xs => if D.cleanL xs then some (D.tup (cutD xs lo hi)) else none
  | .nd .lst _ xs => if D.cleanL xs then some (D.lst true (cutD xs lo hi)) else none
  | .nd .scr _ xs => if D.cleanL xs then some (D.lst true (cutD xs lo hi)) else none
  | .at (.str z) => if lineB z.length then some (D.str (cutS z lo hi)) else none
  | _ => none
def partOf : List D → Option (Option Int)
  | [] => some none
  | [.at (.int i)] => some (some i)
  | _ => none
def revD : D → Option D
  | .nd .tup false xs => if D.cleanL xs then some (D.tup xs.reverse) else none
  | .nd .lst _ xs => if D.cleanL xs then some (D.lst true xs.reverse) else none
  | _ => none
def rngD (lo : Int) (n : Nat) : List D := (List.range n).map fun (i : Nat) => D.int (lo + i)
def smallI (i : Int) : Bool := decide (-(2 ^ 62) ≤ i) && decide (i < 2 ^ 62)
def rgB (lo hi : Int) : Bool := (smallI lo && smallI hi) && decide ((hi - lo).toNat ≤ 16777216)
def insSort (x : Int) : List Int → List Int
  | [] => [x]
  | y :: ys => if x ≤ y then x :: y :: ys else y :: insSort x ys
def isort : List Int → List Int
  | [] => []
  | x :: xs => insSort x (isort xs)
def b1D : B1 → D → Option D
  | .len, .nd .tup _ xs => some (D.int xs.length)
  | .len, .nd .lst _ xs => some (D.int xs.length)
  | .len, .nd .scr _ xs => some (D.int xs.length)
  | .len, .nd (.dk ks) _ _ => some (D.int ks.length)
  | .len, .nd (.dt ks) _ _ => some (D.int ks.length)
  | .len, .at (.str z) => if lineB z.length then some (D.int z.length) else none
  | .abs, .at (.int i) => some (D.int (if i < 0 then -i else i))
  | .int, .at (.int i) => some (D.int i)
  | .int, .at (.bl b) => some (D.int (b2i b))
  | .sum, .nd .lst _ xs => (intsOf xs).map fun is => D.int is.sum
  | .max, .nd .lst _ xs => match intsOf xs with
    | some (i :: is) => some (D.int (is.foldl max i))
    | _ => none
  | .min, .nd .lst _ xs => match intsOf xs with
    | some (i :: is) => some (D.int (is.foldl min i))
    | _ => none
  | .sorted, .nd .lst _ xs => (intsOf xs).map fun is => D.lst true ((isort is).map D.int)
  | .tuple, .nd .tup false xs => if D.cleanL xs then some (D.tup xs) else none
  | .tuple, .nd .lst _ xs => if D.cleanL xs then some (D.tup xs) else none
  | .list, .nd .tup false xs => if D.cleanL xs then some (D.lst true xs) else none
  | .list, .nd .lst _ xs => if D.cleanL xs then some (D.lst true xs) else none
  | .list, .nd (.dk ks) _ _ => some (D.lst true (ks.map keyD))
  | .all, .nd .lst _ xs => (blsOf xs).map fun bs => D.bl (bs.all id)
  | .any, .nd .lst _ xs => (blsOf xs).map fun bs => D.bl (bs.any id)
  | .range, .at (.int j) => some (.nd (.rng 0 j) false [])
  | .list, .nd (.rng lo hi) _ _ => if rgB lo hi then some (D.lst true (rngD lo (hi - lo).toNat)) else none
  | .tuple, .nd (.rng lo hi) _ _ => if rgB lo hi then some (D.tup (rngD lo (hi - lo).toNat)) else none
  | _, _ => none
/-- {k: v} -/
def disD (kd vd : D) : Option D := match keyOf kd with
  | some k => some (.nd (.dk [k]) true [vd])
  | none => none
def b2D : B2 → D → D → Option D
  | .max, .at (.int i), .at (.int j) => some (D.int (if j > i then j else i))
  | .min, .at (.int i), .at (.int j) => some (D.int (if j < i then j else i))
  | .range, .at (.int i), .at (.int j) => some (.nd (.rng i j) false [])
  | _, _, _ => none
def tyD (sub : Nat → Nat → Bool) : D → Ty → Bool
  | .at (.int _), .int => true
  | .at (.bl _), .int => true
  | .at (.bl _), .bool => true
  | .at (.str _), .str => true
  | .nd .tup _ _, .tuple => true
  | .nd .lst _ _, .list => true
  | .nd .scr _ _, .list => true
  | .nd (.dk _) _ _, .dict => true
  | .nd (.dt _) _ _, .dict => true
  | .nd (.obj c _) _ _, .cls c' => sub c c'
  | _, _ => false
/-- isinstance (not asked of ranges) -/
def isiO (sub : Nat → Nat → Bool) (ts : List Ty) : D → Option D
  | .nd (.rng _ _) _ _ => none
  | x => some (D.bl (ts.any (tyD sub x)))
/-- d.get(k), d.get(k, a constant) -/
def dgD (df : At) : D → D → Option D
  | .nd (.dk ks) _ vs, x => match keyOf x with
    | some k => some ((atK k ks vs).getD (.at df))
    | none => none
  | .nd (.dt ks) _ vs, .nd .tup false xs => match keysOf xs with
    | some k => some ((atK k ks vs).getD (.at df))
    | none => none
  | _, _ => none
def isDct : D → Bool
  | .nd (.dk _) _ _ => true
  | .nd (.dt _) _ _ => true
  | _ => false
/-- written dicts: keys and things that are constants, unlike keys -/
def dspD (kvs : List (At × At)) : Option D := match keysOf (kvs.map fun p => D.at p.1) with
  | some ks => if decide ks.Nodup && (decide (kvs.length ≤ 15) && !kvs.isEmpty) then some (.nd (.dk ks) true (kvs.map fun p => D.at p.2)) else none
  | none => none
def isLst : D → Bool
  | .nd .lst _ _ => true
  | _ => false
def pmD : PM → D → List D → Option D
  | .count, .nd .lst _ xs, [y] => if D.shp 63 y && D.shpL 63 xs then some (D.int ((xs.filter fun x => D.eqv x y).length)) else none
  | .index, .nd .lst _ xs, [y] => if D.shp 63 y && D.shpL 63 xs then (xs.findIdx? fun x => D.eqv x y).map fun (j : Nat) => D.int j else none
  | _, _, _ => none

/-! ## places within data -/
def setAt {α : Type} (f : α → Option α) : Nat → List α → Option (List α)
  | _, [] => none
  | 0, x :: xs => (f x).map (· :: xs)
  | n + 1, x :: xs => (setAt f n xs).map (x :: ·)
/-- the child at a path is changed -/
def D.mod (f : D → Option D) : List Nat → D → Option D
  | [], d => f d
  | j :: js, .nd k m xs => (setAt (D.mod f js) j xs).map (D.nd k m)
  | _ :: _, .at _ => none
def D.get : List Nat → D → Option D
  | [], d => some d
  | j :: js, .nd _ _ xs => match xs[j]? with
    | some x => D.get js x
    | none => none
  | _ :: _, .at _ => none
/-- the number of the child that d[i] is -/
def idxP : D → D → Option Nat
  | .nd .tup _ xs, .at (.int i) => ixN xs.length i
  | .nd .lst _ xs, .at (.int i) => ixN xs.length i
  | .nd (.dk ks) _ _, x => (keyOf x).bind fun k => posK k ks
  | .nd (.dt ks) _ _, .nd .tup false xs => (keysOf xs).bind fun k => posK k ks
  | _, _ => none
def fldP (f : Nat) : D → Option Nat
  | .nd (.obj _ fs) _ _ => posK f fs
  | _ => none
/-- o[i] = v -/
def stoD (i v : D) : D → Option D
  | .nd .lst true xs => match i with
    | .at (.int i) => (ixN xs.length i).map fun j => D.lst true (xs.set j v)
    | _ => none
  | .nd (.dk ks) true vs => match keyOf i with
    | some k => if lineB (ks.length + 1) then some (match posK k ks with
      | some j => .nd (.dk ks) true (vs.set j v)
      | none => .nd (.dk (ks ++ [k])) true (vs ++ [v])) else none
    | none => none
  | .nd (.dt ks) true vs => match i with
    | .nd .tup false xs => match keysOf xs with
      | some k => if lineB (ks.length + 1) then some (match posK k ks with
        | some j => .nd (.dt ks) true (vs.set j v)
        | none => .nd (.dt (ks ++ [k])) true (vs ++ [v])) else none
      | none => none
    | _ => none
  | _ => none
/-- o.f = v -/
def stfD (f : Nat) (v : D) : D → Option D
  | .nd (.obj c fs) true xs => if decide (fs.length < 1000) then some (match posK f fs with
    | some j => .nd (.obj c fs) true (xs.set j v)
    | none => .nd (.obj c (fs ++ [f])) true (xs ++ [v])) else none
  | _ => none
/-- a method that changes its object: the object behind it, what it tells -/
def mutD : MK → List D → D → Option (D × D)
  | .append, [y], .nd .lst true xs => if decide (xs.length < sizeLine) then some (D.lst true (xs ++ [y]), D.non) else none
  | .extend, [.nd .lst _ ys], .nd .lst true xs => if lineB (xs.length + ys.length) && D.cleanL ys then some (D.lst true (xs ++ ys), D.non) else none
  | .pop, [], .nd .lst true xs => match xs[xs.length - 1]? with
    | some y => some (D.lst true xs.dropLast, y)
    | none => none
  | .pop, [.at (.int i)], .nd .lst true xs => if decide (-(2 ^ 63) ≤ i) && decide (i < 2 ^ 63) then (match ixN xs.length i with
    | some k => match xs[k]? with
      | some y => some (D.lst true (xs.eraseIdx k), y)
      | none => none
    | none => none) else none
  | .insert, [.at (.int i), y], .nd .lst true xs => if decide (xs.length < sizeLine) && (decide (0 ≤ i) && decide (i ≤ xs.length)) then some (D.lst true (xs.take i.toNat ++ y :: xs.drop i.toNat), D.non) else none
  | _, _, _ => none

/-! ## iteration -/
def enumD (n : Nat) : List D → List D
  | [] => []
  | x :: xs => D.tup [D.int n, x] :: enumD (n + 1) xs
def itemsD : SK → List D → Option (List D)
  | .seq, [.nd .tup false xs] => some xs
  | .seq, [.nd .lst _ xs] => some xs
  | .seq, [.nd .scr _ xs] => some xs
  | .seq, [.nd (.rng lo hi) _ _] => if smallI lo && smallI hi then some (rngD lo (hi - lo).toNat) else none
  | .range, [.at (.int j)] => if smallI j then some (rngD 0 j.toNat) else none
  | .range, [.at (.int i), .at (.int j)] => if smallI i && smallI j then some (rngD i (j - i).toNat) else none
  | .enum, [.nd .lst _ xs] => some (enumD 0 xs)
  | .enum, [.nd .tup _ xs] => some (enumD 0 xs)
  | .zip, [.nd .lst _ xs, .nd .lst _ ys] => if D.cleanL xs && D.cleanL ys then some (List.zipWith (fun x y => D.tup [x, y]) xs ys) else none
  | .zip, [.nd .tup _ xs, .nd .tup _ ys] => if D.cleanL xs && D.cleanL ys then some (List.zipWith (fun x y => D.tup [x, y]) xs ys) else none
  | .keys, [.nd (.dk ks) _ _] => some (ks.map keyD)
  | .keys, [.nd (.dt ks) _ _] => some (ks.map fun k => D.tup (k.map keyD))
  | .items, [.nd (.dk ks) _ vs] => some (List.zipWith (fun k v => D.tup [keyD k, v]) ks vs)
  | .values, [.nd (.dk _) _ vs] => some vs
  | .chars, [.at (.str z)] => some (z.cps.toList.map fun c => D.str ⟨#[c]⟩)
  | _, _ => none
def setMany : List Nat → List D → Env → Option Env
  | [], [], ρ => some ρ
  | i :: is, d :: ds, ρ => if decide (i < ρ.length) then setMany is ds (ρ.set i (some d)) else none
  | _, _, _ => none
/-- a loop's target -/
def asnD (tg : List Nat) (one : Bool) (x : D) (ρ : Env) : Option Env := match one with
  | true => setMany tg [x] ρ
  | false => match x with
    | .nd .tup false xs => setMany tg xs ρ
    | _ => none
def wipeE (ρ : Env) : List Nat → Env
  | [] => ρ
  | v :: vs => (wipeE ρ vs).set v none
/-- the slots vs as they were in ρ0 -/
def backE (ρ0 ρ : Env) : List Nat → Env
  | [] => ρ
  | v :: vs => (backE ρ0 ρ vs).set v (ρ0.getD v none)

/-! ## what never changes anything that stands -/
mutual
def nm : E → Bool
  | .cn _ => true
  | .gl _ => true
  | .var _ => true
  | .mv _ => false
  | .sh _ => false
  | .rf _ => false
  | .un _ a => nm a
  | .bin _ a b => nm a && nm b
  | .cmp _ a b => nm a && nm b
  | .chn _ _ a b c => nm a && (nm b && nm c)
  | .and_ a b => nm a && nm b
  | .or_ a b => nm a && nm b
  | .not_ a => nm a
  | .ife c a b => nm c && (nm a && nm b)
  | .tup es => nmL es
  | .lst es => nmL es
  | .dic _ => true
  | .dis k v => nm k && nm v
  | .dsp _ => true
  | .dg a k _ => nm a && nm k
  | .idx a i => nm a && nm i
  | .slc a lo hi => nm a && (nmL lo && nmL hi)
  | .rev a => nm a
  | .fld a _ => nm a
  | .b1 _ a => nm a
  | .b2 _ a b => nm a && nm b
  | .isi a _ => nm a
  | .pm _ a es => nm a && nmL es
  | .call _ es => nmL es
  | .mk _ es => nmL es
  | .mth _ o es => nm o && nmL es
  | .mut _ _ _ => false
  | .lc _ _ _ _ src cond elt => nmL src && (nmL cond && nm elt)
def nmL : List E → Bool
  | [] => true
  | e :: es => nm e && nmL es
end
def isRf : E → Bool
  | .rf _ => true
  | _ => false
def rfOf : E → Option Nat
  | .rf i => some i
  | _ => none

/-! ## the evaluator -/
structure Calls where
  call : Nat → List Bool → List D → CR
  init : Nat → Option Nat
  meth : Nat → Nat → Option Nat
  sub : Nat → Nat → Bool
/-- the arguments by reference are looked up behind the others -/
def fillR : List E → List D → Env → Option (List D)
  | [], [], _ => some []
  | e :: es, d :: ds, ρ => match rfOf e, fillR es ds ρ with
    | some i, some r => match ρ[i]? with
      | some (some x) => some (x :: r)
      | _ => none
    | none, some r => some (d :: r)
    | _, none => none
  | _, _, _ => none
def putR : List E → List D → Env → Env
  | [], _, ρ => ρ
  | e :: es, rs, ρ => match rfOf e with
    | some i => match rs with
      | r :: rs => putR es rs (ρ.set i (some r))
      | [] => ρ
    | none => putR es rs ρ
def rfs (es : List E) : List Nat := es.filterMap rfOf
def callM (C : Calls) (f : Nat) (es : List E) (ds : List D) : M D := fun ρ => match decide (rfs es).Nodup, fillR es ds ρ with
  | true, some ds' => match C.call f (es.map isRf) ds' with
    | .ok d rs => if rs.length = (rfs es).length then .ok d (putR es rs ρ) else .unk
    | .ex x rs => if rs.length = (rfs es).length then .ex x (putR es rs ρ) else .unk
    | .unk => .unk
  | _, _ => .unk
def mkM (C : Calls) (c : Nat) (ds : List D) : M D := fun ρ => match C.init c with
  | some f => match C.call f (true :: ds.map fun _ => false) (.nd (.obj c []) true [] :: ds) with
    | .ok d [r] => if isNon d then .ok r ρ else .unk
    | .ex x _ => .ex x ρ
    | _ => .unk
  | none => .unk
def lstAt (ρ : Env) (i : Nat) (js : List Nat) : Bool := match ρ[i]? with
  | some (some d) => match D.get js d with
    | some x => isLst x
    | none => false
  | _ => false
/-- the node at the path js of the slot i is changed -/
def mutM (k : MK) (i : Nat) (js : List Nat) (ds : List D) : M D := fun ρ => match ρ[i]? with
  | some (some d) => match D.get js d with
    | some x => match mutD k ds x with
      | some (x', r) => match D.mod (fun _ => some x') js d with
        | some d' => .ok r (ρ.set i (some d'))
        | none => .unk
      | none => .unk
    | none => .unk
  | _ => .unk
def consO {α : Type} : Option α → List α → List α
  | some d, ds => d :: ds
  | none, ds => ds
def sel (nn : Bool) (a b : Env) : Env := match nn with
  | true => a
  | false => b
def lcL (turn : D → M (Option D)) : List D → M (List D)
  | [] => M.pure []
  | x :: xs => M.bind (turn x) fun r => M.bind (lcL turn xs) fun rs => M.pure (consO r rs)
/-- a comprehension's turn; nn: nothing that stands is changed -/
def lcT (own tg : List Nat) (one : Bool) (mc : M Bool) (me : M D) (nn : Bool) (x : D) : M (Option D) := fun ρ => match asnD tg one x ρ with
  | some ρ1 => match mc ρ1 with
    | .ok true ρ2 => match me ρ2 with
      | .ok d ρ3 => .ok (some d) (sel nn ρ (wipeE ρ3 own))
      | _ => .unk
    | .ok false ρ2 => .ok none (sel nn ρ (wipeE ρ2 own))
    | _ => .unk
  | none => .unk
def lcE (own tg : List Nat) (one : Bool) (sk : SK) (ms : M (List D)) (mc : M Bool) (me : M D) (nn : Bool) : M D := M.bind ms fun ss => fun ρ => match itemsD sk ss with
    | some xs => match D.cleanL xs && (D.cleanL ss || nn) with
      | true => match lcL (lcT own tg one mc me nn) xs (wipeE ρ own) with
        | .ok ds ρ' => if lineB ds.length then .ok (D.lst true ds) (sel nn ρ (backE ρ ρ' own)) else .unk
        | _ => .unk
      | false => .unk
    | none => .unk
mutual
def ev (C : Calls) : Bool → E → M D
  | p, .cn a => M.pure (.at a)
  | p, .gl a => M.pure (.at a)
  | p, .var i => fun ρ => match ρ[i]? with
    | some (some d) => plc p d ρ
    | _ => .unk
  | p, .mv i => fin p fun ρ => match ρ[i]? with
    | some (some d) => .ok d (ρ.set i none)
    | _ => .unk
  | p, .sh i => fun ρ => match ρ[i]? with
    | some (some d) => .ok d.frz (ρ.set i (some d.frz))
    | _ => .unk
  | p, .rf _ => fun _ => .unk
  | p, .un o a => fin p (M.bind (ev C true a) fun x => M.lift (unD o x))
  | p, .bin o a b => fin p (M.bind (ev C true a) fun x => M.bind (ev C true b) fun y => M.chk (x.clean || nm b) (M.lift (binD o x y)))
  | p, .cmp o a b => fin p (M.bind (ev C true a) fun x => M.bind (ev C true b) fun y => M.chk (x.clean || nm b) (M.lift ((cmpD o x y).map D.bl)))
  | p, .chn o1 o2 a b c => fin p (M.bind (ev C true a) fun x => M.bind (ev C true b) fun y => M.chk (x.clean && y.clean) (M.bind (M.lift (cmpD o1 x y)) fun r => match r with
    | true => M.bind (ev C true c) fun z => M.lift ((cmpD o2 y z).map D.bl)
    | false => M.pure (D.bl false)))
  | p, .and_ a b => fin p (M.bind (ev C true a) fun x => match x with
    | .at (.bl true) => ev C false b
    | .at (.bl false) => M.pure (D.bl false)
    | _ => fun _ => .unk)
  | p, .or_ a b => fin p (M.bind (ev C true a) fun x => match x with
    | .at (.bl false) => ev C false b
    | .at (.bl true) => M.pure (D.bl true)
    | _ => fun _ => .unk)
  | p, .not_ a => fin p (M.bind (ev C true a) fun x => match x with
    | .at (.bl b) => M.pure (D.bl (!b))
    | _ => fun _ => .unk)
  | p, .ife c a b => fin p (M.bind (ev C true c) fun x => match x with
    | .at (.bl true) => ev C false a
    | .at (.bl false) => ev C false b
    | _ => fun _ => .unk)
  | p, .tup es => fin p (M.bind (evs C es) fun xs => M.chk (lineB xs.length) (M.pure (D.tup xs)))
  | p, .lst es => fin p (M.bind (evs C es) fun xs => M.chk (lineB xs.length) (M.pure (D.lst true xs)))
  | p, .dic t => fin p (M.pure (match t with
    | true => .nd (.dt []) true []
    | false => .nd (.dk []) true []))
  | p, .dis k v => fin p (M.bind (ev C false k) fun x => M.bind (ev C false v) fun y => M.lift (disD x y))
  | p, .dsp kvs => fin p (M.lift (dspD kvs))
  | p, .dg a k df => M.bind (ev C true a) fun x => M.chk (isDct x) (M.bind (ev C true k) fun j => M.chk (x.clean || nm k) (M.bind (M.lift (dgD (df.getD .non) x j)) fun d => plc p d))
  | p, .idx a i => M.bind (ev C true a) fun x => M.bind (ev C true i) fun j => M.chk (x.clean || nm i) (M.bind (M.lift (idxD x j)) fun d => plc p d)
  | p, .slc a lo hi => fin p (M.bind (ev C true a) fun x => M.bind (evs C lo) fun l => M.bind (M.lift (partOf l)) fun l' => M.bind (evs C hi) fun h => M.bind (M.lift (partOf h)) fun h' => M.chk (x.clean || (nmL lo && nmL hi)) (M.lift (slcD x l' h')))
  | p, .rev a => fin p (M.bind (ev C true a) fun x => M.lift (revD x))
  | p, .fld a f => M.bind (ev C true a) fun x => M.bind (M.lift (fldD f x)) fun d => plc p d
  | p, .b1 o a => fin p (M.bind (ev C true a) fun x => M.lift (b1D o x))
  | p, .b2 o a b => fin p (M.bind (ev C true a) fun x => M.bind (ev C true b) fun y => M.chk (x.clean || nm b) (M.lift (b2D o x y)))
  | p, .isi a t => fin p (M.bind (ev C true a) fun x => M.lift (isiO C.sub t x))
  | p, .pm o a es => fin p (M.bind (ev C true a) fun x => M.chk (isLst x) (M.bind (evs C es) fun ys => M.chk (x.clean || nmL es) (M.lift (pmD o x ys))))
  | p, .call f es => fin p (M.bind (evA C es) fun ds => callM C f es ds)
  | p, .mk c es => fin p (M.bind (evs C es) fun ds => mkM C c (ds.map D.frz))
  | p, .mth m o es => fin p (match o with
    | .rf i => fun ρ => match ρ[i]? with
      | some (some (.nd (.obj c _) _ _)) => match C.meth c m with
        | some f => M.bind (evA C es) (fun ds => callM C f (.rf i :: es) (D.non :: ds)) ρ
        | none => .unk
      | _ => .unk
    | o => M.bind (ev C true o) fun x => match x with
      | .nd (.obj c _) _ _ => match C.meth c m with
        | some f => M.bind (evA C es) fun ds => M.chk x.clean (callM C f (o :: es) (x :: ds))
        | none => fun _ => .unk
      | _ => fun _ => .unk)
  | p, .mut k pl es => fin p (fun ρ => match path C pl ρ with
    | some (i, js) => M.chk (lstAt ρ i js) (M.bind (evs C es) (fun ds ρ1 => match js with
      | [] => mutM k i [] ds ρ1
      | _ :: _ => M.chk (nmL es) (fun _ => mutM k i js ds ρ) ρ1)) ρ
    | none => .unk)
  | p, .lc own tg one sk src cond elt => fin p (lcE own tg one sk (evP C src) (evC C cond) (ev C false elt) (nmL cond && nm elt))
/-- displays' items, from the left -/
def evs (C : Calls) : List E → M (List D)
  | [] => M.pure []
  | e :: es => M.bind (ev C false e) fun x => M.bind (evs C es) fun xs => M.pure (x :: xs)
/-- things that are looked at, from the left -/
def evP (C : Calls) : List E → M (List D)
  | [] => M.pure []
  | e :: es => M.bind (ev C true e) fun x => M.bind (evP C es) fun xs => M.chk (x.clean || nmL es) (M.pure (x :: xs))
/-- arguments: frozen -/
def evA (C : Calls) : List E → M (List D)
  | [] => M.pure []
  | e :: es => match rfOf e with
    | some i => fun ρ => match ρ[i]? with
      | some (some _) => M.bind (evA C es) (fun xs => M.pure (D.non :: xs)) ρ
      | _ => .unk
    | none => M.bind (ev C false e) fun x => M.bind (evA C es) fun xs => M.pure (x.frz :: xs)
/-- a comprehension's test -/
def evC (C : Calls) : List E → M Bool
  | [] => M.pure true
  | [e] => M.bind (ev C true e) fun x => match x with
    | .at (.bl b) => M.pure b
    | .at (.int i) => M.pure (i != 0)
    | _ => fun _ => .unk
  | _ => fun _ => .unk
def path (C : Calls) : E → Env → Option (Nat × List Nat)
  | .var i, ρ => match ρ[i]? with
    | some (some _) => some (i, [])
    | _ => none
  | .fld a f, ρ => match path C a ρ with
    | some (i, js) => match ρ[i]? with
      | some (some d) => match (D.get js d).bind (fldP f) with
        | some j => some (i, js ++ [j])
        | none => none
      | _ => none
    | none => none
  | .idx a e, ρ => match path C a ρ with
    | some (i, js) => match ρ[i]?, nm e, ev C true e ρ with
      | some (some d), true, .ok x _ => match (D.get js d).bind fun z => idxP z x with
        | some j => some (i, js ++ [j])
        | none => none
      | _, _, _ => none
    | none => none
  | _, _ => none
end
end Ev

set_option Elab.async false
set_option linter.all false
set_option maxRecDepth 100000
set_option maxHeartbeats 4000000
namespace Ev
open PySem PySem.Spec L2

/-! ## what the evaluator tells, over the heap -/
/-- an exception in the air -/
def RepX (T : Tab) (H : Hp) (fz : Fz) (x : Exn) (cls : Value) (dd : Option Addr) : Prop :=
  cls = T.X x.c ∧ match x.fd with
    | none => dd = none
    | some (f, d) => ∃ a v, dd = some a ∧ H a = some (.xd [(T.f f, v)]) ∧ Rep T H fz d v []
def Val (T : Tab) (p : Bool) (H : Hp) (fz : Fz) (F G : List Addr) (d : D) (v : V) : Prop := match p with
  | true => G = [] ∧ ∃ G0, Rep T H fz d v G0 ∧ ∀ a ∈ G0, a ∈ F
  | false => Rep T H fz d v G
structure Cur (T : Tab) (σ : St) (H : Hp) (fz : Fz) (F : List Addr) (n : Bool) (H1 : Hp) (fz1 : Fz) (F1 G1 : List Addr) (ρ1 : Env) : Prop where
  ext : Ext H fz F H1 fz1 (F1 ++ G1)
  env : EnvR T H1 fz1 ρ1 σ F1
  nm : n = true → F1 = F ∧ ∀ a o, H a = some o → H1 a = some o
def OutX (T : Tab) (W : WX) (σ : St) (H : Hp) (fz : Fz) (F : List Addr) (x : Exn) (ρ' : Env) : Prop :=
  ∀ cls dd H' fz' F', Ext H fz F H' fz' F' → EnvR T H' fz' ρ' σ F' → RepX T H' fz' x cls dd → W cls dd σ H'
def Out (T : Tab) (W : WX) (σ : St) (H : Hp) (fz : Fz) (F : List Addr) (p n : Bool) (r : R D) (Q : VK) : Prop := match r with
  | .ok d ρ' => ∀ v H' fz' F' G, Cur T σ H fz F n H' fz' F' G ρ' → Val T p H' fz' F' G d v → Q v H'
  | .ex x ρ' => OutX T W σ H fz F x ρ'
  | .unk => False
def Tm (T : Tab) (W : WX) (p n : Bool) (m : M D) : TE := fun σ H Q => ∃ fz F ρ, Amb H fz F ∧ EnvR T H fz ρ σ F ∧ Out T W σ H fz F p n (m ρ) Q
/-- .. of a list of things -/
def ValL (T : Tab) (p : Bool) (H : Hp) (fz : Fz) (F G : List Addr) (ds : List D) (vs : List V) : Prop := match p with
  | true => G = [] ∧ ∃ G0, RepL T H fz ds vs G0 ∧ ∀ a ∈ G0, a ∈ F
  | false => RepL T H fz ds vs G
def OutL (T : Tab) (W : WX) (σ : St) (H : Hp) (fz : Fz) (F : List Addr) (p n : Bool) (r : R (List D)) (Q : List V → Hp → Prop) : Prop := match r with
  | .ok ds ρ' => ∀ vs H' fz' F' G, Cur T σ H fz F n H' fz' F' G ρ' → ValL T p H' fz' F' G ds vs → Q vs H'
  | .ex x ρ' => OutX T W σ H fz F x ρ'
  | .unk => False
def TmL (T : Tab) (W : WX) (p n : Bool) (m : M (List D)) : TA := fun σ H Q => ∃ fz F ρ, Amb H fz F ∧ EnvR T H fz ρ σ F ∧ OutL T W σ H fz F p n (m ρ) Q
def OutB (T : Tab) (W : WX) (σ : St) (H : Hp) (fz : Fz) (F : List Addr) (n : Bool) (r : R Bool) (Q : Bool → Hp → Prop) : Prop := match r with
  | .ok b ρ' => ∀ H' fz' F' G, Cur T σ H fz F n H' fz' F' G ρ' → Q b H'
  | .ex x ρ' => OutX T W σ H fz F x ρ'
  | .unk => False
def TmB (T : Tab) (W : WX) (n : Bool) (m : M Bool) : TT := fun σ H Q => ∃ fz F ρ, Amb H fz F ∧ EnvR T H fz ρ σ F ∧ OutB T W σ H fz F n (m ρ) Q

section
variable {T : Tab} {W : WX} {σ : St} {H H1 H2 : Hp} {fz fz1 fz2 : Fz} {F F1 F2 G1 G2 : List Addr} {n p : Bool} {ρ ρ1 ρ2 : Env} {Q : VK}
theorem Cur.refl (a : Amb H fz F) (e : EnvR T H fz ρ σ F) : Cur T σ H fz F n H fz F [] ρ :=
  ⟨by simpa using Ext.refl a, e, fun _ => ⟨rfl, fun _ _ h => h⟩⟩
theorem Cur.amb (c : Cur T σ H fz F n H1 fz1 F1 G1 ρ1) : Amb H1 fz1 F1 := c.ext.amb.left
theorem Cur.drop (c : Cur T σ H fz F n H1 fz1 F1 G1 ρ1) {G : List Addr} (nd : G.Nodup) (h : ∀ a ∈ G, a ∈ G1) : Cur T σ H fz F n H1 fz1 F1 G ρ1 :=
  ⟨c.ext.drop (List.nodup_append.mpr ⟨(List.nodup_append.mp c.ext.amb.nd).1, nd, fun x hx y hy e => (List.nodup_append.mp c.ext.amb.nd).2.2 x hx y (h y hy) e⟩) fun a ha => (List.mem_append.mp ha).elim (List.mem_append_left _) fun q => List.mem_append_right _ (h a q), c.env, c.nm⟩
theorem Cur.drop0 (c : Cur T σ H fz F n H1 fz1 F1 G1 ρ1) : Cur T σ H fz F n H1 fz1 F1 [] ρ1 := c.drop List.nodup_nil (by simp)
theorem Cur.dropL (c : Cur T σ H fz F n H1 fz1 F1 (G1 ++ G2) ρ1) : Cur T σ H fz F n H1 fz1 F1 G2 ρ1 :=
  c.drop (List.nodup_append.mp (List.nodup_append.mp c.ext.amb.nd).2.1).2.1 fun a h => List.mem_append_right _ h
theorem Cur.dropR (c : Cur T σ H fz F n H1 fz1 F1 (G1 ++ G2) ρ1) : Cur T σ H fz F n H1 fz1 F1 G1 ρ1 :=
  c.drop (List.nodup_append.mp (List.nodup_append.mp c.ext.amb.nd).2.1).1 fun a h => List.mem_append_left _ h
theorem Cur.permG (c : Cur T σ H fz F n H1 fz1 F1 G1 ρ1) (h : G1.Perm G2) : Cur T σ H fz F n H1 fz1 F1 G2 ρ1 :=
  c.drop (h.nodup_iff.mp (List.nodup_append.mp c.ext.amb.nd).2.1) fun a q => h.mem_iff.mpr q
theorem Cur.weak (c : Cur T σ H fz F n H1 fz1 F1 G1 ρ1) {n' : Bool} (h : n' = true → n = true) : Cur T σ H fz F n' H1 fz1 F1 G1 ρ1 := ⟨c.ext, c.env, fun q => c.nm (h q)⟩
/-- one step behind another; G1: what the first holds -/
theorem Cur.trans {nb : Bool} (c : Cur T σ H fz F n H1 fz1 F1 G1 ρ1) (d : Cur T σ H1 fz1 F1 nb H2 fz2 F2 G2 ρ2) (hn : n = true → nb = true) : Cur T σ H fz F n H2 fz2 F2 (G2 ++ G1) ρ2 :=
  ⟨by have := c.ext.trans d.ext; rwa [List.append_assoc] at this, d.env, fun q => ⟨(d.nm (hn q)).1.trans (c.nm q).1, fun a o h => (d.nm (hn q)).2 a o ((c.nm q).2 a o h)⟩⟩
/-- what the first holds stays -/
theorem Cur.frT {nb : Bool} (c : Cur T σ H fz F n H1 fz1 F1 G1 ρ1) (d : Cur T σ H1 fz1 F1 nb H2 fz2 F2 G2 ρ2) : Fr H1 fz1 H2 fz2 G1 :=
  d.ext.fr c.amb fun x h q => c.ext.amb.disj q h
/-- .. and what stands in the slots, if the second changes nothing -/
theorem Cur.frN (d : Cur T σ H1 fz1 F1 true H2 fz2 F2 G2 ρ2) {G : List Addr} : Fr H1 fz1 H2 fz2 G :=
  ⟨fun a o h _ => (d.nm rfl).2 a o h, d.ext.fsub⟩

theorem OutX.step {x : Exn} {ρ' : Env} {n : Bool} (c : Cur T σ H fz F n H1 fz1 F1 G1 ρ1) (h : OutX T W σ H fz F x ρ') : OutX T W σ H1 fz1 F1 x ρ' :=
  fun cls dd H' fz' F' e r q => h cls dd H' fz' F' ((c.ext.trans e).drop (List.nodup_append.mp (c.ext.trans e).amb.nd).1 fun a ha => List.mem_append_left _ ha) r q

/-- THE STEP -/
theorem Out.bind {ma : M D} {g : D → M D} {pb nb : Bool} (c : Cur T σ H fz F n H1 fz1 F1 G1 ρ1) (hn : n = true → nb = true) (h : Out T W σ H fz F p n (M.bind ma g ρ1) Q) :
    Tm T W pb nb ma σ H1 fun w H2 => ∃ fz2 F2 G2 y ρ2, Cur T σ H1 fz1 F1 nb H2 fz2 F2 G2 ρ2 ∧ Val T pb H2 fz2 F2 G2 y w ∧ ma ρ1 = .ok y ρ2 ∧ Out T W σ H fz F p n (g y ρ2) Q := by
  refine ⟨fz1, F1, ρ1, c.amb, c.env, ?_⟩
  unfold M.bind at h
  cases e : ma ρ1 with
  | ok y ρ2 =>
    rw [e] at h
    exact fun w H2 fz2 F2 G2 c2 v2 => ⟨fz2, F2, G2, y, ρ2, c2, v2, rfl, h⟩
  | ex x ρ' =>
    rw [e] at h
    exact OutX.step c h
  | unk =>
    rw [e] at h
    exact h.elim
theorem OutL.bind {ma : M D} {g : D → M (List D)} {Q : List V → Hp → Prop} {pb nb : Bool} (c : Cur T σ H fz F n H1 fz1 F1 G1 ρ1) (hn : n = true → nb = true) (h : OutL T W σ H fz F p n (M.bind ma g ρ1) Q) :
    Tm T W pb nb ma σ H1 fun w H2 => ∃ fz2 F2 G2 y ρ2, Cur T σ H1 fz1 F1 nb H2 fz2 F2 G2 ρ2 ∧ Val T pb H2 fz2 F2 G2 y w ∧ ma ρ1 = .ok y ρ2 ∧ OutL T W σ H fz F p n (g y ρ2) Q := by
  refine ⟨fz1, F1, ρ1, c.amb, c.env, ?_⟩
  unfold M.bind at h
  cases e : ma ρ1 with
  | ok y ρ2 =>
    rw [e] at h
    exact fun w H2 fz2 F2 G2 c2 v2 => ⟨fz2, F2, G2, y, ρ2, c2, v2, rfl, h⟩
  | ex x ρ' =>
    rw [e] at h
    exact OutX.step c h
  | unk =>
    rw [e] at h
    exact h.elim
theorem Out.bindL {ma : M (List D)} {g : List D → M D} {pb nb : Bool} (c : Cur T σ H fz F n H1 fz1 F1 G1 ρ1) (hn : n = true → nb = true) (h : Out T W σ H fz F p n (M.bind ma g ρ1) Q) :
    TmL T W pb nb ma σ H1 fun ws H2 => ∃ fz2 F2 G2 ys ρ2, Cur T σ H1 fz1 F1 nb H2 fz2 F2 G2 ρ2 ∧ ValL T pb H2 fz2 F2 G2 ys ws ∧ ma ρ1 = .ok ys ρ2 ∧ Out T W σ H fz F p n (g ys ρ2) Q := by
  refine ⟨fz1, F1, ρ1, c.amb, c.env, ?_⟩
  unfold M.bind at h
  cases e : ma ρ1 with
  | ok y ρ2 =>
    rw [e] at h
    exact fun w H2 fz2 F2 G2 c2 v2 => ⟨fz2, F2, G2, y, ρ2, c2, v2, rfl, h⟩
  | ex x ρ' =>
    rw [e] at h
    exact OutX.step c h
  | unk =>
    rw [e] at h
    exact h.elim
theorem OutL.bindL {ma : M (List D)} {g : List D → M (List D)} {Q : List V → Hp → Prop} {pb nb : Bool} (c : Cur T σ H fz F n H1 fz1 F1 G1 ρ1) (hn : n = true → nb = true) (h : OutL T W σ H fz F p n (M.bind ma g ρ1) Q) :
    TmL T W pb nb ma σ H1 fun ws H2 => ∃ fz2 F2 G2 ys ρ2, Cur T σ H1 fz1 F1 nb H2 fz2 F2 G2 ρ2 ∧ ValL T pb H2 fz2 F2 G2 ys ws ∧ ma ρ1 = .ok ys ρ2 ∧ OutL T W σ H fz F p n (g ys ρ2) Q := by
  refine ⟨fz1, F1, ρ1, c.amb, c.env, ?_⟩
  unfold M.bind at h
  cases e : ma ρ1 with
  | ok y ρ2 =>
    rw [e] at h
    exact fun w H2 fz2 F2 G2 c2 v2 => ⟨fz2, F2, G2, y, ρ2, c2, v2, rfl, h⟩
  | ex x ρ' =>
    rw [e] at h
    exact OutX.step c h
  | unk =>
    rw [e] at h
    exact h.elim
/-- the same where the first part is a whole -/
theorem Tm.bind {ma : M D} {g : D → M D} {pb nb : Bool} (hn : n = true → nb = true) (h : Tm T W p n (M.bind ma g) σ H Q) :
    Tm T W pb nb ma σ H fun w H2 => ∃ fz F fz2 F2 G2 y ρ2, Cur T σ H fz F nb H2 fz2 F2 G2 ρ2 ∧ Val T pb H2 fz2 F2 G2 y w ∧ Out T W σ H fz F p n (g y ρ2) Q := by
  obtain ⟨fz, F, ρ, a, e, h⟩ := h
  obtain ⟨fz', F', ρ', a', e', h'⟩ := Out.bind (pb := pb) (nb := nb) (Cur.refl a e) hn h
  refine ⟨fz', F', ρ', a', e', ?_⟩
  revert h'
  unfold Out
  cases ma ρ' with
  | ok d r =>
    intro h' v H' fz1 F1 G c q
    obtain ⟨fz2, F2, G2, y, ρ2, c2, v2, _, h2⟩ := h' v H' fz1 F1 G c q
    exact ⟨fz, F, fz2, F2, G2, y, ρ2, c2, v2, h2⟩
  | ex x r => exact fun h' => h'
  | unk => exact fun h' => h'

/-! ### what is looked at stays while the next is evaluated -/
/-- v stands for d, held at G or within the slots' F -/
def Held (T : Tab) (H : Hp) (fz : Fz) (F G : List Addr) (d : D) (v : V) : Prop := ∃ G0, Rep T H fz d v G0 ∧ ∀ a ∈ G0, a ∈ F ∨ a ∈ G
theorem Val.held (v : Val T p H fz F G1 d w) : Held T H fz F G1 d w := by
  cases p with
  | true => obtain ⟨e, G0, r, s⟩ := v; exact ⟨G0, r, fun a h => .inl (s a h)⟩
  | false => exact ⟨G1, v, fun a h => .inr h⟩
theorem Held.clean {d : D} {v : V} (h : Held T H fz F G1 d v) (c : d.clean = true) : Rep T H fz d v [] := by
  obtain ⟨G0, r, _⟩ := h
  have e := clean_nil c r
  subst e
  exact r
theorem Held.step {d : D} {v : V} {nb : Bool} (c : Cur T σ H fz F n H1 fz1 F1 G1 ρ1) (h : Held T H1 fz1 F1 G1 d v) (s : Cur T σ H1 fz1 F1 nb H2 fz2 F2 G2 ρ2) (k : (d.clean || nb) = true) : Held T H2 fz2 F2 (G2 ++ G1) d v := by
  rw [Bool.or_eq_true] at k
  rcases k with k | k
  · exact ⟨[], (h.clean k).fr (c.frT s |>.mono (by simp)), by simp⟩
  · subst k
    obtain ⟨G0, r, q⟩ := h
    refine ⟨G0, r.fr s.frN, fun a ha => ?_⟩
    rcases q a ha with q | q
    · exact .inl (by rw [(s.nm rfl).1]; exact q)
    · exact .inr (List.mem_append_right _ q)
end
end Ev

set_option Elab.async false
set_option linter.all false
set_option maxRecDepth 100000
set_option maxHeartbeats 4000000
namespace Ev
open PySem PySem.Spec L2

/-! ## new objects -/
structure Alloc (H H' : Hp) (G : List Addr) : Prop where
  keep : ∀ a o, H a = some o → H' a = some o
  fresh : ∀ a ∈ G, H a = none
  mu : ∀ a ∈ G, Mut (H' a)
  nd : G.Nodup
theorem Alloc.refl {H : Hp} : Alloc H H [] := ⟨fun _ _ h => h, fun _ h => (nomatch h), fun _ h => (nomatch h), List.nodup_nil⟩
theorem upd_keep {H : Hp} {p : Addr} {o : HO} (h : H p = none) : ∀ a u, H a = some u → upd H p o a = some u := fun a u e => by
  rw [upd_ne (ne_of_none e h)]; exact e
theorem Alloc.new {H : Hp} {p : Addr} {o : HO} (h : H p = none) (m : Mut (some o)) : Alloc H (upd H p o) [p] :=
  ⟨upd_keep h, fun a q => by rw [List.mem_singleton.mp q]; exact h, fun a q => by rw [List.mem_singleton.mp q, upd_same]; exact m, by simp⟩
theorem Alloc.new0 {H : Hp} {p : Addr} {o : HO} (h : H p = none) : Alloc H (upd H p o) [] :=
  ⟨upd_keep h, fun _ h => (nomatch h), fun _ h => (nomatch h), List.nodup_nil⟩
section
variable {T : Tab} {W : WX} {σ : St} {H H1 H2 H' : Hp} {fz fz1 fz2 : Fz} {F F1 F2 G G1 G2 : List Addr} {n p : Bool} {ρ ρ1 ρ2 : Env} {Q : VK}
theorem Alloc.fr (a : Alloc H H' G) {G1 : List Addr} : Fr H fz H' fz G1 := ⟨fun b o e _ => a.keep b o e, fun _ h => h⟩
theorem Alloc.ext (a : Alloc H H' G) (am : Amb H fz F) : Ext H fz F H' fz (F ++ G) where
  keep := fun b o e _ => a.keep b o e
  fsub := fun _ h => h
  fnew := fun _ h => .inl h
  pnew := fun b hb => (List.mem_append.mp hb).imp_right (a.fresh b)
  dom := fun b hb => by
    cases e : H b with
    | none => exact absurd e hb
    | some o => rw [a.keep b o e]; simp
  amb := by
    refine ⟨List.nodup_append.mpr ⟨am.nd, a.nd, fun x hx y hy e => ?_⟩, fun x hx => ?_, fun x hx => ?_, fun x hx => ?_⟩
    · subst e; exact am.ne hx (a.fresh x hy)
    · rcases List.mem_append.mp hx with hx | hx
      · have := am.mu x hx
        cases e : H x with
        | none => exact absurd e (am.ne hx)
        | some o => rw [a.keep x o e, ← e]; exact this
      · exact a.mu x hx
    · rcases List.mem_append.mp hx with hx | hx
      · exact am.sep x hx
      · exact fun z => am.there x z (a.fresh x hx)
    · have h0 := am.there x hx
      cases e : H x with
      | none => exact absurd e h0
      | some o => rw [a.keep x o e]; simp
theorem Cur.alloc (c : Cur T σ H fz F n H1 fz1 F1 G1 ρ1) (a : Alloc H1 H2 G2) : Cur T σ H fz F n H2 fz1 F1 (G2 ++ G1) ρ1 :=
  c.trans (nb := true) ⟨by have := a.ext (F := F1) c.amb; exact this, c.env.fr a.fr, fun _ => ⟨rfl, a.keep⟩⟩ fun _ => rfl
theorem Alloc.mut (a : Alloc H H' G) : True := trivial

/-! ## fin -/
theorem Cur.frz (c : Cur T σ H fz F n H1 fz1 F1 G1 ρ1) : Cur T σ H fz F n H1 (fzAdd fz1 G1) F1 [] ρ1 :=
  ⟨by have := c.ext.frz; rwa [List.append_nil], c.env.fr fr_frz, c.nm⟩
theorem Out.fin {m : M D} {ρ : Env} (h : Out T W σ H fz F p n (fin p m ρ) Q) : Out T W σ H fz F false n (m ρ) Q := by
  unfold Ev.fin at h
  cases e : m ρ with
  | ok d ρ' =>
    rw [e] at h
    cases p with
    | false => exact h
    | true =>
      intro v H' fz' F' G c r
      exact h v H' (fzAdd fz' G) F' [] c.frz ⟨rfl, [], Rep.frz r (fun a h => h), by simp⟩
  | ex x ρ' => rw [e] at h; exact h
  | unk => rw [e] at h; exact h
theorem Tm.fin {m : M D} {H : Hp} (h : Tm T W p n (fin p m) σ H Q) : Tm T W false n m σ H Q := by
  obtain ⟨fz, F, ρ, a, e, h⟩ := h
  exact ⟨fz, F, ρ, a, e, h.fin⟩
theorem PE.imp {X : Cx} {e : Expr} {t u : TE} (h : PE X e t) (i : ∀ σ H Q, u σ H Q → t σ H Q) : PE X e u := ⟨fun pins s σ H Q I w => h.run pins s σ H Q I (i σ H Q w)⟩
theorem PE.fin {X : Cx} {e : Expr} {m : M D} (h : PE X e (Tm T W false n m)) : PE X e (Tm T W p n (fin p m)) := PE.imp h fun _ _ _ w => w.fin
end

/-! ## lists of data -/
section
variable {T : Tab} {H : Hp} {fz : Fz}
theorem RepL.len : ∀ {xs : List D} {vs : List V} {G : List Addr}, RepL T H fz xs vs G → xs.length = vs.length
  | [], _, _, h => by rw [h.1]; rfl
  | x :: xs, _, _, h => by
    obtain ⟨v, r, F1, F2, e1, e2, h1, h2⟩ := h
    subst e1
    simp [RepL.len h2]
theorem RepL.get : ∀ {xs : List D} {vs : List V} {G : List Addr} {j : Nat} {x : D}, RepL T H fz xs vs G → xs[j]? = some x → ∃ v B, vs[j]? = some v ∧ Rep T H fz x v B ∧ ∀ a ∈ B, a ∈ G
  | [], _, _, _, _, _, e => by simp at e
  | x :: xs, _, _, 0, y, h, e => by
    obtain ⟨v, r, F1, F2, e1, e2, h1, h2⟩ := h
    subst e1; subst e2
    have : x = y := by simpa using e
    subst this
    exact ⟨v, F1, rfl, h1, fun a q => List.mem_append_left _ q⟩
  | x :: xs, _, _, j + 1, y, h, e => by
    obtain ⟨v, r, F1, F2, e1, e2, h1, h2⟩ := h
    subst e1; subst e2
    obtain ⟨w, B, e3, r3, s3⟩ := RepL.get (j := j) h2 (by simpa using e)
    exact ⟨w, B, by simpa using e3, r3, fun a q => List.mem_append_right _ (s3 a q)⟩
theorem RepL.append : ∀ {xs ys : List D} {vs ws : List V} {G G' : List Addr}, RepL T H fz xs vs G → RepL T H fz ys ws G' → RepL T H fz (xs ++ ys) (vs ++ ws) (G ++ G')
  | [], ys, vs, ws, G, G', h, h' => by obtain ⟨e1, e2⟩ := h; subst e1; subst e2; simpa using h'
  | x :: xs, ys, vs, ws, G, G', h, h' => by
    obtain ⟨v, r, F1, F2, e1, e2, h1, h2⟩ := h
    subst e1; subst e2
    exact ⟨v, r ++ ws, F1, F2 ++ G', rfl, by simp, h1, RepL.append h2 h'⟩
theorem RepL.split : ∀ {xs ys : List D} {vs : List V} {G : List Addr}, RepL T H fz (xs ++ ys) vs G → ∃ vs1 vs2 G1 G2, vs = vs1 ++ vs2 ∧ G = G1 ++ G2 ∧ RepL T H fz xs vs1 G1 ∧ RepL T H fz ys vs2 G2
  | [], ys, vs, G, h => ⟨[], vs, [], G, rfl, rfl, ⟨rfl, rfl⟩, h⟩
  | x :: xs, ys, vs, G, h => by
    obtain ⟨v, r, F1, F2, e1, e2, h1, h2⟩ := h
    obtain ⟨vs1, vs2, G1, G2, e3, e4, h3, h4⟩ := RepL.split h2
    exact ⟨v :: vs1, vs2, F1 ++ G1, G2, by rw [e1, e3]; rfl, by rw [e2, e4]; simp, ⟨v, vs1, F1, G1, rfl, rfl, h1, h3⟩, h4⟩
theorem cleanL_append : ∀ xs ys : List D, D.cleanL (xs ++ ys) = (D.cleanL xs && D.cleanL ys)
  | [], ys => rfl
  | x :: xs, ys => by show (D.clean x && D.cleanL (xs ++ ys)) = ((D.clean x && D.cleanL xs) && D.cleanL ys); rw [cleanL_append xs ys, Bool.and_assoc]
theorem RepL.cl {xs : List D} {vs : List V} {G : List Addr} (c : D.cleanL xs = true) (h : RepL T H fz xs vs G) : RepL T H fz xs vs [] := by
  have e := clean_nil.cleanL_nil c h
  subst e; exact h
theorem RepL.takeDrop {xs : List D} {vs : List V} (k : Nat) (h : RepL T H fz xs vs []) : RepL T H fz (xs.take k) (vs.take k) [] ∧ RepL T H fz (xs.drop k) (vs.drop k) [] := by
  have e : xs = xs.take k ++ xs.drop k := (List.take_append_drop k xs).symm
  rw [e] at h
  obtain ⟨v1, v2, G1, G2, e1, e2, h1, h2⟩ := RepL.split h
  have e2' := List.append_eq_nil_iff.mp e2.symm
  obtain ⟨rfl, rfl⟩ := e2'
  have l1 := h1.len
  have l2 := h2.len
  have tk : vs.take k = v1 := by
    rw [e1]
    by_cases hk : k ≤ xs.length
    · have : v1.length = k := by rw [← l1, List.length_take]; omega
      rw [List.take_append_of_le_length (by omega), List.take_of_length_le (by omega)]
    · have : (xs.drop k) = [] := List.drop_eq_nil_of_le (by omega)
      rw [this] at l2
      have : v2 = [] := List.eq_nil_of_length_eq_zero l2.symm
      subst this
      rw [List.append_nil, List.take_of_length_le]
      rw [← l1, List.length_take]; omega
  have dk : vs.drop k = v2 := by
    have := List.take_append_drop k vs
    rw [tk] at this
    conv at this => rhs; rw [e1]
    exact List.append_cancel_left this
  rw [tk, dk]
  exact ⟨h1, h2⟩
theorem RepL.rev : ∀ {xs : List D} {vs : List V}, RepL T H fz xs vs [] → RepL T H fz xs.reverse vs.reverse []
  | [], vs, h => by have e := h.1; subst e; exact ⟨rfl, rfl⟩
  | x :: xs, vs, h => by
    obtain ⟨v, r, F1, F2, e1, e2, h1, h2⟩ := h
    subst e1
    obtain ⟨rfl, rfl⟩ := List.append_eq_nil_iff.mp e2.symm
    rw [List.reverse_cons, List.reverse_cons]
    have := RepL.append (RepL.rev h2) (show RepL T H fz [x] [v] [] from ⟨v, [], [], [], rfl, rfl, h1, rfl, rfl⟩)
    simpa using this
theorem RepL.rep {xs : List D} {vs : List V} (h : RepL T H fz xs vs []) : ∀ k : Nat, RepL T H fz (List.replicate k xs).flatten (List.replicate k vs).flatten []
  | 0 => ⟨rfl, rfl⟩
  | k + 1 => by
    rw [List.replicate_succ, List.flatten_cons, List.replicate_succ, List.flatten_cons]
    have := RepL.append h (RepL.rep h k)
    simpa using this
theorem RepL.cut {xs : List D} {vs : List V} (lo hi : Option Int) (h : RepL T H fz xs vs []) : RepL T H fz (cutD xs lo hi) (cutV vs lo hi) [] := by
  unfold cutD cutV
  rw [h.len]
  exact ((h.takeDrop _).2.takeDrop _).1
theorem RepL.ints : ∀ {xs : List D} {vs : List V} {G : List Addr} {is : List Int}, intsOf xs = some is → RepL T H fz xs vs G → vs = is.map V.int
  | [], vs, G, is, e, h => by
    have e : some [] = some is := e
    cases e; exact h.1
  | .at (.int i) :: xs, vs, G, is, e, h => by
    have e : (intsOf xs).map (i :: ·) = some is := e
    obtain ⟨js, e1, e2⟩ := Option.map_eq_some_iff.mp e
    obtain ⟨v, r, F1, F2, e3, e4, h1, h2⟩ := h
    have hv : v = .int i := h1.1
    rw [e3, ← e2, hv, RepL.ints e1 h2]; rfl
  | .at .non :: xs, vs, G, is, e, h => by cases e
  | .at (.bl _) :: xs, vs, G, is, e, h => by cases e
  | .at (.str _) :: xs, vs, G, is, e, h => by cases e
  | .nd _ _ _ :: xs, vs, G, is, e, h => by cases e
theorem RepL.bls : ∀ {xs : List D} {vs : List V} {G : List Addr} {is : List Bool}, blsOf xs = some is → RepL T H fz xs vs G → vs = is.map V.bl
  | [], vs, G, is, e, h => by
    have e : some [] = some is := e
    cases e; exact h.1
  | .at (.bl i) :: xs, vs, G, is, e, h => by
    have e : (blsOf xs).map (i :: ·) = some is := e
    obtain ⟨js, e1, e2⟩ := Option.map_eq_some_iff.mp e
    obtain ⟨v, r, F1, F2, e3, e4, h1, h2⟩ := h
    have hv : v = .bl i := h1.1
    rw [e3, ← e2, hv, RepL.bls e1 h2]; rfl
  | .at .non :: xs, vs, G, is, e, h => by cases e
  | .at (.int _) :: xs, vs, G, is, e, h => by cases e
  | .at (.str _) :: xs, vs, G, is, e, h => by cases e
  | .nd _ _ _ :: xs, vs, G, is, e, h => by cases e
theorem repL_ints : ∀ is : List Int, RepL T H fz (is.map D.int) (is.map V.int) []
  | [] => ⟨rfl, rfl⟩
  | i :: is => ⟨.int i, is.map V.int, [], [], rfl, rfl, ⟨rfl, rfl⟩, repL_ints is⟩
theorem keyOf_eq {d : D} {k : Key} (h : keyOf d = some k) : d = keyD k := by
  cases d with
  | «at» a => cases a <;> first | (cases h; rfl) | cases h
  | nd _ _ _ => cases h
theorem rep_key {k : Key} {v : V} {G : List Addr} (h : Rep T H fz (keyD k) v G) : v = kV k := by
  cases k with
  | inl i => exact h.1
  | inr x => exact h.1
theorem RepL.keys : ∀ {xs : List D} {vs : List V} {G : List Addr} {ks : List Key}, keysOf xs = some ks → RepL T H fz xs vs G → vs = ks.map kV
  | [], vs, G, ks, e, h => by
    have e : some [] = some ks := e
    cases e; exact h.1
  | x :: xs, vs, G, ks, e, h => by
    have e : (match keyOf x, keysOf xs with | some k, some ks => some (k :: ks) | _, _ => none) = some ks := e
    cases e1 : keyOf x with
    | none => rw [e1] at e; cases e
    | some k =>
      cases e2 : keysOf xs with
      | none => rw [e1, e2] at e; cases e
      | some ks' =>
        rw [e1, e2] at e
        cases e
        obtain ⟨v, r, F1, F2, e3, e4, h1, h2⟩ := h
        have hx := keyOf_eq e1
        subst hx
        rw [e3, rep_key h1, RepL.keys e2 h2]; rfl

/-! ## nodes -/
theorem tup_of {a : Addr} {vs : List V} {fz : Fz} (h : HK T H fz false .tup a vs) : H a = some (.tup vs) := by
  rcases h with ⟨_, o, e, q⟩ | ⟨c, _⟩ | h
  · have q : o = .tup vs := q
    subst q; exact e
  · cases c
  · exact h.elim
theorem sqT_of {a : Addr} {vs : List V} {fz : Fz} (h : HK T H fz false .tup a vs) : SqT T.K H a vs := .inl (.inl (tup_of h))
theorem lst_of {m : Bool} {a : Addr} {vs : List V} {fz : Fz} (h : HK T H fz m .lst a vs) : H a = some (.lst vs) := by
  cases m with
  | true => obtain ⟨_, _, o, e, q⟩ := h; have q : o = .lst vs := q; subst q; exact e
  | false =>
    rcases h with ⟨_, o, e, q⟩ | ⟨c, _⟩ | h
    · have q : o = .lst vs := q
      subst q; exact e
    · cases c
    · exact h.elim
theorem scr_of {m : Bool} {a : Addr} {vs : List V} {fz : Fz} (h : HK T H fz m .scr a vs) : SqL T.K H a vs := by
  cases m with
  | true => obtain ⟨_, c, _⟩ := h; cases c
  | false =>
    rcases h with ⟨_, o, e, q⟩ | ⟨_, _, ob, u, e, q⟩ | h
    · have q : o = .lst vs := q
      subst q; exact .inl (.inl e)
    · have q : u = .lst vs := q
      subst q; exact .inl (.inr ⟨ob, e⟩)
    · exact .inr h
theorem dk_of {m : Bool} {a : Addr} {ks : List Key} {vs : List V} {fz : Fz} (h : HK T H fz m (.dk ks) a vs) : ks.length = vs.length ∧ H a = some (.dK (ks.zip vs)) := by
  cases m with
  | true => obtain ⟨_, _, o, e, q1, q2, q⟩ := h; subst q; exact ⟨q1, e⟩
  | false =>
    rcases h with ⟨_, o, e, q1, q2, q⟩ | ⟨c, _⟩ | h
    · subst q; exact ⟨q1, e⟩
    · cases c
    · exact h.elim
theorem dk_nd {m : Bool} {a : Addr} {ks : List Key} {vs : List V} {fz : Fz} (h : HK T H fz m (.dk ks) a vs) : ks.Nodup := by
  cases m with
  | true => obtain ⟨_, _, o, e, q1, q2, q⟩ := h; subst q; exact q2
  | false =>
    rcases h with ⟨_, o, e, q1, q2, q⟩ | ⟨c, _⟩ | h
    · subst q; exact q2
    · cases c
    · exact h.elim
theorem dt_of {m : Bool} {a : Addr} {ks : List (List Key)} {vs : List V} {fz : Fz} (h : HK T H fz m (.dt ks) a vs) : ks.length = vs.length ∧ H a = some (.dT (ks.zip vs)) := by
  cases m with
  | true => obtain ⟨_, _, o, e, q1, q2, q⟩ := h; subst q; exact ⟨q1, e⟩
  | false =>
    rcases h with ⟨_, o, e, q1, q2, q⟩ | ⟨c, _⟩ | h
    · subst q; exact ⟨q1, e⟩
    · cases c
    · exact h.elim
theorem dt_nd {m : Bool} {a : Addr} {ks : List (List Key)} {vs : List V} {fz : Fz} (h : HK T H fz m (.dt ks) a vs) : ks.Nodup := by
  cases m with
  | true => obtain ⟨_, _, o, e, q1, q2, q⟩ := h; subst q; exact q2
  | false =>
    rcases h with ⟨_, o, e, q1, q2, q⟩ | ⟨c, _⟩ | h
    · subst q; exact q2
    · cases c
    · exact h.elim
theorem obj_of {m : Bool} {a : Addr} {c : Nat} {fs : List Nat} {vs : List V} {fz : Fz} (h : HK T H fz m (.obj c fs) a vs) : fs.length = vs.length ∧ (∀ f ∈ fs, f < T.nf) ∧ ∃ dx, H a = some (.ins (T.C c) dx ((fs.map T.f).zip vs)) := by
  cases m with
  | true => obtain ⟨_, _, o, e, q1, q2, dx, q⟩ := h; subst q; exact ⟨q1, q2, dx, e⟩
  | false =>
    rcases h with ⟨_, o, e, q1, q2, dx, q⟩ | ⟨c, _⟩ | h
    · subst q; exact ⟨q1, q2, dx, e⟩
    · cases c
    · exact h.elim
/-- a tuple's value -/
theorem Rep.tup {xs : List D} {v : V} {G : List Addr} {m : Bool} (h : Rep T H fz (.nd .tup m xs) v G) : ∃ a vs, v = .ref a ∧ H a = some (.tup vs) ∧ RepL T H fz xs vs G := by
  obtain ⟨a, vs, G1, e, hk, hl, ho⟩ := h
  cases m with
  | true => exact absurd rfl hk.1
  | false =>
    have ho : G = G1 := ho
    subst ho
    exact ⟨a, vs, e, tup_of hk, hl⟩
theorem Rep.lst {xs : List D} {v : V} {G : List Addr} {m : Bool} (h : Rep T H fz (.nd .lst m xs) v G) : ∃ a vs G1, v = .ref a ∧ H a = some (.lst vs) ∧ RepL T H fz xs vs G1 ∧ (∀ b ∈ G1, b ∈ G) ∧ (m = true → G = a :: G1) ∧ (m = false → G = []) := by
  obtain ⟨a, vs, G1, e, hk, hl, ho⟩ := h
  refine ⟨a, vs, G1, e, lst_of hk, hl, ho.sub, fun q => ?_, fun q => ?_⟩
  · subst q; exact ho
  · subst q; exact ho.1
theorem rep_tup {a : Addr} {xs : List D} {vs : List V} {G : List Addr} (h : H a = some (.tup vs)) (r : RepL T H fz xs vs G) : Rep T H fz (D.tup xs) (.ref a) G :=
  ⟨a, vs, G, rfl, .inl ⟨.inl rfl, _, h, rfl⟩, r, rfl⟩
theorem rep_lst {a : Addr} {xs : List D} {vs : List V} {G : List Addr} (h : H a = some (.lst vs)) (r : RepL T H fz xs vs G) : Rep T H fz (D.lst true xs) (.ref a) (a :: G) :=
  ⟨a, vs, G, rfl, ⟨by simp, by simp, _, h, rfl⟩, r, rfl⟩
end
end Ev

set_option Elab.async false
set_option linter.all false
set_option maxRecDepth 100000
set_option maxHeartbeats 4000000
namespace Ev
open PySem PySem.Spec L2

section
variable {T : Tab} {W : WX} {σ : St} {H H1 H2 H' : Hp} {fz fz1 fz2 : Fz} {F F1 F2 G G1 G2 : List Addr} {n p : Bool} {ρ ρ1 ρ2 : Env} {Q : VK}
/-- a value is handed on: d, perhaps with new objects -/
def Give (T : Tab) (H : Hp) (fz : Fz) (d : D) (Q : VK) : Prop := ∀ v H' G', Alloc H H' G' → Rep T H' fz d v G' → Q v H'
theorem Give.at {a : At} (g : Give T H fz (.at a) Q) : Q a.v H := g _ _ _ .refl ⟨rfl, rfl⟩
/-- the end of an expression that is no place -/
theorem Out.give {d : D} (c : Cur T σ H fz F n H1 fz1 F1 G1 ρ1) (h : Out T W σ H fz F false n (M.lift (some d) ρ1) Q) : Give T H1 fz1 d Q := fun v H' G' a r =>
  h v H' fz1 F1 G' (c.alloc a).dropR r
theorem Out.lift {o : Option D} (h : Out T W σ H fz F p n (M.lift o ρ1) Q) : ∃ d, o = some d ∧ Out T W σ H fz F p n (M.lift (some d) ρ1) Q := by
  cases o with
  | some d => exact ⟨d, rfl, h⟩
  | none => exact h.elim
theorem Out.chk {b : Bool} {m : M D} (h : Out T W σ H fz F p n (M.chk b m ρ1) Q) : b = true ∧ Out T W σ H fz F p n (m ρ1) Q := by
  cases b with
  | true => exact ⟨rfl, h⟩
  | false => exact h.elim
theorem Tm.mono {m : M D} {Q' : VK} {H : Hp} (h : Tm T W p n m σ H Q) (i : ∀ v H', Q v H' → Q' v H') : Tm T W p n m σ H Q' := by
  obtain ⟨fz, F, ρ, a, e, h⟩ := h
  refine ⟨fz, F, ρ, a, e, ?_⟩
  revert h
  unfold Out
  cases m ρ with
  | ok d ρ' => exact fun h v H' fz' F' G c r => i _ _ (h v H' fz' F' G c r)
  | ex x ρ' => exact fun h => h
  | unk => exact fun h => h
theorem TmL.mono {m : M (List D)} {Q Q' : List V → Hp → Prop} {H : Hp} (h : TmL T W p n m σ H Q) (i : ∀ v H', Q v H' → Q' v H') : TmL T W p n m σ H Q' := by
  obtain ⟨fz, F, ρ, a, e, h⟩ := h
  refine ⟨fz, F, ρ, a, e, ?_⟩
  revert h
  unfold OutL
  cases m ρ with
  | ok d ρ' => exact fun h v H' fz' F' G c r => i _ _ (h v H' fz' F' G c r)
  | ex x ρ' => exact fun h => h
  | unk => exact fun h => h

/-- from the start: Tm of a bind -/
theorem Tm.start {m : M D} (h : Tm T W p n m σ H Q) : ∃ fz F ρ, Cur T σ H fz F n H fz F [] ρ ∧ Out T W σ H fz F p n (m ρ) Q := by
  obtain ⟨fz, F, ρ, a, e, h⟩ := h
  exact ⟨fz, F, ρ, Cur.refl a e, h⟩

/-- one operand -/
theorem one_core {ma : M D} {f : D → Option D} {na : Bool} (hn : n = true → na = true) (h : Tm T W false n (M.bind ma fun x => M.lift (f x)) σ H Q) :
    Tm T W true na ma σ H fun v H1 => ∃ fz F G x d, Held T H1 fz F G x v ∧ f x = some d ∧ Give T H1 fz d Q := by
  obtain ⟨fz, F, ρ, c, h⟩ := h.start
  refine (Out.bind c hn h).mono ?_
  rintro v H1 ⟨fz1, F1, G1, x, ρ1, c1, v1, _, h1⟩
  obtain ⟨d, e, h2⟩ := h1.lift
  exact ⟨fz1, F1, G1, x, d, v1.held, e, h2.give (c.trans c1 hn)⟩
/-- two operands -/
theorem two_core {ma mb : M D} {f : D → D → Option D} {na nb : Bool} (hn : n = true → na = true) (hm : n = true → nb = true)
    (h : Tm T W false n (M.bind ma fun x => M.bind mb fun y => M.chk (x.clean || nb) (M.lift (f x y))) σ H Q) :
    Tm T W true na ma σ H fun v H1 => Tm T W true nb mb σ H1 fun w H2 => ∃ fz F G x y d, Held T H2 fz F G x v ∧ Held T H2 fz F G y w ∧ f x y = some d ∧ Give T H2 fz d Q := by
  obtain ⟨fz, F, ρ, c, h⟩ := h.start
  refine (Out.bind c hn h).mono ?_
  rintro v H1 ⟨fz1, F1, G1, x, ρ1, c1, v1, _, h1⟩
  have c01 := c.trans c1 hn
  refine (Out.bind c01 hm h1).mono ?_
  rintro w H2 ⟨fz2, F2, G2, y, ρ2, c2, v2, _, h2⟩
  obtain ⟨k, h3⟩ := h2.chk
  obtain ⟨d, e, h4⟩ := h3.lift
  have hx : Held T H2 fz2 F2 (G2 ++ (G1 ++ [])) x v := by
    refine Held.step c01 ?_ c2 k
    obtain ⟨G0, r, s⟩ := v1.held
    exact ⟨G0, r, fun a ha => (s a ha).imp_right (List.mem_append_left _)⟩
  obtain ⟨G0, r0, s0⟩ := v2.held
  exact ⟨fz2, F2, _, x, y, d, hx, ⟨G0, r0, fun a ha => (s0 a ha).imp_right (List.mem_append_left _)⟩, e, h4.give (c01.trans c2 hm)⟩
end

/-! ## arithmetic -/
section
variable {X : Cx} {T : Tab} {W : WX} {n p : Bool}
def opO : BO → Operator
  | .add => .Add | .sub => .Sub | .mul => .Mult | .fdiv => .FloorDiv | .mod => .Mod | .pow => .Pow | .shl => .LShift | .shr => .RShift | .band => .BitAnd | .bor => .BitOr
/-- what an operator asks, by the evaluator -/
def rBin (T : Tab) (o : BO) : R2 := fun v w H Q => ∃ fz F G x y d, Held T H fz F G x v ∧ Held T H fz F G y w ∧ binD o x y = some d ∧ Give T H fz d Q
theorem bigB_ok {i : Int} (h : bigB i = true) : -(2 ^ 64) < i ∧ i < 2 ^ 64 := by
  unfold bigB at h
  rw [Bool.and_eq_true, decide_eq_true_eq, decide_eq_true_eq] at h
  exact h
theorem powB_ok {i j : Int} (h : powB i j = true) : CPow i j := by
  unfold powB at h
  rw [Bool.and_eq_true, Bool.and_eq_true, decide_eq_true_eq, decide_eq_true_eq, decide_eq_true_eq] at h
  exact h
theorem op_bin_int (o : BO) : OpR X (binaryOp (opO o)) (fun x y H Q => ∃ i j k, x = .int i ∧ y = .int j ∧ binI o i j = some k ∧ Q (.int k) H) := by
  intro pins s σ H x y v u Q I rx ry h
  obtain ⟨i, j, k, rfl, rfl, e, q⟩ := h
  cases o with
  | add => cases e; exact op_add pins s σ H _ _ v u Q I rx ry ⟨i, j, rfl, rfl, q⟩
  | sub => cases e; exact op_sub pins s σ H _ _ v u Q I rx ry ⟨i, j, rfl, rfl, q⟩
  | mul =>
    simp only [binI] at e
    split at e
    · rename_i hb
      cases e
      rw [Bool.or_eq_true] at hb
      exact op_mul pins s σ H _ _ v u Q I rx ry ⟨i, j, rfl, rfl, hb.imp bigB_ok bigB_ok, q⟩
    · cases e
  | fdiv =>
    simp only [binI] at e
    split at e
    · rename_i hb
      cases e
      rw [Bool.and_eq_true, decide_eq_true_eq, decide_eq_true_eq] at hb
      exact op_fdiv pins s σ H _ _ v u Q I rx ry ⟨i, j, rfl, rfl, hb, q⟩
    · cases e
  | mod =>
    simp only [binI] at e
    split at e
    · rename_i hb
      cases e
      rw [decide_eq_true_eq] at hb
      exact op_mod pins s σ H _ _ v u Q I rx ry ⟨i, j, rfl, rfl, hb, q⟩
    · cases e
  | pow =>
    simp only [binI] at e
    split at e
    · rename_i hb
      cases e
      exact op_pow pins s σ H _ _ v u Q I rx ry ⟨i, j, rfl, rfl, powB_ok hb, q⟩
    · cases e
  | shl =>
    simp only [binI] at e
    split at e
    · rename_i hb
      cases e
      exact op_shl pins s σ H _ _ v u Q I rx ry ⟨i, j, rfl, rfl, powB_ok hb, q⟩
    · cases e
  | shr =>
    simp only [binI] at e
    split at e
    · rename_i hb
      cases e
      rw [decide_eq_true_eq] at hb
      exact op_shr pins s σ H _ _ v u Q I rx ry ⟨i, j, rfl, rfl, hb, q⟩
    · cases e
  | band => cases e; exact op_and pins s σ H _ _ v u Q I rx ry ⟨i, j, rfl, rfl, q⟩
  | bor => cases e; exact op_or pins s σ H _ _ v u Q I rx ry ⟨i, j, rfl, rfl, q⟩
theorem lineB_ok {k : Nat} (h : lineB k = true) : k ≤ sizeLine := of_decide_eq_true h
/-- a list that is looked at and whose items are clean -/
theorem Held.lstC {H : Hp} {fz : Fz} {F G : List Addr} {m : Bool} {xs : List D} {v : V} (h : Held T H fz F G (.nd .lst m xs) v) (c : D.cleanL xs = true) : ∃ a vs, v = .ref a ∧ H a = some (.lst vs) ∧ RepL T H fz xs vs [] := by
  obtain ⟨G0, r, _⟩ := h
  obtain ⟨a, vs, G1, e, ha, hl, _⟩ := r.lst
  exact ⟨a, vs, e, ha, hl.cl c⟩
theorem Held.tupC {H : Hp} {fz : Fz} {F G : List Addr} {m : Bool} {xs : List D} {v : V} (h : Held T H fz F G (.nd .tup m xs) v) (c : D.cleanL xs = true) : ∃ a vs, v = .ref a ∧ SqT T.K H a vs ∧ HK T H fz false .tup a vs ∧ RepL T H fz xs vs [] := by
  obtain ⟨G0, r, _⟩ := h
  obtain ⟨a, vs, G1, e, hk, hl, ho⟩ := r
  cases m with
  | true => exact absurd rfl hk.1
  | false => exact ⟨a, vs, e, sqT_of hk, hk, hl.cl c⟩
theorem Held.at {H : Hp} {fz : Fz} {F G : List Addr} {a : At} {v : V} (h : Held T H fz F G (.at a) v) : v = a.v := by
  obtain ⟨G0, r, _⟩ := h
  exact r.1
theorem Give.lst {H : Hp} {fz : Fz} {Q : VK} {xs : List D} {vs : List V} (g : Give T H fz (D.lst true xs) Q) (r : RepL T H fz xs vs []) : ∀ q, H q = none → Q (.ref q) (upd H q (.lst vs)) := fun q hq =>
  g _ _ _ (.new (o := .lst vs) hq True.intro) (rep_lst upd_same (r.fr (Alloc.fr (.new (o := .lst vs) hq True.intro))))
theorem Give.tup {H : Hp} {fz : Fz} {Q : VK} {xs : List D} {vs : List V} (g : Give T H fz (D.tup xs) Q) (r : RepL T H fz xs vs []) : ∀ q, H q = none → Q (.ref q) (upd H q (.tup vs)) := fun q hq =>
  g _ _ _ (.new0 hq) (rep_tup upd_same (r.fr (Alloc.fr (.new0 hq))))
/-- the tuple that stands already -/
theorem Give.tup0 {H : Hp} {fz : Fz} {Q : VK} {xs : List D} {a : Addr} {vs : List V} (g : Give T H fz (D.tup xs) Q) (h : HK T H fz false .tup a vs) (r : RepL T H fz xs vs []) : Q (.ref a) H :=
  g _ _ _ .refl ⟨a, vs, [], rfl, h, r, rfl⟩
theorem op_bin (o : BO) (hK : X.K = T.K) : OpR X (binaryOp (opO o)) (rBin T o) := by
  intro pins s σ H v w vv uu Q I rx ry h
  obtain ⟨fz, F, G, x, y, d, hx, hy, e, g⟩ := h
  have hInt : ∀ i j, x = D.int i → y = D.int j → wpAny (model X.prog X.w) X.A (binaryOp (opO o) vv uu) (EP X pins σ Q) X.xe s := by
    rintro i j rfl rfl
    have e : (binI o i j).map D.int = some d := by cases o <;> exact e
    obtain ⟨k, e1, e2⟩ := Option.map_eq_some_iff.mp e
    subst e2
    exact op_bin_int o pins s σ H v w vv uu Q I rx ry ⟨i, j, k, hx.at, hy.at, e1, g.at⟩
  unfold binD at e
  split at e
  · exact hInt _ _ rfl rfl
  · rename_i xs ys
    split at e
    · rename_i hc
      cases e
      rw [Bool.and_eq_true, Bool.and_eq_true] at hc
      obtain ⟨a, vs, e1, s1, k1, r1⟩ := hx.tupC hc.2.1
      obtain ⟨b, ws, e2, s2, k2, r2⟩ := hy.tupC hc.2.2
      subst e1; subst e2
      refine op_catA pins s σ H _ _ vv uu Q I rx ry ⟨a, b, vs, ws, rfl, rfl, by rw [hK]; exact s1, by rw [hK]; exact s2, by rw [← r1.len, ← r2.len]; exact lineB_ok hc.1, fun z => ?_, fun z z2 => ?_, fun z z2 => ?_⟩
      · subst z
        have : xs = [] := List.eq_nil_of_length_eq_zero r1.len
        subst this
        exact g.tup0 k2 r2
      · subst z2
        have : ys = [] := List.eq_nil_of_length_eq_zero r2.len
        subst this
        rw [List.append_nil] at g
        exact g.tup0 k1 r1
      · exact g.tup (by simpa using r1.append r2)
    · cases e
  · rename_i m1 xs m2 ys
    split at e
    · rename_i hc
      cases e
      rw [Bool.and_eq_true, Bool.and_eq_true] at hc
      obtain ⟨a, vs, e1, s1, r1⟩ := hx.lstC hc.2.1
      obtain ⟨b, ws, e2, s2, r2⟩ := hy.lstC hc.2.2
      subst e1; subst e2
      exact op_cat pins s σ H _ _ vv uu Q I rx ry ⟨a, b, vs, ws, rfl, rfl, s1, s2, by rw [← r1.len, ← r2.len]; exact lineB_ok hc.1, g.lst (by simpa using r1.append r2)⟩
    · cases e
  · rename_i xs k
    split at e
    · rename_i hc
      cases e
      simp only [Bool.and_eq_true, decide_eq_true_eq, Bool.not_eq_true', List.isEmpty_eq_false_iff] at hc
      obtain ⟨h0, h1, h2, h3, h4⟩ := hc
      obtain ⟨a, vs, e1, s1, k1, r1⟩ := hx.tupC h4
      have e2 := hy.at
      subst e1; subst e2
      have hne : vs ≠ [] := fun z => by subst z; exact h0 (List.eq_nil_of_length_eq_zero r1.len)
      by_cases k2 : 2 ≤ k
      · exact op_repT pins s σ H _ _ vv uu Q I rx ry ⟨a, k, vs, rfl, rfl, by rw [hK]; exact s1, hne, k2, h2, by rw [← r1.len]; exact h3, g.tup (r1.rep _)⟩
      · by_cases k1' : k = 1
        · subst k1'
          refine op_repT1 pins s σ H _ _ vv uu Q I rx ry ⟨a, vs, rfl, rfl, by rw [hK]; exact s1, ?_⟩
          have e : (List.replicate (1 : Int).toNat xs).flatten = xs := by simp
          rw [e] at g
          exact g.tup0 k1 r1
        · have e : (List.replicate k.toNat xs).flatten = [] := by
            have : k.toNat = 0 := by omega
            rw [this]; rfl
          rw [e] at g
          exact op_repT0 pins s σ H _ _ vv uu Q I rx ry ⟨a, k, vs, rfl, rfl, by rw [hK]; exact s1, hne, h1, by omega, g.tup (vs := []) ⟨rfl, rfl⟩⟩
    · cases e
  · rename_i m1 xs k
    split at e
    · rename_i hc
      cases e
      rw [Bool.and_eq_true, Bool.and_eq_true, Bool.and_eq_true, decide_eq_true_eq, decide_eq_true_eq] at hc
      obtain ⟨a, vs, e1, s1, r1⟩ := hx.lstC hc.2.2.2
      have e2 := hy.at
      subst e1; subst e2
      exact op_rep pins s σ H _ _ vv uu Q I rx ry ⟨a, k, vs, rfl, rfl, s1, hc.2.1, hc.2.2.1, by rw [← r1.len]; exact lineB_ok hc.1, g.lst (r1.rep _)⟩
    · cases e
  · cases e
theorem pe_bin {a b : Expr} {ma mb : M D} {na nb : Bool} {o : BO} {pos : Pos} (hK : X.K = T.K) (ha : PE X a (Tm T W true na ma)) (hb : PE X b (Tm T W true nb mb)) (hn : n = true → na = true) (hm : n = true → nb = true) :
    PE X (.BinOp a (opO o) b pos) (Tm T W p n (fin p (M.bind ma fun x => M.bind mb fun y => M.chk (x.clean || nb) (M.lift (binD o x y))))) :=
  PE.fin (PE.imp (pe_op (op_bin o hK) ha hb) fun σ H Q h => (two_core hn hm h).mono fun v H1 h1 => h1.mono fun w H2 h2 => h2)
end
end Ev

set_option Elab.async false
set_option linter.all false
set_option maxRecDepth 100000
set_option maxHeartbeats 4000000
namespace Ev
open PySem PySem.Spec L2

/-! ## data as the library has them -/
mutual
def D.py : D → PyData
  | .at .non => .none
  | .at (.bl b) => .bool b
  | .at (.int i) => .int i
  | .at (.str x) => .str x
  | .nd .tup _ xs => .tuple (D.pyL xs)
  | .nd .lst _ xs => .list (D.pyL xs)
  | .nd _ _ _ => .none
def D.pyL : List D → List PyData
  | [] => []
  | x :: xs => D.py x :: D.pyL xs
end
theorem pyL_len : ∀ xs : List D, (D.pyL xs).length = xs.length
  | [] => rfl
  | x :: xs => by rw [D.pyL, List.length_cons, List.length_cons, pyL_len xs]
mutual
theorem shp_py : ∀ (n : Nat) (d : D), D.shp n d = true → d.py.canLay0 = true ∧ d.py.depth ≤ n
  | n, .at .non, _ => ⟨rfl, Nat.zero_le _⟩
  | n, .at (.bl b), _ => ⟨rfl, Nat.zero_le _⟩
  | n, .at (.int i), _ => ⟨rfl, Nat.zero_le _⟩
  | n, .at (.str x), h => by
    have h : SeqAt.shaped (.str x) = true := by unfold D.shp at h; exact h
    exact ⟨SeqAt.canLay_of_shaped h, by show PyData.depth (.str x) ≤ n; simp [PyData.depth]⟩
  | 0, .nd .tup m xs, h => by unfold D.shp at h; cases h
  | 0, .nd .lst m xs, h => by unfold D.shp at h; cases h
  | n + 1, .nd .tup m xs, h => by
    have h : D.shpL n xs = true := by unfold D.shp at h; exact h
    obtain ⟨a, b⟩ := shpL_py n xs h
    refine ⟨by show PyData.canLay0 (.tuple (D.pyL xs)) = true; simp only [PyData.canLay0]; exact a, ?_⟩
    show PyData.depth (.tuple (D.pyL xs)) ≤ n + 1
    simp only [PyData.depth]
    omega
  | n + 1, .nd .lst m xs, h => by
    have h : D.shpL n xs = true := by unfold D.shp at h; exact h
    obtain ⟨a, b⟩ := shpL_py n xs h
    refine ⟨by show PyData.canLay0 (.list (D.pyL xs)) = true; simp only [PyData.canLay0]; exact a, ?_⟩
    show PyData.depth (.list (D.pyL xs)) ≤ n + 1
    simp only [PyData.depth]
    omega
  | n, .nd .scr m xs, h => by unfold D.shp at h; cases h
  | n, .nd (.dk _) m xs, h => by unfold D.shp at h; cases h
  | n, .nd (.dt _) m xs, h => by unfold D.shp at h; cases h
  | n, .nd (.obj _ _) m xs, h => by unfold D.shp at h; cases h
  | n, .nd (.rng _ _) m xs, h => by unfold D.shp at h; cases h
theorem shpL_py : ∀ (n : Nat) (xs : List D), D.shpL n xs = true → PyData.canLayAll0 (D.pyL xs) = true ∧ PyData.depthAll (D.pyL xs) ≤ n
  | n, [], _ => ⟨by simp [D.pyL, PyData.canLayAll0], by simp [D.pyL, PyData.depthAll]⟩
  | n, x :: xs, h => by
    have h : (D.shp n x && D.shpL n xs) = true := by unfold D.shpL at h; exact h
    rw [Bool.and_eq_true] at h
    obtain ⟨a1, b1⟩ := shp_py n x h.1
    obtain ⟨a2, b2⟩ := shpL_py n xs h.2
    refine ⟨by simp only [D.pyL, PyData.canLayAll0, a1, a2, Bool.and_self], ?_⟩
    simp only [D.pyL, PyData.depthAll]
    omega
end
theorem shp_shaped {d : D} (h : D.shp 64 d = true) : SeqAt.shaped d.py = true := by
  obtain ⟨a, b⟩ := shp_py 64 d h
  unfold SeqAt.shaped
  rw [a, decide_eq_true b]
  rfl
section
variable {T : Tab} {H : Hp} {fz : Fz}
mutual
theorem Rep.dp : ∀ (n : Nat) {d : D} {v : V} {G : List Addr}, Rep T H fz d v G → D.shp n d = true → Dp T.K H v d.py
  | n, .at .non, v, G, h, _ => by have e := h.1; subst e; exact .non
  | n, .at (.bl b), v, G, h, _ => by have e := h.1; subst e; exact .bl b
  | n, .at (.int i), v, G, h, _ => by have e := h.1; subst e; exact .int i
  | n, .at (.str x), v, G, h, _ => by have e := h.1; subst e; exact .str x
  | 0, .nd .tup m xs, v, G, h, s => by unfold D.shp at s; cases s
  | 0, .nd .lst m xs, v, G, h, s => by unfold D.shp at s; cases s
  | n + 1, .nd .tup m xs, v, G, h, s => by
    have s : D.shpL n xs = true := by unfold D.shp at s; exact s
    obtain ⟨a, vs, G1, e, hk, hl, ho⟩ := h
    subst e
    cases m with
    | true => exact absurd rfl hk.1
    | false => exact .tup (SqT.of (tup_of hk)) (RepL.dp n hl s)
  | n + 1, .nd .lst m xs, v, G, h, s => by
    have s : D.shpL n xs = true := by unfold D.shp at s; exact s
    obtain ⟨a, vs, G1, e, hk, hl, ho⟩ := h
    subst e
    exact .lst (SqL.of (lst_of hk)) (RepL.dp n hl s)
  | n, .nd .scr m xs, v, G, h, s => by unfold D.shp at s; cases s
  | n, .nd (.dk _) m xs, v, G, h, s => by unfold D.shp at s; cases s
  | n, .nd (.dt _) m xs, v, G, h, s => by unfold D.shp at s; cases s
  | n, .nd (.obj _ _) m xs, v, G, h, s => by unfold D.shp at s; cases s
  | n, .nd (.rng _ _) m xs, v, G, h, s => by unfold D.shp at s; cases s
theorem RepL.dp : ∀ (n : Nat) {xs : List D} {vs : List V} {G : List Addr}, RepL T H fz xs vs G → D.shpL n xs = true → DpAll T.K H vs (D.pyL xs)
  | n, [], vs, G, h, _ => by have e := h.1; subst e; exact .nil
  | n, x :: xs, vs, G, h, s => by
    have s : (D.shp n x && D.shpL n xs) = true := by unfold D.shpL at s; exact s
    rw [Bool.and_eq_true] at s
    obtain ⟨v, r, F1, F2, e1, e2, h1, h2⟩ := h
    subst e1
    exact .cons (Rep.dp n h1 s.1) (RepL.dp n h2 s.2)
end
end
mutual
theorem eqv_py : ∀ (n k : Nat) (d e : D), D.shp n d = true → D.shp k e = true → PyData.eqv d.py e.py = D.eqv d e
  | n, k, .at a, .at b, _, _ => by
    cases a <;> cases b <;> (try rfl) <;> simp [D.py, PyData.eqv, D.eqv, atEq, b2i]
  | n, k, .at a, .nd kd m xs, _, s => by
    cases kd <;> first | (unfold D.shp at s; cases s; done) | (cases a <;> simp [D.py, PyData.eqv, D.eqv]; done)
  | n, k, .nd kd m xs, .at a, s, _ => by
    cases kd <;> first | (unfold D.shp at s; cases s; done) | (cases a <;> simp [D.py, PyData.eqv, D.eqv]; done)
  | n, k, .nd .tup m xs, .nd .tup m' ys, s, s' => by
    cases n with
    | zero => unfold D.shp at s; cases s
    | succ n =>
      cases k with
      | zero => unfold D.shp at s'; cases s'
      | succ k =>
        have s : D.shpL n xs = true := by unfold D.shp at s; exact s
        have s' : D.shpL k ys = true := by unfold D.shp at s'; exact s'
        simp only [D.py, PyData.eqv, D.eqv]
        exact eqvL_py n k xs ys s s'
  | n, k, .nd .lst m xs, .nd .lst m' ys, s, s' => by
    cases n with
    | zero => unfold D.shp at s; cases s
    | succ n =>
      cases k with
      | zero => unfold D.shp at s'; cases s'
      | succ k =>
        have s : D.shpL n xs = true := by unfold D.shp at s; exact s
        have s' : D.shpL k ys = true := by unfold D.shp at s'; exact s'
        simp only [D.py, PyData.eqv, D.eqv]
        exact eqvL_py n k xs ys s s'
  | n, k, .nd .tup m xs, .nd .lst m' ys, _, _ => by simp [D.py, PyData.eqv, D.eqv]
  | n, k, .nd .lst m xs, .nd .tup m' ys, _, _ => by simp [D.py, PyData.eqv, D.eqv]
  | n, k, .nd .scr m xs, e, s, _ => by unfold D.shp at s; cases s
  | n, k, .nd (.dk _) m xs, e, s, _ => by unfold D.shp at s; cases s
  | n, k, .nd (.dt _) m xs, e, s, _ => by unfold D.shp at s; cases s
  | n, k, .nd (.obj _ _) m xs, e, s, _ => by unfold D.shp at s; cases s
  | n, k, .nd (.rng _ _) m xs, e, s, _ => by unfold D.shp at s; cases s
  | n, k, d, .nd .scr m xs, _, s => by unfold D.shp at s; cases s
  | n, k, d, .nd (.dk _) m xs, _, s => by unfold D.shp at s; cases s
  | n, k, d, .nd (.dt _) m xs, _, s => by unfold D.shp at s; cases s
  | n, k, d, .nd (.obj _ _) m xs, _, s => by unfold D.shp at s; cases s
  | n, k, d, .nd (.rng _ _) m xs, _, s => by unfold D.shp at s; cases s
theorem eqvL_py : ∀ (n k : Nat) (xs ys : List D), D.shpL n xs = true → D.shpL k ys = true → PyData.eqvAll (D.pyL xs) (D.pyL ys) = D.eqvL xs ys
  | n, k, [], [], _, _ => by simp [D.pyL, PyData.eqvAll, D.eqvL]
  | n, k, [], y :: ys, _, _ => by simp [D.pyL, PyData.eqvAll, D.eqvL]
  | n, k, x :: xs, [], _, _ => by simp [D.pyL, PyData.eqvAll, D.eqvL]
  | n, k, x :: xs, y :: ys, s, s' => by
    have s : (D.shp n x && D.shpL n xs) = true := by unfold D.shpL at s; exact s
    have s' : (D.shp k y && D.shpL k ys) = true := by unfold D.shpL at s'; exact s'
    rw [Bool.and_eq_true] at s s'
    simp only [D.pyL, PyData.eqvAll, D.eqvL]
    rw [eqv_py n k x y s.1 s'.1, eqvL_py n k xs ys s.2 s'.2]
end
theorem any_py {n k : Nat} {x : D} (s : D.shp n x = true) : ∀ {ys : List D}, D.shpL k ys = true → ((D.pyL ys).any fun z => PyData.eqv z x.py) = ys.any fun y => D.eqv y x
  | [], _ => rfl
  | y :: ys, h => by
    have h : (D.shp k y && D.shpL k ys) = true := by unfold D.shpL at h; exact h
    rw [Bool.and_eq_true] at h
    rw [D.pyL, List.any_cons, List.any_cons, eqv_py k n y x h.1 s, any_py s h.2]

/-! ## comparisons -/
section
variable {X : Cx} {T : Tab} {W : WX} {n p : Bool}
def opC : CO → CmpOp
  | .eq => .Eq | .ne => .NotEq | .lt => .Lt | .le => .LtE | .gt => .Gt | .ge => .GtE | .inn => .In | .nin => .NotIn | .is => .Is | .isn => .IsNot
def rCmp (T : Tab) (o : CO) : R2 := fun v w H Q => ∃ fz F G x y b, Held T H fz F G x v ∧ Held T H fz F G y w ∧ cmpD o x y = some b ∧ Q (.bl b) H
theorem posK_val {κ : Type} [DecidableEq κ] (k : κ) : ∀ {ks : List κ} {vs : List V}, ks.length = vs.length → (valV (ks.zip vs) k).isSome = (posK k ks).isSome
  | [], [], _ => rfl
  | [], _ :: _, h => by cases h
  | _ :: _, [], h => by cases h
  | q :: ks, v :: vs, h => by
    have ih := posK_val k (ks := ks) (vs := vs) (by simpa using h)
    by_cases e : q = k
    · subst e; simp [valV, posK]
    · simp only [List.zip_cons_cons, posK, if_neg e]
      rw [Option.isSome_map, ← ih]
      simp [valV, e]
theorem Held.dk {H : Hp} {fz : Fz} {F G : List Addr} {m : Bool} {ks : List Key} {xs : List D} {v : V} (h : Held T H fz F G (.nd (.dk ks) m xs) v) : ∃ a vs G1, v = .ref a ∧ ks.length = vs.length ∧ H a = some (.dK (ks.zip vs)) ∧ RepL T H fz xs vs G1 ∧ ∀ b ∈ G1, b ∈ F ∨ b ∈ G := by
  obtain ⟨G0, ⟨a, vs, G1, e, hk, hl, ho⟩, hs⟩ := h
  obtain ⟨h1, h2⟩ := dk_of hk
  exact ⟨a, vs, G1, e, h1, h2, hl, fun b hb => hs b (ho.sub b hb)⟩
theorem Held.dt {H : Hp} {fz : Fz} {F G : List Addr} {m : Bool} {ks : List (List Key)} {xs : List D} {v : V} (h : Held T H fz F G (.nd (.dt ks) m xs) v) : ∃ a vs G1, v = .ref a ∧ ks.length = vs.length ∧ H a = some (.dT (ks.zip vs)) ∧ RepL T H fz xs vs G1 ∧ ∀ b ∈ G1, b ∈ F ∨ b ∈ G := by
  obtain ⟨G0, ⟨a, vs, G1, e, hk, hl, ho⟩, hs⟩ := h
  obtain ⟨h1, h2⟩ := dt_of hk
  exact ⟨a, vs, G1, e, h1, h2, hl, fun b hb => hs b (ho.sub b hb)⟩
/-- a key of a dict with tuple keys -/
theorem Held.keyT {H : Hp} {fz : Fz} {F G : List Addr} {m : Bool} {xs : List D} {v : V} {k : List Key} (h : Held T H fz F G (.nd .tup m xs) v) (e : keysOf xs = some k) : ∃ b, v = .ref b ∧ H b = some (.tup (k.map kV)) := by
  obtain ⟨G0, r, _⟩ := h
  obtain ⟨a, vs, e1, h1, r1⟩ := r.tup
  rw [r1.keys e] at h1
  exact ⟨a, e1, h1⟩
theorem Held.key {H : Hp} {fz : Fz} {F G : List Addr} {d : D} {v : V} {k : Key} (h : Held T H fz F G d v) (e : keyOf d = some k) : v = kV k := by
  have e' := keyOf_eq e
  subst e'
  obtain ⟨G0, r, _⟩ := h
  exact rep_key r
theorem isNon_v {H : Hp} {fz : Fz} {F G : List Addr} {x : D} {v : V} (h : Held T H fz F G x v) : decide (v = .non) = isNon x := by
  cases x with
  | «at» a =>
    rw [h.at]
    cases a <;> simp [At.v, Ev.isNon]
  | nd k m xs =>
    obtain ⟨G0, ⟨a, vs, G1, e, _⟩, _⟩ := h
    subst e
    simp [Ev.isNon]
theorem op_cmp (o : CO) (hK : X.K = T.K) (hu : X.A.units + 200 < cLine) : OpR X (compareOp (opC o)) (rCmp T o) := by
  intro pins s σ H v w vv uu Q I rx ry h
  obtain ⟨fz, F, G, x, y, b, hx, hy, e, q⟩ := h
  have eqs : ∀ (r : Bool), (if D.shp 64 x && D.shp 64 y then some r else none) = some b → D.shp 64 x = true ∧ D.shp 64 y = true ∧ r = b := fun r e => by
    split at e
    · rename_i hc
      rw [Bool.and_eq_true] at hc
      exact ⟨hc.1, hc.2, Option.some.inj e⟩
    · cases e
  have ins : ∀ (ys : List D) (r : Bool), (if D.shp 63 x && D.shpL 63 ys then some r else none) = some b → D.shp 63 x = true ∧ D.shpL 63 ys = true ∧ r = b := fun ys r e => by
    split at e
    · rename_i hc
      rw [Bool.and_eq_true] at hc
      exact ⟨hc.1, hc.2, Option.some.inj e⟩
    · cases e
  have room : ∀ {ys : List D} , D.shp 63 x = true → D.shpL 63 ys = true → X.A.units + 1 + min (PyData.depthAll (D.pyL ys)) x.py.depth < cLine := fun {ys} h1 h2 => by
    have a := (shpL_py 63 ys h2).2
    have b := (shp_py 63 x h1).2
    omega
  have lst : ∀ {m : Bool} {ys : List D}, y = .nd .lst m ys → D.shp 63 x = true → D.shpL 63 ys = true → ∃ as bs, Reads s.heap uu (.list (D.pyL ys)) as ∧ Reads s.heap vv x.py bs := fun {m ys} e h1 h2 => by
    subst e
    obtain ⟨G0, r0, _⟩ := hx
    obtain ⟨G1, r1, _⟩ := hy
    have d1 := r0.dp 63 h1
    have d2 := r1.dp 64 (by show D.shp 64 (.nd .lst m ys) = true; unfold D.shp; exact h2)
    rw [← hK] at d1 d2
    obtain ⟨bs, p1⟩ := Dp.reads I _ _ _ d1 rx
    obtain ⟨as, p2⟩ := Dp.reads I _ _ _ d2 ry
    exact ⟨as, bs, p2, p1⟩
  have tupl : ∀ {m : Bool} {ys : List D}, y = .nd .tup m ys → D.shp 63 x = true → D.shpL 63 ys = true → ∃ as bs, Reads s.heap uu (.tuple (D.pyL ys)) as ∧ Reads s.heap vv x.py bs := fun {m ys} e h1 h2 => by
    subst e
    obtain ⟨G0, r0, _⟩ := hx
    obtain ⟨G1, r1, _⟩ := hy
    have d1 := r0.dp 63 h1
    have d2 := r1.dp 64 (by show D.shp 64 (.nd .tup m ys) = true; unfold D.shp; exact h2)
    rw [← hK] at d1 d2
    obtain ⟨bs, p1⟩ := Dp.reads I _ _ _ d1 rx
    obtain ⟨as, p2⟩ := Dp.reads I _ _ _ d2 ry
    exact ⟨as, bs, p2, p1⟩
  unfold cmpD at e
  split at e
  · obtain ⟨h1, h2, e⟩ := eqs _ e
    obtain ⟨G0, r0, _⟩ := hx
    obtain ⟨G1, r1, _⟩ := hy
    refine op_eqD (by omega) pins s σ H v w vv uu Q I rx ry ⟨x.py, y.py, by rw [hK]; exact r0.dp 64 h1, by rw [hK]; exact r1.dp 64 h2, shp_shaped h1, shp_shaped h2, ?_⟩
    rw [eqv_py 64 64 x y h1 h2, e]; exact q
  · obtain ⟨h1, h2, e⟩ := eqs _ e
    obtain ⟨G0, r0, _⟩ := hx
    obtain ⟨G1, r1, _⟩ := hy
    refine op_neD (by omega) pins s σ H v w vv uu Q I rx ry ⟨x.py, y.py, by rw [hK]; exact r0.dp 64 h1, by rw [hK]; exact r1.dp 64 h2, shp_shaped h1, shp_shaped h2, ?_⟩
    rw [eqv_py 64 64 x y h1 h2, e]; exact q
  · cases e; exact op_lt pins s σ H v w vv uu Q I rx ry ⟨_, _, hx.at, hy.at, q⟩
  · cases e; exact op_le pins s σ H v w vv uu Q I rx ry ⟨_, _, hx.at, hy.at, q⟩
  · cases e; exact op_gt pins s σ H v w vv uu Q I rx ry ⟨_, _, hx.at, hy.at, q⟩
  · cases e; exact op_ge pins s σ H v w vv uu Q I rx ry ⟨_, _, hx.at, hy.at, q⟩
  · rename_i m1 xs m2 ys
    cases e1 : intsOf xs with
    | none => rw [e1] at e; cases e
    | some is =>
      cases e2 : intsOf ys with
      | none => rw [e1, e2] at e; cases e
      | some js =>
        rw [e1, e2] at e
        cases e
        obtain ⟨G0, r0, _⟩ := hx
        obtain ⟨G1, r1, _⟩ := hy
        obtain ⟨a, vs, q1, h1, l1⟩ := r0.tup
        obtain ⟨c, ws, q2, h2, l2⟩ := r1.tup
        rw [l1.ints e1] at h1
        rw [l2.ints e2] at h2
        exact op_ltT (by omega) pins s σ H v w vv uu Q I rx ry ⟨a, c, is, js, q1, q2, SqT.of h1, SqT.of h2, q⟩
  · rename_i m ys
    obtain ⟨h1, h2, e⟩ := ins _ _ e
    obtain ⟨as, bs, p2, p1⟩ := tupl rfl h1 h2
    refine SeqAt.in_tuple_reads p2 p1 (shpL_py 63 ys h2).1 (shp_py 63 x h1).1 (room h1 h2) ⟨.bl _, H, I, rfl, ?_⟩
    rw [any_py h1 h2, e]; exact q
  · rename_i m ys
    obtain ⟨h1, h2, e⟩ := ins _ _ e
    obtain ⟨as, bs, p2, p1⟩ := lst rfl h1 h2
    refine SeqAt.in_list_reads p2 p1 (shpL_py 63 ys h2).1 (shp_py 63 x h1).1 (room h1 h2) ⟨.bl _, H, I, rfl, ?_⟩
    rw [any_py h1 h2, e]; exact q
  · rename_i m ys
    obtain ⟨h1, h2, e⟩ := ins _ _ e
    obtain ⟨as, bs, p2, p1⟩ := tupl rfl h1 h2
    refine SeqAt.notIn_tuple_reads p2 p1 (shpL_py 63 ys h2).1 (shp_py 63 x h1).1 (room h1 h2) ⟨.bl _, H, I, rfl, ?_⟩
    rw [any_py h1 h2, e]; exact q
  · rename_i m ys
    obtain ⟨h1, h2, e⟩ := ins _ _ e
    obtain ⟨as, bs, p2, p1⟩ := lst rfl h1 h2
    refine SeqAt.notIn_list_reads p2 p1 (shpL_py 63 ys h2).1 (shp_py 63 x h1).1 (room h1 h2) ⟨.bl _, H, I, rfl, ?_⟩
    rw [any_py h1 h2, e]; exact q
  · rename_i ks m vs
    obtain ⟨k, e1, e2⟩ := Option.map_eq_some_iff.mp e
    obtain ⟨a, ws, G1, q1, hl, ha, _⟩ := hy.dk
    subst q1
    cases ry
    have hv := hx.key e1
    subst hv
    refine d_in (X := X) (by omega) I (DGet.k (k := k) ha) rx fun s' I' => ⟨.bl _, H, I', rfl, ?_⟩
    rw [posK_val k hl, e2]; exact q
  · rename_i ks m vs
    obtain ⟨k, e1, e2⟩ := Option.map_eq_some_iff.mp e
    obtain ⟨a, ws, G1, q1, hl, ha, _⟩ := hy.dk
    subst q1
    cases ry
    have hv := hx.key e1
    subst hv
    refine d_notIn (X := X) (by omega) I (DGet.k (k := k) ha) rx fun s' I' => ⟨.bl _, H, I', rfl, ?_⟩
    rw [posK_val k hl, e2]; exact q
  · rename_i xs ks m vs
    obtain ⟨k, e1, e2⟩ := Option.map_eq_some_iff.mp e
    obtain ⟨a, ws, G1, q1, hl, ha, _⟩ := hy.dt
    subst q1
    cases ry
    obtain ⟨c, q2, hc⟩ := hx.keyT e1
    subst q2
    refine d_in (X := X) (by omega) I (DGet.t (k := k) ha hc) rx fun s' I' => ⟨.bl _, H, I', rfl, ?_⟩
    rw [posK_val k hl, e2]; exact q
  · rename_i xs ks m vs
    obtain ⟨k, e1, e2⟩ := Option.map_eq_some_iff.mp e
    obtain ⟨a, ws, G1, q1, hl, ha, _⟩ := hy.dt
    subst q1
    cases ry
    obtain ⟨c, q2, hc⟩ := hx.keyT e1
    subst q2
    refine d_notIn (X := X) (by omega) I (DGet.t (k := k) ha hc) rx fun s' I' => ⟨.bl _, H, I', rfl, ?_⟩
    rw [posK_val k hl, e2]; exact q
  · cases e
    refine op_isN pins s σ H v w vv uu Q I rx ry ⟨hy.at, ?_⟩
    rw [isNon_v hx]; exact q
  · cases e
    refine op_notN pins s σ H v w vv uu Q I rx ry ⟨hy.at, ?_⟩
    rw [isNon_v hx]; exact q
  · rename_i a c
    cases e
    have q' : decide (a = c) = (a == c) := by cases a <;> cases c <;> rfl
    exact op_isBl pins s σ H v w vv uu Q I rx ry ⟨_, _, hx.at, hy.at, by rw [q']; exact q⟩
  · rename_i a c
    cases e
    have q' : decide (a = c) = (a == c) := by cases a <;> cases c <;> rfl
    exact op_notBl pins s σ H v w vv uu Q I rx ry ⟨_, _, hx.at, hy.at, by rw [q']; exact q⟩
  · cases e
end
end Ev

set_option Elab.async false
set_option linter.all false
set_option maxRecDepth 100000
set_option maxHeartbeats 4000000
namespace Ev
open PySem PySem.Spec L2

section
variable {X : Cx} {T : Tab} {W : WX} {n p : Bool} {pos : Pos}
/-! ## constants and names -/
theorem Out.at {σ : St} {H H1 : Hp} {fz fz1 : Fz} {F F1 G1 : List Addr} {ρ1 : Env} {Q : VK} {a : At} (c : Cur T σ H fz F n H1 fz1 F1 G1 ρ1) (h : Out T W σ H fz F p n (.ok (D.at a) ρ1) Q) : Q a.v H1 :=
  h a.v H1 fz1 F1 [] c.drop0 (by cases p <;> first | exact ⟨rfl, rfl⟩ | exact ⟨rfl, [], ⟨rfl, rfl⟩, fun _ h => (nomatch h)⟩)
theorem tm_at {a : At} {σ : St} {H : Hp} {Q : VK} (h : Tm T W p n (M.pure (D.at a)) σ H Q) : Q a.v H := by
  obtain ⟨fz, F, ρ, c, h⟩ := h.start
  exact Out.at c h
theorem pe_cnon {k : Nat} : PE X (.Constant .none k pos) (Tm T W p n (M.pure (D.at .non))) := PE.imp pe_non fun _ _ _ h => tm_at (a := .non) h
theorem pe_cbl {b : Bool} {k : Nat} : PE X (.Constant (.bool b) k pos) (Tm T W p n (M.pure (D.at (.bl b)))) := PE.imp pe_bl fun _ _ _ h => tm_at (a := .bl b) h
theorem pe_cint {i : Int} {k : Nat} : PE X (.Constant (.int i) k pos) (Tm T W p n (M.pure (D.at (.int i)))) := PE.imp pe_int fun _ _ _ h => tm_at (a := .int i) h
theorem pe_cstr {x : Str} {k : Nat} : PE X (.Constant (.str x) k pos) (Tm T W p n (M.pure (D.at (.str x)))) := PE.imp pe_str fun _ _ _ h => tm_at (a := .str x) h
theorem pe_gl {x : Str} {a : At} {u : Value} (hg : Gl X x) (hm : X.mg x = some u) (r : RelV a.v u) (hd : (x == ("__debug__" : Str)) = false) : PE X (.Name x pos) (Tm T W p n (M.pure (D.at a))) :=
  PE.imp (pe_glob hg hm r hd) fun _ _ _ h => tm_at h
theorem Out.plc {σ : St} {H : Hp} {fz : Fz} {F : List Addr} {ρ1 : Env} {Q : VK} {d : D} (h : Out T W σ H fz F p n (plc p d ρ1) Q) : (p || d.clean) = true ∧ Out T W σ H fz F p n (.ok d ρ1) Q := Out.chk (m := M.pure d) h
/-- a thing that stands in a place -/
theorem Out.place {σ : St} {H H1 : Hp} {fz fz1 : Fz} {F F1 G1 G0 : List Addr} {ρ1 : Env} {Q : VK} {d : D} {v : V} (c : Cur T σ H fz F n H1 fz1 F1 G1 ρ1) (h : Out T W σ H fz F p n (Ev.plc p d ρ1) Q) (r : Rep T H1 fz1 d v G0) (s : ∀ a ∈ G0, a ∈ F1) : Q v H1 := by
  obtain ⟨k, h⟩ := h.plc
  refine h v H1 fz1 F1 [] c.drop0 ?_
  cases p with
  | true => exact ⟨rfl, G0, r, s⟩
  | false =>
    have e := clean_nil (d := d) (by simpa using k) r
    subst e
    exact r
theorem pe_slot {i : Nat} {x : Str} (hN : X.N[i]? = some x) (hv : Vis X.env.scope x) (hd : (x == ("__debug__" : Str)) = false) (hcd : (x == ("__classdict__" : Str)) = false) :
    PE X (.Name x pos) (Tm T W p n fun ρ => match ρ[i]? with | some (some d) => plc p d ρ | _ => .unk) := by
  refine PE.imp (pe_var hN hv hd hcd) fun σ H Q h => ?_
  obtain ⟨fz, F, ρ, c, h⟩ := h.start
  cases e : ρ[i]? with
  | none => rw [e] at h; exact h.elim
  | some o =>
    cases o with
    | none => rw [e] at h; exact h.elim
    | some d =>
      rw [e] at h
      obtain ⟨v, A, B, C, eF, eσ, r, _⟩ := c.env.split e
      exact ⟨v, eσ, Out.place c h r fun a ha => by rw [eF]; simp [ha]⟩
theorem set_self {σ : St} {i : Nat} {o : Option V} (h : σ[i]? = some o) : σ.set i o = σ := by
  apply List.ext_getElem?
  intro j
  by_cases e : i = j
  · subst e
    have hl : i < σ.length := (List.getElem?_eq_some_iff.mp h).1
    rw [List.getElem?_set_self hl, h]
  · rw [List.getElem?_set_ne e]
theorem pe_mv {i : Nat} {x : Str} (hN : X.N[i]? = some x) (hv : Vis X.env.scope x) (hd : (x == ("__debug__" : Str)) = false) (hcd : (x == ("__classdict__" : Str)) = false) :
    PE X (.Name x pos) (Tm T W p false (fin p fun ρ => match ρ[i]? with | some (some d) => .ok d (ρ.set i none) | _ => .unk)) := by
  refine PE.fin (PE.imp (pe_var hN hv hd hcd) fun σ H Q h => ?_)
  obtain ⟨fz, F, ρ, c, h⟩ := h.start
  cases e : ρ[i]? with
  | none => rw [e] at h; exact h.elim
  | some o =>
    cases o with
    | none => rw [e] at h; exact h.elim
    | some d =>
      rw [e] at h
      obtain ⟨v, A, B, C, eF, eσ, r, k⟩ := c.env.split e
      refine ⟨v, eσ, h v H fz (A ++ C) B ⟨?_, ?_, fun z => (nomatch z)⟩ r⟩
      · have := c.ext
        rw [List.append_nil] at this
        refine this.perm ?_
        rw [eF]
        calc (A ++ B ++ C).Perm (A ++ (B ++ C)) := by rw [List.append_assoc]
          _ |>.Perm (A ++ (C ++ B)) := (List.perm_append_comm).append_left A
          _ |>.Perm (A ++ C ++ B) := by rw [List.append_assoc]
      · have := (k H fz Fr.refl).2 (some v)
        rwa [set_self eσ] at this
theorem pe_sh {i : Nat} {x : Str} (hN : X.N[i]? = some x) (hv : Vis X.env.scope x) (hd : (x == ("__debug__" : Str)) = false) (hcd : (x == ("__classdict__" : Str)) = false) :
    PE X (.Name x pos) (Tm T W p false fun ρ => match ρ[i]? with | some (some d) => .ok d.frz (ρ.set i (some d.frz)) | _ => .unk) := by
  refine PE.imp (pe_var hN hv hd hcd) fun σ H Q h => ?_
  obtain ⟨fz, F, ρ, c, h⟩ := h.start
  cases e : ρ[i]? with
  | none => rw [e] at h; exact h.elim
  | some o =>
    cases o with
    | none => rw [e] at h; exact h.elim
    | some d =>
      rw [e] at h
      obtain ⟨v, A, B, C, eF, eσ, r, k⟩ := c.env.split e
      have hp : F.Perm ((A ++ C) ++ B) := by
        rw [eF]
        calc (A ++ B ++ C).Perm (A ++ (B ++ C)) := by rw [List.append_assoc]
          _ |>.Perm (A ++ (C ++ B)) := (List.perm_append_comm).append_left A
          _ |>.Perm (A ++ C ++ B) := by rw [List.append_assoc]
      have ext1 : Ext H fz F H fz ((A ++ C) ++ B) := by
        have := c.ext
        rw [List.append_nil] at this
        exact this.perm hp
      have rf : Rep T H (fzAdd fz B) d.frz v [] := Rep.frz r fun a h => h
      have env' := (k H (fzAdd fz B) fr_frz).1 d.frz v [] rf
      rw [set_self eσ] at env'
      refine ⟨v, eσ, h v H (fzAdd fz B) (A ++ C) [] ⟨by rw [List.append_nil]; exact ext1.frz, by simpa using env', fun z => (nomatch z)⟩ ?_⟩
      cases p with
      | true => exact ⟨rfl, [], rf, fun _ h => (nomatch h)⟩
      | false => exact rf

/-! ## unary, comparisons, truth -/
def opU : UO → UnaryOp
  | .neg => .USub | .inv => .Invert | .blen => .Not
theorem op_un (o : UO) (ho : o ≠ .blen) : UnR X (unaryOp (opU o)) (fun v H Q => ∃ fz F G x d, Held T H fz F G x v ∧ unD o x = some d ∧ Give T H fz d Q) := by
  intro pins s σ H v vv Q I rx h
  obtain ⟨fz, F, G, x, d, hx, e, g⟩ := h
  unfold unD at e
  split at e
  · cases e; exact un_neg pins s σ H v vv Q I rx ⟨_, hx.at, g.at⟩
  · cases e; exact un_inv pins s σ H v vv Q I rx ⟨_, hx.at, g.at⟩
  · exact absurd rfl ho
  · cases e
theorem pe_unE {a : Expr} {ma : M D} {na : Bool} {o : UO} (ho : o ≠ .blen) (ha : PE X a (Tm T W true na ma)) (hn : n = true → na = true) :
    PE X (.UnaryOp (opU o) a pos) (Tm T W p n (fin p (M.bind ma fun x => M.lift (unD o x)))) :=
  PE.fin (PE.imp (pe_un (op_un o ho) ha) fun σ H Q h => (one_core hn h).mono fun v H1 h1 => h1)
theorem pe_blenE {a : Expr} {ma : M D} {na : Bool} {apos : Pos} (ha : PE X a (Tm T W true na ma)) (hn : n = true → na = true) (hb : attributeBase a "bit_length" X.env (eval a X.env) = eval a X.env) (hline : (apos.endLine == pos.line) = true) :
    PE X (.Call (.Attribute a "bit_length" apos) [] [] pos) (Tm T W p n (fin p (M.bind ma fun x => M.lift (unD .blen x)))) :=
  PE.fin (PE.imp (pe_bits ha hb hline) fun σ H Q h => (one_core hn h).mono fun v H1 h1 => by
    obtain ⟨fz, F, G, x, d, hx, e, g⟩ := h1
    cases x with
    | nd _ _ _ => cases e
    | «at» b =>
      cases b with
      | int i =>
        have e : some (D.int (Builtin.Int.intBits i : Nat)) = some d := e
        cases e
        exact ⟨i, hx.at, g.at⟩
      | _ => cases e)
theorem pe_cmpE {a b : Expr} {ma mb : M D} {na nb : Bool} {o : CO} (hK : X.K = T.K) (hu : X.A.units + 200 < cLine) (ha : PE X a (Tm T W true na ma)) (hb : PE X b (Tm T W true nb mb)) (hn : n = true → na = true) (hm : n = true → nb = true) (hs : behindInMarks (opC o) b = false) :
    PE X (.Compare a [opC o] [b] pos) (Tm T W p n (fin p (M.bind ma fun x => M.bind mb fun y => M.chk (x.clean || nb) (M.lift ((cmpD o x y).map D.bl))))) :=
  PE.fin (PE.imp (pe_cmpR (op_cmp o hK hu) ha hb hs) fun σ H Q h => (two_core (f := fun x y => (cmpD o x y).map D.bl) hn hm h).mono fun v H1 h1 => h1.mono fun w H2 ⟨fz, F, G, x, y, d, hx, hy, e, g⟩ => by
    obtain ⟨b, e1, e2⟩ := Option.map_eq_some_iff.mp e
    subst e2
    exact ⟨fz, F, G, x, y, b, hx, hy, e1, g.at (a := .bl b)⟩)
/-- a test, by the evaluator -/
def tst (m : M D) : M Bool := M.bind m fun x => match x with
  | .at (.bl b) => M.pure b
  | .at (.int i) => M.pure (i != 0)
  | _ => fun _ => .unk
/-- .. of flags alone -/
def tsb (m : M D) : M Bool := M.bind m fun x => match x with
  | .at (.bl b) => M.pure b
  | _ => fun _ => .unk
theorem ok_bind {α β : Type} {m : M α} {f : α → M β} {ρ ρ' : Env} {d : β} (h : M.bind m f ρ = .ok d ρ') : ∃ a ρ1, m ρ = .ok a ρ1 ∧ f a ρ1 = .ok d ρ' := by
  unfold M.bind at h
  cases e : m ρ with
  | ok a ρ1 => rw [e] at h; exact ⟨a, ρ1, rfl, h⟩
  | ex _ _ => rw [e] at h; cases h
  | unk => rw [e] at h; cases h
theorem ok_chk {α : Type} {b : Bool} {m : M α} {ρ ρ' : Env} {d : α} (h : M.chk b m ρ = .ok d ρ') : m ρ = .ok d ρ' := by
  cases b with
  | true => exact h
  | false => cases h
theorem ok_map {o : Option Bool} {ρ ρ' : Env} {d : D} (h : M.lift (o.map D.bl) ρ = .ok d ρ') : ∃ b, d = D.bl b := by
  cases o with
  | none => cases h
  | some b => cases h; exact ⟨b, rfl⟩
theorem tst_bl {m : M D} (h : ∀ ρ d ρ', m ρ = .ok d ρ' → ∃ b, d = D.bl b) : tst m = tsb m := by
  funext ρ
  unfold tst tsb M.bind
  cases e : m ρ with
  | ok d ρ' => obtain ⟨b, rfl⟩ := h _ _ _ e; rfl
  | ex _ _ => rfl
  | unk => rfl
theorem TmB.start {m : M Bool} {σ : St} {H : Hp} {Q : Bool → Hp → Prop} (h : TmB T W n m σ H Q) : ∃ fz F ρ, Cur T σ H fz F n H fz F [] ρ ∧ OutB T W σ H fz F n (m ρ) Q := by
  obtain ⟨fz, F, ρ, a, e, h⟩ := h
  exact ⟨fz, F, ρ, Cur.refl a e, h⟩
/-- a test whose value is a bool, by its value -/
theorem tst_val {m : M D} {na : Bool} {σ : St} {H : Hp} {Q : Bool → Hp → Prop} (hn : n = true → na = true) (h : TmB T W n (tsb m) σ H Q) : Tm T W true na m σ H fun v H1 => ∃ k, v = .bl k ∧ Q k H1 := by
  obtain ⟨fz, F, ρ, a, e, h⟩ := h
  refine ⟨fz, F, ρ, a, e, ?_⟩
  unfold Out
  unfold tsb M.bind at h
  revert h
  cases m ρ with
  | ok d ρ' =>
    intro h v H' fz' F' G c q
    obtain ⟨_, G0, r, _⟩ := q
    cases d with
    | «at» a =>
      cases a with
      | bl b => exact ⟨b, r.1, h H' fz' F' G (c.weak hn)⟩
      | non => exact h.elim
      | int _ => exact h.elim
      | str _ => exact h.elim
    | nd _ _ _ => exact h.elim
  | ex x ρ' => exact fun h => h
  | unk => exact fun h => h
/-- a test, by its value's truth -/
theorem tst_tru {K : PySem.W.Frag} {m : M D} {na : Bool} {σ : St} {H : Hp} {Q : Bool → Hp → Prop} (hn : n = true → na = true) (h : TmB T W n (tst m) σ H Q) : Tm T W true na m σ H fun v H1 => ∃ k, TruV K v H1 k ∧ Q k H1 := by
  obtain ⟨fz, F, ρ, a, e, h⟩ := h
  refine ⟨fz, F, ρ, a, e, ?_⟩
  unfold Out
  unfold tst M.bind at h
  revert h
  cases m ρ with
  | ok d ρ' =>
    intro h v H' fz' F' G c q
    obtain ⟨_, G0, r, _⟩ := q
    cases d with
    | «at» a =>
      cases a with
      | bl b => exact ⟨b, by rw [r.1]; rfl, h H' fz' F' G (c.weak hn)⟩
      | non => exact h.elim
      | int i => exact ⟨i != 0, by rw [r.1]; rfl, h H' fz' F' G (c.weak hn)⟩
      | str _ => exact h.elim
    | nd _ _ _ => exact h.elim
  | ex x ρ' => exact fun h => h
  | unk => exact fun h => h
theorem PT.imp {e : Expr} {t u : TT} (h : PT X e t) (i : ∀ σ H Q, u σ H Q → t σ H Q) : PT X e u := ⟨fun pins s σ H Q I w => h.run pins s σ H Q I (i σ H Q w)⟩
theorem PW.imp {e : Expr} {t u : TT} (h : PW X e t) (i : ∀ σ H Q, u σ H Q → t σ H Q) : PW X e u := ⟨fun wh pins s σ H Q I w => h.run wh pins s σ H Q I (i σ H Q w)⟩
theorem pt_plain {e : Expr} {m : M D} {na : Bool} (h : PE X e (Tm T W true na m)) (hn : n = true → na = true) (he : ∀ whole, isTrue e X.env whole = (do let v ← whole; standAt e.pos; holding [v] (truthy v))) : PT X e (TmB T W n (tst m)) :=
  PT.imp (pt_truth h he) fun σ H Q w => tst_tru hn w
theorem fin_tst {m : M D} : tst (fin true m) = tst m := by
  funext ρ
  unfold tst M.bind fin
  cases m ρ with
  | ok d ρ' => cases d <;> rfl
  | ex _ _ => rfl
  | unk => rfl
theorem fin_tsb {m : M D} : tsb (fin true m) = tsb m := by
  funext ρ
  unfold tsb M.bind fin
  cases m ρ with
  | ok d ρ' => cases d <;> rfl
  | ex _ _ => rfl
  | unk => rfl
theorem pt_cmpE {a b : Expr} {ma mb : M D} {na nb : Bool} {o : CO} (hK : X.K = T.K) (hu : X.A.units + 200 < cLine) (ha : PE X a (Tm T W true na ma)) (hb : PE X b (Tm T W true nb mb)) (hn : n = true → na = true) (hm : n = true → nb = true) (hs : behindInMarks (opC o) b = false) :
    PT X (.Compare a [opC o] [b] pos) (TmB T W n (tst (fin true (M.bind ma fun x => M.bind mb fun y => M.chk (x.clean || nb) (M.lift ((cmpD o x y).map D.bl)))))) := by
  rw [fin_tst]
  refine PT.imp (pt_cmpR (op_cmp (T := T) o hK hu) ha hb hs) fun σ H Q h => ?_
  have h2 : Tm T W false n (M.bind ma fun x => M.bind mb fun y => M.chk (x.clean || nb) (M.lift ((cmpD o x y).map D.bl))) σ H fun v H1 => ∃ k, v = .bl k ∧ Q k H1 := by
    rw [tst_bl (fun ρ d ρ' e => by obtain ⟨x, ρ1, _, e⟩ := ok_bind e; obtain ⟨y, ρ2, _, e⟩ := ok_bind e; exact ok_map (ok_chk e)), ← fin_tsb] at h
    exact (tst_val (na := n) (fun h => h) h).fin
  exact (two_core (f := fun x y => (cmpD o x y).map D.bl) hn hm h2).mono fun v H1 h1 => h1.mono fun w H2 ⟨fz, F, G, x, y, d, hx, hy, e, g⟩ => by
    obtain ⟨b, e1, e2⟩ := Option.map_eq_some_iff.mp e
    subst e2
    exact ⟨fz, F, G, x, y, b, hx, hy, e1, g.at (a := .bl b)⟩
def chnM (ma mb mc : M D) (o1 o2 : CO) : M D := M.bind ma fun x => M.bind mb fun y => M.chk (x.clean && y.clean) (M.bind (M.lift (cmpD o1 x y)) fun r => match r with
    | true => M.bind mc fun z => M.lift ((cmpD o2 y z).map D.bl)
    | false => M.pure (D.bl false))
theorem chn_core {ma mb mc : M D} {na nb nc : Bool} {o1 o2 : CO} {σ : St} {H : Hp} {Q : VK} (hn : n = true → na = true) (hm : n = true → nb = true) (hl : n = true → nc = true) (h : Tm T W false n (chnM ma mb mc o1 o2) σ H Q) :
    tChain (rCmp T o1) (rCmp T o2) (Tm T W true na ma) (Tm T W true nb mb) (Tm T W true nc mc) σ H Q := by
  obtain ⟨fz, F, ρ, c, h⟩ := h.start
  refine (Out.bind c hn h).mono ?_
  rintro v H1 ⟨fz1, F1, G1, x, ρ1, c1, v1, _, h1⟩
  have c01 := c.trans c1 hn
  refine (Out.bind c01 hm h1).mono ?_
  rintro w H2 ⟨fz2, F2, G2, y, ρ2, c2, v2, _, h2⟩
  have c02 := c01.trans c2 hm
  obtain ⟨k, h3⟩ := h2.chk
  rw [Bool.and_eq_true] at k
  have hx : Held T H2 fz2 F2 (G2 ++ (G1 ++ [])) x v := by
    refine Held.step c01 ?_ c2 (by rw [k.1]; rfl)
    obtain ⟨G0, r, s⟩ := v1.held
    exact ⟨G0, r, fun a ha => (s a ha).imp_right (List.mem_append_left _)⟩
  have hy : Held T H2 fz2 F2 (G2 ++ (G1 ++ [])) y w := by
    obtain ⟨G0, r, s⟩ := v2.held
    exact ⟨G0, r, fun a ha => (s a ha).imp_right (List.mem_append_left _)⟩
  cases e : cmpD o1 x y with
  | none => rw [e] at h3; exact h3.elim
  | some b =>
    rw [e] at h3
    refine ⟨fz2, F2, _, x, y, b, hx, hy, e, b, rfl, ?_⟩
    cases b with
    | false =>
      rw [if_neg Bool.false_ne_true]
      exact Out.at (a := .bl false) c02 h3
    | true =>
      rw [if_pos rfl]
      refine (Out.bind c02 hl h3).mono ?_
      rintro z H3 ⟨fz3, F3, G3, z', ρ3, c3, v3, _, h4⟩
      obtain ⟨d, e4, h5⟩ := h4.lift
      obtain ⟨b, e5, e6⟩ := Option.map_eq_some_iff.mp e4
      subst e6
      have hy3 : Held T H3 fz3 F3 (G3 ++ (G2 ++ (G1 ++ []))) y w := Held.step c02 hy c3 (by rw [k.2]; rfl)
      obtain ⟨G0, r, s⟩ := v3.held
      exact ⟨fz3, F3, _, y, z', b, hy3, ⟨G0, r, fun a ha => (s a ha).imp_right (List.mem_append_left _)⟩, e5, Give.at (a := .bl b) (h5.give (c02.trans c3 hl))⟩
theorem pe_chnE {a b c : Expr} {ma mb mc : M D} {na nb nc : Bool} {o1 o2 : CO} (hK : X.K = T.K) (hu : X.A.units + 200 < cLine) (ha : PE X a (Tm T W true na ma)) (hb : PE X b (Tm T W true nb mb)) (hc : PE X c (Tm T W true nc mc))
    (hn : n = true → na = true) (hm : n = true → nb = true) (hl : n = true → nc = true) (hs : lastMarks [opC o1, opC o2] [b, c] = false) :
    PE X (.Compare a [opC o1, opC o2] [b, c] pos) (Tm T W p n (fin p (chnM ma mb mc o1 o2))) :=
  PE.fin (PE.imp (pe_chain (op_cmp o1 hK hu) (op_cmp o2 hK hu) ha hb hc hs) fun σ H Q h => chn_core hn hm hl h)
theorem pt_chnE {a b c : Expr} {ma mb mc : M D} {na nb nc : Bool} {o1 o2 : CO} (hK : X.K = T.K) (hu : X.A.units + 200 < cLine) (ha : PE X a (Tm T W true na ma)) (hb : PE X b (Tm T W true nb mb)) (hc : PE X c (Tm T W true nc mc))
    (hn : n = true → na = true) (hm : n = true → nb = true) (hl : n = true → nc = true) (hs : lastMarks [opC o1, opC o2] [b, c] = false) :
    PT X (.Compare a [opC o1, opC o2] [b, c] pos) (TmB T W n (tst (fin true (chnM ma mb mc o1 o2)))) := by
  rw [fin_tst]
  refine PT.imp (pt_chain (op_cmp (T := T) o1 hK hu) (op_cmp (T := T) o2 hK hu) ha hb hc hs) fun σ H Q h => ?_
  have h2 : Tm T W false n (chnM ma mb mc o1 o2) σ H fun v H1 => ∃ k, v = .bl k ∧ Q k H1 := by
    rw [tst_bl (fun ρ d ρ' e => by
      unfold chnM at e
      obtain ⟨x, ρ1, _, e⟩ := ok_bind e
      obtain ⟨y, ρ2, _, e⟩ := ok_bind e
      obtain ⟨r, ρ3, _, e⟩ := ok_bind (ok_chk e)
      cases r with
      | true => obtain ⟨z, ρ4, _, e⟩ := ok_bind e; exact ok_map e
      | false => cases e; exact ⟨false, rfl⟩), ← fin_tsb] at h
    exact (tst_val (na := n) (fun h => h) h).fin
  exact chn_core hn hm hl h2

/-! ## and, or, not, if -/
def andM (ma mb : M D) : M D := M.bind ma fun x => match x with
    | .at (.bl true) => mb
    | .at (.bl false) => M.pure (D.bl false)
    | _ => fun _ => .unk
def orM (ma mb : M D) : M D := M.bind ma fun x => match x with
    | .at (.bl false) => mb
    | .at (.bl true) => M.pure (D.bl true)
    | _ => fun _ => .unk
def notM (ma : M D) : M D := M.bind ma fun x => match x with
    | .at (.bl b) => M.pure (D.bl (!b))
    | _ => fun _ => .unk
def ifM (mc ma mb : M D) : M D := M.bind mc fun x => match x with
    | .at (.bl true) => ma
    | .at (.bl false) => mb
    | _ => fun _ => .unk
/-- the rest of an expression from where it stands -/
theorem Out.rest {σ : St} {H H1 : Hp} {fz fz1 : Fz} {F F1 G1 : List Addr} {ρ1 : Env} {Q : VK} {m : M D} {nb : Bool} (c : Cur T σ H fz F n H1 fz1 F1 G1 ρ1) (hn : n = true → nb = true) (h : Out T W σ H fz F p n (m ρ1) Q) : Tm T W p nb m σ H1 Q := by
  refine ⟨fz1, F1, ρ1, c.amb, c.env, ?_⟩
  revert h
  unfold Out
  cases e : m ρ1 with
  | ok d ρ' => exact fun h v H' fz' F' G c' q => h v H' fz' F' G (c.trans c' hn).dropR q
  | ex x ρ' => exact fun h => OutX.step c h
  | unk => exact fun h => h
theorem bool_case {σ : St} {H : Hp} {Q : VK} {ma : M D} {na : Bool} {k : Bool → M D} {nb : Bool} (hn : n = true → na = true) (hm : n = true → nb = true)
    (h : Tm T W false n (M.bind ma fun x => match x with | .at (.bl b) => k b | _ => fun _ => .unk) σ H Q) :
    Tm T W true na ma σ H fun v H1 => ∃ b, v = .bl b ∧ Tm T W false nb (k b) σ H1 Q := by
  obtain ⟨fz, F, ρ, c, h⟩ := h.start
  refine (Out.bind c hn h).mono ?_
  rintro v H1 ⟨fz1, F1, G1, x, ρ1, c1, ⟨_, G0, r, _⟩, _, h1⟩
  have c01 := c.trans c1 hn
  cases x with
  | «at» a =>
    cases a with
    | bl b => exact ⟨b, r.1, Out.rest c01 hm h1⟩
    | non => exact h1.elim
    | int _ => exact h1.elim
    | str _ => exact h1.elim
  | nd _ _ _ => exact h1.elim
theorem andM_eq (ma mb : M D) : andM ma mb = M.bind ma fun x => match x with | .at (.bl b) => (match b with | true => mb | false => M.pure (D.bl false)) | _ => fun _ => .unk := by
  unfold andM
  congr 1
  funext x
  cases x with
  | «at» a => cases a with
    | bl b => cases b <;> rfl
    | _ => rfl
  | nd _ _ _ => rfl
theorem orM_eq (ma mb : M D) : orM ma mb = M.bind ma fun x => match x with | .at (.bl b) => (match b with | false => mb | true => M.pure (D.bl true)) | _ => fun _ => .unk := by
  unfold orM
  congr 1
  funext x
  cases x with
  | «at» a => cases a with
    | bl b => cases b <;> rfl
    | _ => rfl
  | nd _ _ _ => rfl
theorem ifM_eq (mc ma mb : M D) : ifM mc ma mb = M.bind mc fun x => match x with | .at (.bl b) => (match b with | true => ma | false => mb) | _ => fun _ => .unk := by
  unfold ifM
  congr 1
  funext x
  cases x with
  | «at» a => cases a with
    | bl b => cases b <;> rfl
    | _ => rfl
  | nd _ _ _ => rfl
theorem pe_andE {a b : Expr} {rest : List Expr} {ma mb : M D} {na nb : Bool} (ha : PE X a (Tm T W true na ma)) (hb : PE X (.BoolOp .And (b :: rest) pos) (Tm T W false nb mb)) (hn : n = true → na = true) (hm : n = true → nb = true) :
    PE X (.BoolOp .And (a :: b :: rest) pos) (Tm T W p n (fin p (andM ma mb))) :=
  PE.fin (PE.imp (pe_and ha hb) fun σ H Q h => by
    rw [andM_eq] at h
    refine (bool_case (k := fun b => match b with | true => mb | false => M.pure (D.bl false)) hn hm h).mono ?_
    rintro v H1 ⟨b, e, h1⟩
    refine ⟨b, e, ?_⟩
    cases b with
    | true => rw [if_pos rfl]; exact h1
    | false => rw [if_neg Bool.false_ne_true]; exact tm_at (a := .bl false) h1)
theorem pe_orE {a b : Expr} {rest : List Expr} {ma mb : M D} {na nb : Bool} (ha : PE X a (Tm T W true na ma)) (hb : PE X (.BoolOp .Or (b :: rest) pos) (Tm T W false nb mb)) (hn : n = true → na = true) (hm : n = true → nb = true) :
    PE X (.BoolOp .Or (a :: b :: rest) pos) (Tm T W p n (fin p (orM ma mb))) :=
  PE.fin (PE.imp (pe_or ha hb) fun σ H Q h => by
    rw [orM_eq] at h
    refine (bool_case (k := fun b => match b with | false => mb | true => M.pure (D.bl true)) hn hm h).mono ?_
    rintro v H1 ⟨b, e, h1⟩
    refine ⟨b, e, ?_⟩
    cases b with
    | true => rw [if_pos rfl]; exact tm_at (a := .bl true) h1
    | false => rw [if_neg Bool.false_ne_true]; exact h1)
theorem pe_notE {a : Expr} {ma : M D} {na : Bool} (ha : PE X a (Tm T W true na ma)) (hn : n = true → na = true) : PE X (.UnaryOp .Not a pos) (Tm T W p n (fin p (notM ma))) :=
  PE.fin (PE.imp (pe_not ha) fun σ H Q h => (bool_case (k := fun b => M.pure (D.bl (!b))) (nb := n) hn (fun h => h) h).mono fun v H1 ⟨b, e, h1⟩ => ⟨b, e, tm_at (a := .bl (!b)) h1⟩)
/-- tests of these -/
theorem OutB.rest {σ : St} {H H1 : Hp} {fz fz1 : Fz} {F F1 G1 : List Addr} {ρ1 : Env} {Q : Bool → Hp → Prop} {m : M Bool} {nb : Bool} (c : Cur T σ H fz F n H1 fz1 F1 G1 ρ1) (hn : n = true → nb = true) (h : OutB T W σ H fz F n (m ρ1) Q) : TmB T W nb m σ H1 Q := by
  refine ⟨fz1, F1, ρ1, c.amb, c.env, ?_⟩
  revert h
  unfold OutB
  cases e : m ρ1 with
  | ok d ρ' => exact fun h H' fz' F' G c' => h H' fz' F' (G ++ G1) (c.trans c' hn)
  | ex x ρ' => exact fun h => OutX.step c h
  | unk => exact fun h => h
theorem bool_caseB {σ : St} {H : Hp} {Q : Bool → Hp → Prop} {ma : M D} {na : Bool} {k : Bool → M D} {nb : Bool} (hn : n = true → na = true) (hm : n = true → nb = true)
    (h : TmB T W n (tst (M.bind ma fun x => match x with | .at (.bl b) => k b | _ => fun _ => .unk)) σ H Q) :
    TmB T W na (tst ma) σ H fun b H1 => TmB T W nb (tst (k b)) σ H1 Q := by
  obtain ⟨fz, F, ρ, c, h⟩ := h.start
  refine ⟨fz, F, ρ, c.amb, c.env, ?_⟩
  cases e : ma ρ with
  | ex x ρ' =>
    have e1 : tst ma ρ = .ex x ρ' := by unfold tst M.bind; rw [e]
    rw [e1]
    have e2 : tst (M.bind ma fun x => match x with | .at (.bl b) => k b | _ => fun _ => .unk) ρ = .ex x ρ' := by unfold tst M.bind; simp only [e]
    rw [e2] at h
    exact h
  | unk =>
    have e2 : tst (M.bind ma fun x => match x with | .at (.bl b) => k b | _ => fun _ => .unk) ρ = .unk := by unfold tst M.bind; simp only [e]
    rw [e2] at h
    exact h.elim
  | ok d ρ1 =>
    cases d with
    | nd kd m xs =>
      have e2 : tst (M.bind ma fun x => match x with | .at (.bl b) => k b | _ => fun _ => .unk) ρ = .unk := by unfold tst M.bind; simp only [e]
      rw [e2] at h
      exact h.elim
    | «at» a =>
      cases a with
      | non =>
        have e2 : tst (M.bind ma fun x => match x with | .at (.bl b) => k b | _ => fun _ => .unk) ρ = .unk := by unfold tst M.bind; simp only [e]
        rw [e2] at h
        exact h.elim
      | int _ =>
        have e2 : tst (M.bind ma fun x => match x with | .at (.bl b) => k b | _ => fun _ => .unk) ρ = .unk := by unfold tst M.bind; simp only [e]
        rw [e2] at h
        exact h.elim
      | str _ =>
        have e2 : tst (M.bind ma fun x => match x with | .at (.bl b) => k b | _ => fun _ => .unk) ρ = .unk := by unfold tst M.bind; simp only [e]
        rw [e2] at h
        exact h.elim
      | bl b =>
        have e1 : tst ma ρ = .ok b ρ1 := by unfold tst M.bind; rw [e]; rfl
        have e2 : tst (M.bind ma fun x => match x with | .at (.bl b) => k b | _ => fun _ => .unk) ρ = tst (k b) ρ1 := by unfold tst M.bind; simp only [e]
        rw [e1]
        rw [e2] at h
        intro H1 fz1 F1 G1 c1
        exact OutB.rest (c.trans c1 hn) hm h
theorem tmB_pure {σ : St} {H : Hp} {Q : Bool → Hp → Prop} {b : Bool} (h : TmB T W n (tst (M.pure (D.bl b))) σ H Q) : Q b H := by
  obtain ⟨fz, F, ρ, c, h⟩ := h.start
  exact h H fz F [] c
theorem pw_andE {a b : Expr} {rest : List Expr} {ma mb : M D} {na nb : Bool} (ha : PT X a (TmB T W na (tst ma))) (hb : PW X (.BoolOp .And (b :: rest) pos) (TmB T W nb (tst mb))) (hn : n = true → na = true) (hm : n = true → nb = true) :
    PW X (.BoolOp .And (a :: b :: rest) pos) (TmB T W n (tst (fin true (andM ma mb)))) := by
  rw [fin_tst, andM_eq]
  refine PW.imp (pw_and ha hb) fun σ H Q h => ?_
  have h2 := bool_caseB (k := fun b => match b with | true => mb | false => M.pure (D.bl false)) hn hm h
  obtain ⟨fz, F, ρ, a', e, h3⟩ := h2
  refine ⟨fz, F, ρ, a', e, ?_⟩
  revert h3
  unfold OutB
  cases tst ma ρ with
  | ex x ρ' => exact fun h => h
  | unk => exact fun h => h
  | ok b ρ' =>
    intro h H' fz' F' G c
    have := h H' fz' F' G c
    cases b with
    | true => rw [if_pos rfl]; exact this
    | false => rw [if_neg Bool.false_ne_true]; exact tmB_pure this
theorem pw_orE {a b : Expr} {rest : List Expr} {ma mb : M D} {na nb : Bool} (ha : PT X a (TmB T W na (tst ma))) (hb : PW X (.BoolOp .Or (b :: rest) pos) (TmB T W nb (tst mb))) (hn : n = true → na = true) (hm : n = true → nb = true) :
    PW X (.BoolOp .Or (a :: b :: rest) pos) (TmB T W n (tst (fin true (orM ma mb)))) := by
  rw [fin_tst, orM_eq]
  refine PW.imp (pw_or ha hb) fun σ H Q h => ?_
  have h2 := bool_caseB (k := fun b => match b with | false => mb | true => M.pure (D.bl true)) hn hm h
  obtain ⟨fz, F, ρ, a', e, h3⟩ := h2
  refine ⟨fz, F, ρ, a', e, ?_⟩
  revert h3
  unfold OutB
  cases tst ma ρ with
  | ex x ρ' => exact fun h => h
  | unk => exact fun h => h
  | ok b ρ' =>
    intro h H' fz' F' G c
    have := h H' fz' F' G c
    cases b with
    | true => rw [if_pos rfl]; exact tmB_pure this
    | false => rw [if_neg Bool.false_ne_true]; exact this
theorem pt_notE {a : Expr} {ma : M D} {na : Bool} (ha : PT X a (TmB T W na (tst ma))) (hn : n = true → na = true) : PT X (.UnaryOp .Not a pos) (TmB T W n (tst (fin true (notM ma)))) := by
  rw [fin_tst]
  refine PT.imp (pt_not ha) fun σ H Q h => ?_
  have h2 := bool_caseB (k := fun b => M.pure (D.bl (!b))) (nb := n) hn (fun h => h) h
  obtain ⟨fz, F, ρ, a', e, h3⟩ := h2
  refine ⟨fz, F, ρ, a', e, ?_⟩
  revert h3
  unfold OutB
  cases tst ma ρ with
  | ex x ρ' => exact fun h => h
  | unk => exact fun h => h
  | ok b ρ' => exact fun h H' fz' F' G c => tmB_pure (h H' fz' F' G c)
theorem pe_ifE {c a b : Expr} {mc ma mb : M D} {nc na nb : Bool} (hc : PT X c (TmB T W nc (tst mc))) (ha : PE X a (Tm T W false na ma)) (hb : PE X b (Tm T W false nb mb)) (hn : n = true → nc = true) (hm : n = true → na = true) (hl : n = true → nb = true) :
    PE X (.IfExp c a b pos) (Tm T W p n (fin p (ifM mc ma mb))) :=
  PE.fin (PE.imp (pe_ifExp hc ha hb) fun σ H Q h => by
    rw [ifM_eq] at h
    obtain ⟨fz, F, ρ, cu, h⟩ := h.start
    refine ⟨fz, F, ρ, cu.amb, cu.env, ?_⟩
    unfold M.bind at h
    unfold OutB tst M.bind
    revert h
    cases mc ρ with
    | ex x ρ' => exact fun h => h
    | unk => exact fun h => h
    | ok d ρ1 =>
      cases d with
      | nd _ _ _ => exact fun h => h
      | «at» a0 =>
        cases a0 with
        | non => exact fun h => h
        | int _ => exact fun h => h.elim
        | str _ => exact fun h => h
        | bl b0 =>
          intro h H1 fz1 F1 G1 c1
          have c01 := cu.trans c1 hn
          cases b0 with
          | true => rw [if_pos rfl]; exact Out.rest c01 hm h
          | false => rw [if_neg Bool.false_ne_true]; exact Out.rest c01 hl h)
end
end Ev

set_option Elab.async false
set_option linter.all false
set_option maxRecDepth 100000
set_option maxHeartbeats 4000000
namespace Ev
open PySem PySem.Spec L2

/-! ## places that are looked at -/
section
variable {T : Tab} {W : WX} {σ : St} {H H1 H2 H' : Hp} {fz fz1 fz2 : Fz} {F F1 F2 G G1 G2 : List Addr} {n p : Bool} {ρ ρ1 ρ2 : Env} {Q : VK}
def Seen (T : Tab) (H : Hp) (fz : Fz) (F : List Addr) (d : D) (v : V) : Prop := ∃ G0, Rep T H fz d v G0 ∧ ∀ a ∈ G0, a ∈ F
theorem Seen.held {d : D} {v : V} (h : Seen T H fz F d v) : Held T H fz F G d v := by
  obtain ⟨G0, r, s⟩ := h
  exact ⟨G0, r, fun a q => .inl (s a q)⟩
theorem Seen.step {d : D} {v : V} {nb : Bool} (h : Seen T H1 fz1 F1 d v) (c : Amb H1 fz1 F1) (s : Cur T σ H1 fz1 F1 nb H2 fz2 F2 G2 ρ2) (k : (d.clean || nb) = true) : Seen T H2 fz2 F2 d v := by
  obtain ⟨G0, r, q⟩ := h
  rw [Bool.or_eq_true] at k
  rcases k with k | k
  · have e := clean_nil k r
    subst e
    exact ⟨[], r.fr (s.ext.fr c (by simp)), by simp⟩
  · subst k
    exact ⟨G0, r.fr s.frN, fun a ha => by rw [(s.nm rfl).1]; exact q a ha⟩
/-- one thing, a place within it -/
theorem place1 {ma : M D} {f : D → Option D} {na : Bool} (hn : n = true → na = true) (h : Tm T W p n (M.bind ma fun x => M.bind (M.lift (f x)) fun d => plc p d) σ H Q) :
    Tm T W true na ma σ H fun v H1 => ∃ fz F x d, Seen T H1 fz F x v ∧ f x = some d ∧ ∀ v', Seen T H1 fz F d v' → Q v' H1 := by
  obtain ⟨fz, F, ρ, c, h⟩ := h.start
  refine (Out.bind c hn h).mono ?_
  rintro v H1 ⟨fz1, F1, G1, x, ρ1, c1, ⟨_, v1⟩, _, h1⟩
  cases e : f x with
  | none => rw [e] at h1; exact h1.elim
  | some d =>
    rw [e] at h1
    exact ⟨fz1, F1, x, d, v1, e, fun v' ⟨G0, r, s⟩ => Out.place (c.trans c1 hn) h1 r s⟩
theorem place2 {ma mb : M D} {f : D → D → Option D} {na nb : Bool} (hn : n = true → na = true) (hm : n = true → nb = true)
    (h : Tm T W p n (M.bind ma fun x => M.bind mb fun y => M.chk (x.clean || nb) (M.bind (M.lift (f x y)) fun d => plc p d)) σ H Q) :
    Tm T W true na ma σ H fun v H1 => Tm T W true nb mb σ H1 fun w H2 => ∃ fz F x y d, Seen T H2 fz F x v ∧ Seen T H2 fz F y w ∧ f x y = some d ∧ ∀ v', Seen T H2 fz F d v' → Q v' H2 := by
  obtain ⟨fz, F, ρ, c, h⟩ := h.start
  refine (Out.bind c hn h).mono ?_
  rintro v H1 ⟨fz1, F1, G1, x, ρ1, c1, ⟨_, v1⟩, _, h1⟩
  have c01 := c.trans c1 hn
  refine (Out.bind c01 hm h1).mono ?_
  rintro w H2 ⟨fz2, F2, G2, y, ρ2, c2, ⟨_, v2⟩, _, h2⟩
  obtain ⟨k, h3⟩ := h2.chk
  cases e : f x y with
  | none => rw [e] at h3; exact h3.elim
  | some d =>
    rw [e] at h3
    exact ⟨fz2, F2, x, y, d, Seen.step v1 c1.amb c2 k, v2, e, fun v' ⟨G0, r, s⟩ => Out.place (c01.trans c2 hm) h3 r s⟩
theorem Seen.kid {k : Kd} {m : Bool} {xs : List D} {v : V} (h : Seen T H fz F (.nd k m xs) v) : ∃ a vs G1, v = .ref a ∧ HK T H fz m k a vs ∧ RepL T H fz xs vs G1 ∧ ∀ b ∈ G1, b ∈ F := by
  obtain ⟨G0, ⟨a, vs, G1, e, hk, hl, ho⟩, s⟩ := h
  exact ⟨a, vs, G1, e, hk, hl, fun b hb => s b (ho.sub b hb)⟩
theorem RepL.seen {xs : List D} {vs : List V} {j : Nat} {x : D} (h : RepL T H fz xs vs G1) (s : ∀ b ∈ G1, b ∈ F) (e : xs[j]? = some x) : ∃ v, vs[j]? = some v ∧ Seen T H fz F x v := by
  obtain ⟨v, B, e1, r, s1⟩ := h.get e
  exact ⟨v, e1, B, r, fun a ha => s a (s1 a ha)⟩
theorem RepL.atI {xs : List D} {vs : List V} {i : Int} {x : D} (h : RepL T H fz xs vs G1) (s : ∀ b ∈ G1, b ∈ F) (e : atI xs i = some x) : ∃ v, L2.atI vs i = some v ∧ Seen T H fz F x v := by
  unfold L2.atI at e ⊢
  obtain ⟨j, e1, e2⟩ := Option.bind_eq_some_iff.mp e
  obtain ⟨v, e3, q⟩ := h.seen s e2
  rw [← h.len, e1]
  exact ⟨v, e3, q⟩
theorem atK_seen {κ : Type} [DecidableEq κ] (k : κ) : ∀ {ks : List κ} {xs : List D} {vs : List V} {G1 : List Addr} {d : D}, RepL T H fz xs vs G1 → (∀ b ∈ G1, b ∈ F) → atK k ks xs = some d → ∃ v, valV (ks.zip vs) k = some v ∧ Seen T H fz F d v
  | [], _, _, _, _, _, _, e => by cases e
  | _ :: _, [], _, _, _, _, _, e => by cases e
  | q :: ks, x :: xs, vs, G1, d, h, s, e => by
    obtain ⟨v, r, F1, F2, e1, e2, h1, h2⟩ := h
    subst e1; subst e2
    unfold atK at e
    by_cases hq : q = k
    · rw [if_pos hq] at e
      cases e
      exact ⟨v, by simp [valV, hq], F1, h1, fun a ha => s a (List.mem_append_left _ ha)⟩
    · rw [if_neg hq] at e
      obtain ⟨w, e3, q3⟩ := atK_seen k h2 (fun b hb => s b (List.mem_append_right _ hb)) e
      refine ⟨w, ?_, q3⟩
      rw [← e3]
      simp [valV, hq]
end

section
variable {X : Cx} {T : Tab} {W : WX} {n p : Bool} {pos : Pos}
def rIxE (T : Tab) : R2 := fun v w H Q => ∃ fz F x y d, Seen T H fz F x v ∧ Seen T H fz F y w ∧ idxD x y = some d ∧ ∀ v', Seen T H fz F d v' → Q v' H
theorem ix_dict (hu : X.A.units + 1 < cLine) : IxR X (fun v w H Q => ∃ a y, v = .ref a ∧ DGet H a w (some y) ∧ Q y H) := by
  intro value slice pins s σ H x y v u Q I rx ry h hs
  obtain ⟨a, z, rfl, g, q⟩ := h
  cases rx
  exact PyProof.Rows.tail_any (dict_typeIs I g) slot_dict_getitem.lookup (d_getItem hu I g ry fun w' s' I' r' => ⟨z, H, I', r', q⟩) hs
theorem ix_ev (hK : X.K = T.K) (hu : X.A.units + 200 < cLine) : IxR X (rIxE T) := by
  intro value slice pins s σ H x0 y0 v u Q I rx ry h hs
  obtain ⟨fz, F, x, y, d, hx, hy, e, g⟩ := h
  unfold idxD at e
  split at e
  · obtain ⟨a, vs, G1, e1, hk, hl, s1⟩ := hx.kid
    have e2 := (hy.held (G := [])).at
    obtain ⟨w, e3, q⟩ := hl.atI s1 e
    rename_i m xs i
    cases m with
    | true => exact absurd rfl hk.1
    | false => exact ix_tup value slice pins s σ H x0 y0 v u Q I rx ry ⟨a, vs, i, w, e1, e2, by rw [hK]; exact sqT_of hk, e3, g w q⟩ hs
  · obtain ⟨a, vs, G1, e1, hk, hl, s1⟩ := hx.kid
    have e2 := (hy.held (G := [])).at
    obtain ⟨w, e3, q⟩ := hl.atI s1 e
    exact ix_list value slice pins s σ H x0 y0 v u Q I rx ry ⟨a, vs, _, w, e1, e2, .inl (.inl (lst_of hk)), e3, g w q⟩ hs
  · obtain ⟨a, vs, G1, e1, hk, hl, s1⟩ := hx.kid
    have e2 := (hy.held (G := [])).at
    obtain ⟨w, e3, q⟩ := hl.atI s1 e
    exact ix_list value slice pins s σ H x0 y0 v u Q I rx ry ⟨a, vs, _, w, e1, e2, by rw [hK]; exact scr_of hk, e3, g w q⟩ hs
  · have e1 := (hx.held (G := [])).at
    have e2 := (hy.held (G := [])).at
    split at e
    · rename_i z i hz
      obtain ⟨c, e3, e4⟩ := Option.map_eq_some_iff.mp e
      subst e4
      exact ix_str value slice pins s σ H x0 y0 v u Q I rx ry ⟨z, i, c, e1, e2, lineB_ok hz, e3, g _ ⟨[], ⟨rfl, rfl⟩, by simp⟩⟩ hs
    · cases e
  · split at e
    · rename_i ks m vs0 k ek
      obtain ⟨a, vs, G1, e1, hk, hl, s1⟩ := hx.kid
      have e2 := (hy.held (G := [])).key ek
      obtain ⟨w, e3, q⟩ := atK_seen k hl s1 e
      subst e2
      exact ix_dict (by omega) value slice pins s σ H x0 _ v u Q I rx ry ⟨a, w, e1, by rw [← e3]; exact DGet.k (dk_of hk).2, g w q⟩ hs
    · cases e
  · split at e
    · rename_i ks m vs0 xs k ek
      obtain ⟨a, vs, G1, e1, hk, hl, s1⟩ := hx.kid
      obtain ⟨b, e2, hb⟩ := (hy.held (G := [])).keyT ek
      obtain ⟨w, e3, q⟩ := atK_seen k hl s1 e
      subst e2
      exact ix_dict (by omega) value slice pins s σ H x0 _ v u Q I rx ry ⟨a, w, e1, by rw [← e3]; exact DGet.t (dt_of hk).2 hb, g w q⟩ hs
    · cases e
  · cases e
theorem pe_idxE {a b : Expr} {ma mb : M D} {na nb : Bool} (hK : X.K = T.K) (hu : X.A.units + 200 < cLine) (ha : PE X a (Tm T W true na ma)) (hb : PE X b (Tm T W true nb mb)) (hn : n = true → na = true) (hm : n = true → nb = true) (hs : PlainIx b) :
    PE X (.Subscript a b pos) (Tm T W p n (M.bind ma fun x => M.bind mb fun j => M.chk (x.clean || nb) (M.bind (M.lift (idxD x j)) fun d => plc p d))) :=
  PE.imp (pe_ix (ix_ev hK hu) ha hb hs) fun σ H Q h => (place2 hn hm h).mono fun v H1 h1 => h1.mono fun w H2 h2 => h2

/-! ## fields -/
structure TabOk (T : Tab) : Prop where
  cls : ∀ c, Cls T.K (T.C c)
  na : ∀ c f, f < T.nf → NoAttr T.K (T.C c) (T.f f)
  inj : ∀ f g, f < T.nf → g < T.nf → T.f f = T.f g → f = g
theorem fldAt_seen {fz : Fz} {H : Hp} {F : List Addr} (ok : TabOk T) (f : Nat) (hf : f < T.nf) : ∀ {fs : List Nat} {xs : List D} {vs : List V} {G1 : List Addr} {d : D}, (∀ g ∈ fs, g < T.nf) → RepL T H fz xs vs G1 → (∀ b ∈ G1, b ∈ F) → fldAt f fs xs = some d → ∃ v, ((fs.map T.f).zip vs).lookup (T.f f) = some v ∧ Seen T H fz F d v
  | [], _, _, _, _, _, _, _, e => by cases e
  | _ :: _, [], _, _, _, _, _, _, e => by cases e
  | q :: fs, x :: xs, vs, G1, d, hg, h, s, e => by
    obtain ⟨v, r, F1, F2, e1, e2, h1, h2⟩ := h
    subst e1; subst e2
    unfold fldAt at e
    by_cases hq : q = f
    · rw [if_pos hq] at e
      cases e
      exact ⟨v, by simp [hq], F1, h1, fun a ha => s a (List.mem_append_left _ ha)⟩
    · rw [if_neg hq] at e
      obtain ⟨w, e3, q3⟩ := fldAt_seen ok f hf (fun g z => hg g (List.mem_cons_of_mem _ z)) h2 (fun b hb => s b (List.mem_append_right _ hb)) e
      refine ⟨w, ?_, q3⟩
      rw [← e3]
      have hne : (T.f f == T.f q) = false := by
        rw [beq_eq_false_iff_ne]
        intro z
        exact hq (ok.inj f q hf (hg q List.mem_cons_self) z).symm
      simp [List.lookup_cons, hne]
theorem pe_fldE {a : Expr} {ma : M D} {na : Bool} {f : Nat} (hK : X.K = T.K) (ok : TabOk T) (hf : f < T.nf) (ha : PE X a (Tm T W true na ma)) (hn : n = true → na = true) (hb : attributeBase a (T.f f) X.env (eval a X.env) = eval a X.env) :
    PE X (.Attribute a (T.f f) pos) (Tm T W p n (M.bind ma fun x => M.bind (M.lift (fldD f x)) fun d => plc p d)) :=
  PE.imp (pe_fld ha hb) fun σ H Q h => (place1 hn h).mono fun v H1 ⟨fz, F, x, d, hx, e, g⟩ => by
    unfold fldD at e
    split at e
    · obtain ⟨b, vs, G1, e1, hk, hl, s1⟩ := hx.kid
      obtain ⟨q1, q2, dx, q3⟩ := obj_of hk
      obtain ⟨w, e3, q⟩ := fldAt_seen ok f hf q2 hl s1 e
      exact ⟨b, _, dx, _, w, e1, q3, by rw [hK]; exact ok.cls _, by rw [hK]; exact ok.na _ f hf, e3, g w q⟩
    · cases e

/-! ## displays -/
theorem TmL.start {σ : St} {H : Hp} {Q : List V → Hp → Prop} {m : M (List D)} (h : TmL T W p n m σ H Q) : ∃ fz F ρ, Cur T σ H fz F n H fz F [] ρ ∧ OutL T W σ H fz F p n (m ρ) Q := by
  obtain ⟨fz, F, ρ, a, e, h⟩ := h
  exact ⟨fz, F, ρ, Cur.refl a e, h⟩
theorem PA.imp {es : List Expr} {t u : TA} (h : PA X es t) (i : ∀ σ H Q, u σ H Q → t σ H Q) : PA X es u := ⟨fun pos pins s σ H Q I w => h.run pos pins s σ H Q I (i σ H Q w)⟩
theorem pa_nilE : PA X [] (TmL T W false n (M.pure [])) := PA.imp pa_nil fun σ H Q h => by
  obtain ⟨fz, F, ρ, c, h⟩ := h.start
  exact h [] H fz F [] c ⟨rfl, rfl⟩
/-- the next item, then the others -/
theorem consL_core {σ : St} {H : Hp} {Q : List V → Hp → Prop} {ma : M D} {mr : M (List D)} {na nr : Bool} (hn : n = true → na = true) (hr : n = true → nr = true)
    (h : TmL T W false n (M.bind ma fun x => M.bind mr fun xs => M.pure (x :: xs)) σ H Q) : Tm T W false na ma σ H fun v H1 => TmL T W false nr mr σ H1 fun vs H2 => Q (v :: vs) H2 := by
  obtain ⟨fz, F, ρ, c, h⟩ := h.start
  refine (OutL.bind c hn h).mono ?_
  rintro v H1 ⟨fz1, F1, G1, x, ρ1, c1, v1, _, h1⟩
  have c01 := c.trans c1 hn
  refine (OutL.bindL c01 hr h1).mono ?_
  rintro vs H2 ⟨fz2, F2, G2, xs, ρ2, c2, v2, _, h2⟩
  have c02 := c01.trans c2 hr
  refine h2 (v :: vs) H2 fz2 F2 (G1 ++ G2) ?_ ⟨v, vs, G1, G2, rfl, rfl, Rep.fr v1 ((c01.frT c2).mono fun a ha => by simp [ha]), v2⟩
  refine c02.permG ?_
  simpa using List.perm_append_comm
theorem pa_consE {e : Expr} {es : List Expr} {ma : M D} {mr : M (List D)} {na nr : Bool} (ha : PE X e (Tm T W false na ma)) (hr : PA X es (TmL T W false nr mr)) (hn : n = true → na = true) (hm : n = true → nr = true)
    (hs : starEach (e :: es) X.env = (false, eval e X.env) :: starEach es X.env) : PA X (e :: es) (TmL T W false n (M.bind ma fun x => M.bind mr fun xs => M.pure (x :: xs))) :=
  PA.imp (pa_cons ha hr hs) fun σ H Q h => consL_core hn hm h
/-- a list of things, then the end -/
theorem bindL_core {σ : St} {H : Hp} {Q : VK} {ml : M (List D)} {g : List D → M D} {nl : Bool} {pb : Bool} (hn : n = true → nl = true) (h : Tm T W p n (M.bind ml g) σ H Q) :
    TmL T W pb nl ml σ H fun vs H1 => ∃ fz0 F0 fz1 F1 G1 xs ρ1, Cur T σ H fz0 F0 n H1 fz1 F1 G1 ρ1 ∧ ValL T pb H1 fz1 F1 G1 xs vs ∧ Out T W σ H fz0 F0 p n (g xs ρ1) Q := by
  obtain ⟨fz, F, ρ, c, h⟩ := h.start
  refine (Out.bindL c hn h).mono ?_
  rintro v H1 ⟨fz1, F1, G1, x, ρ1, c1, v1, _, h1⟩
  exact ⟨fz, F, fz1, F1, G1, x, ρ1, by simpa using c.trans c1 hn, v1, h1⟩
theorem pe_tupE {es : List Expr} {x1 : Nat} {ml : M (List D)} {nl : Bool} (h : PA X es (TmL T W false nl ml)) (hn : n = true → nl = true) : PE X (.Tuple es x1 pos) (Tm T W p n (fin p (M.bind ml fun xs => M.chk (lineB xs.length) (M.pure (D.tup xs))))) :=
  PE.fin (PE.imp (pe_tup h) fun σ H Q h => (bindL_core hn h).mono fun vs H1 ⟨fz0, F0, fz1, F1, G1, xs, ρ1, c, v, o⟩ => by
    obtain ⟨k, o⟩ := o.chk
    refine ⟨by rw [← RepL.len v]; exact lineB_ok k, fun q hq => ?_⟩
    have al : Alloc H1 (upd H1 q (.tup vs)) [] := .new0 hq
    exact o _ _ fz1 F1 G1 (by have := c.alloc al; simpa using this) (rep_tup upd_same (RepL.fr v al.fr)))
theorem pe_lstE {es : List Expr} {ml : M (List D)} {nl : Bool} (h : PA X es (TmL T W false nl ml)) (hn : n = true → nl = true) : PE X (.List es pos) (Tm T W p n (fin p (M.bind ml fun xs => M.chk (lineB xs.length) (M.pure (D.lst true xs))))) :=
  PE.fin (PE.imp (pe_lst h) fun σ H Q h => (bindL_core hn h).mono fun vs H1 ⟨fz0, F0, fz1, F1, G1, xs, ρ1, c, v, o⟩ => by
    obtain ⟨k, o⟩ := o.chk
    refine ⟨by rw [← RepL.len v]; exact lineB_ok k, fun q hq => ?_⟩
    have al : Alloc H1 (upd H1 q (.lst vs)) [q] := .new hq True.intro
    exact o _ _ fz1 F1 (q :: G1) (c.alloc al) (rep_lst upd_same (RepL.fr v al.fr)))
theorem pe_dicE {t : Bool} : PE X (.Dict [] [] pos) (Tm T W p n (fin p (M.pure (match t with
    | true => .nd (.dt []) true []
    | false => .nd (.dk []) true [])))) := by
  cases t with
  | false =>
    refine PE.fin (PE.imp pe_dnewK fun σ H Q h q hq => ?_)
    obtain ⟨fz, F, ρ, c, h⟩ := h.start
    have al : Alloc H (upd H q (.dK [])) [q] := .new hq True.intro
    exact h _ _ fz F [q] (by simpa using c.alloc al) ⟨q, [], [], rfl, ⟨by simp, by simp, _, upd_same, rfl, List.nodup_nil, rfl⟩, ⟨rfl, rfl⟩, rfl⟩
  | true =>
    refine PE.fin (PE.imp pe_dnewT fun σ H Q h q hq => ?_)
    obtain ⟨fz, F, ρ, c, h⟩ := h.start
    have al : Alloc H (upd H q (.dT [])) [q] := .new hq True.intro
    exact h _ _ fz F [q] (by simpa using c.alloc al) ⟨q, [], [], rfl, ⟨by simp, by simp, _, upd_same, rfl, List.nodup_nil, rfl⟩, ⟨rfl, rfl⟩, rfl⟩
end
end Ev

set_option Elab.async false
set_option linter.all false
set_option maxRecDepth 100000
set_option maxHeartbeats 4000000
/-! ranges as values -/
namespace Ev
open PySem PySem.Spec L2 PyProof.Rows
section
variable {X : Cx}
theorem rng_at {pins : List (Addr × Obj)} {σ : L2.St} {H : Hp} {s : Shared} {a : Addr} {lo hi : Int} (I : Inv X pins σ H s) (h : H a = some (.rng lo hi)) : ∃ t u v, IsRange s.heap a lo hi 1 t u v := by
  obtain ⟨t, u, v, e⟩ := (show ObjOk X.prog X.w H s.heap a (.rng lo hi) from I.hok a _ h)
  exact ⟨t, u, v, e⟩
theorem cr_rng1 : CallR X (.type "range") (fun vs H Q => ∃ j, vs = [V.int j] ∧ ∀ p, H p = none → Q (.ref p) (upd H p (.rng 0 j))) := by
  intro pins s σ H vs us Q I r h
  obtain ⟨j, rfl, q⟩ := h
  obtain ⟨u1, rfl, rj⟩ := vals1 r
  obtain ⟨t, rfl⟩ := rj
  refine call_range_1 ⟨.ref s.heap.objs.size, upd H s.heap.objs.size (.rng 0 j), I.laid (fun b o e => Heap.get?_push_of_some _ e) (Nat.le_refl _) ?_, rfl, q _ (I.hok.fresh (Nat.le_refl _))⟩
  exact ⟨_, _, _, Heap.get?_push_size _ rfl⟩
theorem cr_rng2 : CallR X (.type "range") (fun vs H Q => ∃ i j, vs = [V.int i, V.int j] ∧ ∀ p, H p = none → Q (.ref p) (upd H p (.rng i j))) := by
  intro pins s σ H vs us Q I r h
  obtain ⟨i, j, rfl, q⟩ := h
  obtain ⟨u1, u2, rfl, ri, rj⟩ := vals2 r
  obtain ⟨t, rfl⟩ := ri
  obtain ⟨u, rfl⟩ := rj
  refine call_range_2 ⟨.ref s.heap.objs.size, upd H s.heap.objs.size (.rng i j), I.laid (fun b o e => Heap.get?_push_of_some _ e) (Nat.le_refl _) ?_, rfl, q _ (I.hok.fresh (Nat.le_refl _))⟩
  exact ⟨_, _, _, Heap.get?_push_size _ rfl⟩
theorem cr_listRg (hc : X.calm = true) : CallR X (.type "list") (fun vs H Q => ∃ p a b, vs = [V.ref p] ∧ H p = some (.rng a b) ∧ RgOk a b ∧ ∀ q, H q = none → Q (.ref q) (upd H q (.lst (rgV a b)))) := by
  intro pins s σ H vs us Q I r h
  obtain ⟨p, a, b, rfl, hp, ⟨b1, b2, b3, b4, b5⟩, q⟩ := h
  obtain ⟨u, rfl, ru⟩ := vals1 r
  cases ru
  obtain ⟨t, u, v, hr⟩ := rng_at I hp
  refine call_list_range (n := (b - a).toNat) (I.ok.hd hc) hr (small_one b1 b2 b3 b4) (rangeSize_nat a b) b5 fun h' tk acc c' hk e' hi => ?_
  refine ⟨.ref s.heap.objs.size, upd H s.heap.objs.size (.lst (rgV a b)), I.laid hk (Nat.le_refl _) (show ObjOk X.prog X.w _ _ _ (.lst (rgV a b)) from ⟨?_, acc.toList, c', vals_rg hi, ?_⟩), rfl, q _ (I.hok.fresh (Nat.le_refl _))⟩
  · rw [rgV_length, sizeLine_eq]; omega
  · rw [Array.toArray_toList]; exact e'
theorem cr_tupRg (hc : X.calm = true) : CallR X (.type "tuple") (fun vs H Q => ∃ p a b, vs = [V.ref p] ∧ H p = some (.rng a b) ∧ RgOk a b ∧ ∀ q, H q = none → Q (.ref q) (upd H q (.tup (rgV a b)))) := by
  intro pins s σ H vs us Q I r h
  obtain ⟨p, a, b, rfl, hp, ⟨b1, b2, b3, b4, b5⟩, q⟩ := h
  obtain ⟨u, rfl, ru⟩ := vals1 r
  cases ru
  obtain ⟨t, u, v, hr⟩ := rng_at I hp
  refine call_tuple_range (n := (b - a).toNat) (I.ok.hd hc) hr (small_one b1 b2 b3 b4) (rangeSize_nat a b) b5 fun h' tk acc hk hi => ?_
  have I2 : Inv X pins σ H { s with heap := h', toks := tk } := I.kept hk
  refine ⟨.ref h'.objs.size, upd H h'.objs.size (.tup (rgV a b)), I2.laid (t' := tk) (fun c o e => Heap.get?_push_of_some _ e) (Nat.le_refl _) (show ObjOk X.prog X.w _ _ _ (.tup (rgV a b)) from ⟨?_, acc.toList, vals_rg hi, ?_⟩), rfl, q _ (I2.hok.fresh (Nat.le_refl _))⟩
  · rw [rgV_length, sizeLine_eq]; omega
  · rw [Array.toArray_toList]; exact IsTup.new _ _
end
section
variable {T : Tab} {H : Hp} {fz : Fz} {F G : List Addr}
theorem rng_of {m : Bool} {a : Addr} {lo hi : Int} {vs : List V} (h : HK T H fz m (.rng lo hi) a vs) : vs = [] ∧ H a = some (.rng lo hi) := by
  cases m with
  | true => obtain ⟨_, _, o, e, q1, q⟩ := h; subst q; exact ⟨q1, e⟩
  | false =>
    rcases h with ⟨_, o, e, q1, q⟩ | ⟨c, _⟩ | h
    · subst q; exact ⟨q1, e⟩
    · cases c
    · exact h.elim
theorem Held.rng {m : Bool} {lo hi : Int} {xs : List D} {v : V} (h : Held T H fz F G (.nd (.rng lo hi) m xs) v) : ∃ a, v = .ref a ∧ H a = some (.rng lo hi) := by
  obtain ⟨G0, ⟨a, vs, G1, e, hk, hl, ho⟩, _⟩ := h
  exact ⟨a, e, (rng_of hk).2⟩
theorem Give.rng {Q : VK} {lo hi : Int} (g : Give T H fz (.nd (.rng lo hi) false []) Q) : ∀ q, H q = none → Q (.ref q) (upd H q (.rng lo hi)) := fun q hq =>
  g _ _ [] (.new0 hq) ⟨q, [], [], rfl, .inl ⟨.inl rfl, _, upd_same, rfl, rfl⟩, ⟨rfl, rfl⟩, rfl, rfl⟩
theorem rgB_ok {lo hi : Int} (h : rgB lo hi = true) : RgOk lo hi := by
  unfold rgB smallI at h
  simp only [Bool.and_eq_true, decide_eq_true_eq] at h
  exact ⟨h.1.1.1, h.1.1.2, h.1.2.1, h.1.2.2, h.2⟩
theorem repL_rg (lo hi : Int) {H' : Hp} : RepL T H' fz (rngD lo (hi - lo).toNat) (rgV lo hi) [] := by
  unfold rngD rgV
  generalize List.range (hi - lo).toNat = ns
  induction ns with
  | nil => exact ⟨rfl, rfl⟩
  | cons n ns ih => exact ⟨_, _, [], [], rfl, rfl, ⟨rfl, rfl⟩, ih⟩
end
end Ev

set_option Elab.async false
set_option linter.all false
set_option maxRecDepth 100000
set_option maxHeartbeats 4000000
namespace Ev
open PySem PySem.Spec L2

section
variable {X : Cx} {T : Tab} {W : WX} {n p : Bool} {pos : Pos}
/-! ## slices -/
def TmO (T : Tab) (W : WX) (n : Bool) (ml : M (List D)) : TO := fun σ H Q => TmL T W false n ml σ H fun vs H1 => (vs = [] ∧ Q none H1) ∨ ∃ i, vs = [.int i] ∧ Q (some i) H1
theorem PO.imp {e : Option Expr} {t u : TO} (h : PO X e t) (i : ∀ σ H Q, u σ H Q → t σ H Q) : PO X e u := ⟨fun pins s σ H Q I w => h.run pins s σ H Q I (i σ H Q w)⟩
theorem po_noneE : PO X none (TmO T W n (M.pure [])) := PO.imp po_none fun σ H Q h => by
  obtain ⟨fz, F, ρ, c, h⟩ := h.start
  rcases h [] H fz F [] c ⟨rfl, rfl⟩ with ⟨_, q⟩ | ⟨i, e, _⟩
  · exact q
  · cases e
theorem po_someE {e : Expr} {ma : M D} {na : Bool} (ha : PE X e (Tm T W false na ma)) (hn : n = true → na = true) : PO X (some e) (TmO T W n (M.bind ma fun x => M.bind (M.pure []) fun xs => M.pure (x :: xs))) :=
  PO.imp (po_some ha) fun σ H Q h => (consL_core (nr := true) hn (fun _ => rfl) h).mono fun v H1 h1 => by
    obtain ⟨fz, F, ρ, c, h1⟩ := h1.start
    rcases h1 [] H1 fz F [] c ⟨rfl, rfl⟩ with ⟨e, _⟩ | ⟨i, e, q⟩
    · cases e
    · cases e; exact ⟨i, rfl, q⟩
theorem part_of {H : Hp} {fz : Fz} {ds : List D} {vs : List V} {G : List Addr} {l : Option Int} (h : partOf ds = some l) (r : RepL T H fz ds vs G) : (vs = [] ∧ l = none) ∨ ∃ i, vs = [.int i] ∧ l = some i := by
  unfold partOf at h
  split at h
  · cases h; exact .inl ⟨r.1, rfl⟩
  · cases h
    obtain ⟨v, w, F1, F2, e1, e2, h1, h2⟩ := r
    exact .inr ⟨_, by rw [e1, h1.1, h2.1]; rfl, rfl⟩
  · cases h
def rSlE (T : Tab) : V → Option Int → Option Int → Hp → VK → Prop := fun v l u H Q => ∃ fz F G x d, Held T H fz F G x v ∧ slcD x l u = some d ∧ Give T H fz d Q
theorem sl_ev (hK : X.K = T.K) : SlR X (rSlE T) := by
  intro pins s σ H x0 v vl vu lo hi sl Q I rx hs pl pu h
  obtain ⟨fz, F, G, x, d, hx, e, g⟩ := h
  unfold slcD at e
  split at e
  · split at e
    · rename_i xs c
      cases e
      obtain ⟨a, vs, e1, s1, k1, r1⟩ := hx.tupC c
      refine sl_tupA pins s σ H x0 v vl vu lo hi sl Q I rx hs pl pu ⟨a, vs, e1, by rw [hK]; exact s1, fun z => ?_, fun _ => g.tup (r1.cut lo hi)⟩
      have e3 : cutD xs lo hi = xs := by
        unfold cutD
        rw [r1.len, z.1, z.2, Nat.sub_zero, List.drop_zero, ← r1.len, List.take_length]
      rw [e3] at g
      exact g.tup0 k1 r1
    · cases e
  · split at e
    · rename_i c
      cases e
      obtain ⟨a, vs, e1, s1, r1⟩ := hx.lstC c
      exact sl_list pins s σ H x0 v vl vu lo hi sl Q I rx hs pl pu ⟨a, vs, e1, .inl (.inl s1), g.lst (r1.cut lo hi)⟩
    · cases e
  · split at e
    · rename_i c
      cases e
      obtain ⟨G0, ⟨a, vs, G1, e1, hk, hl, ho⟩, _⟩ := hx
      exact sl_list pins s σ H x0 v vl vu lo hi sl Q I rx hs pl pu ⟨a, vs, e1, by rw [hK]; exact scr_of hk, g.lst ((hl.cl c).cut lo hi)⟩
    · cases e
  · split at e
    · rename_i hz
      cases e
      exact sl_str pins s σ H x0 v vl vu lo hi sl Q I rx hs pl pu ⟨_, hx.at, lineB_ok hz, g.at⟩
    · cases e
  · cases e
theorem Out.lift' {α : Type} {σ : St} {H : Hp} {fz : Fz} {F : List Addr} {ρ1 : Env} {Q : VK} {o : Option α} {k : α → M D} (h : Out T W σ H fz F p n (M.bind (M.lift o) k ρ1) Q) : ∃ d, o = some d ∧ Out T W σ H fz F p n (k d ρ1) Q := by
  cases o with
  | some d => exact ⟨d, rfl, h⟩
  | none => exact h.elim
theorem pe_slcE {a : Expr} {ma : M D} {ml mh : M (List D)} {lo hi : Option Expr} {p2 : Pos} {na nl nh : Bool} (hK : X.K = T.K) (ha : PE X a (Tm T W true na ma)) (hl : PO X lo (TmO T W nl ml)) (hh : PO X hi (TmO T W nh mh)) (hn : n = true → na = true) (hnl : n = true → nl = true) (hnh : n = true → nh = true) :
    PE X (.Subscript a (.Slice lo hi none p2) pos) (Tm T W p n (fin p (M.bind ma fun x => M.bind ml fun l => M.bind (M.lift (partOf l)) fun l' => M.bind mh fun h => M.bind (M.lift (partOf h)) fun h' => M.chk (x.clean || (nl && nh)) (M.lift (slcD x l' h'))))) :=
  PE.fin (PE.imp (pe_slice (sl_ev hK) ha hl hh) fun σ H Q h => by
    obtain ⟨fz, F, ρ, c, h⟩ := h.start
    refine (Out.bind c hn h).mono ?_
    rintro v H1 ⟨fz1, F1, G1, x, ρ1, c1, v1, _, h1⟩
    have c01 := c.trans c1 hn
    refine (Out.bindL (pb := false) c01 hnl h1).mono ?_
    rintro ws H2 ⟨fz2, F2, G2, ys, ρ2, c2, v2, _, h2⟩
    have c02 := c01.trans c2 hnl
    obtain ⟨l, el, h2⟩ := h2.lift'
    have k : TmO T W nh mh σ H2 fun u H3 => rSlE T v l u H3 Q := by
      refine (Out.bindL (pb := false) c02 hnh h2).mono ?_
      rintro zs H3 ⟨fz3, F3, G3, us, ρ3, c3, v3, _, h3⟩
      have c03 := c02.trans c3 hnh
      obtain ⟨u, eu, h3⟩ := h3.lift'
      obtain ⟨kk, h4⟩ := h3.chk
      obtain ⟨d, e, h5⟩ := h4.lift
      have kk' := (Bool.or_eq_true _ _).mp kk
      have kl : (x.clean || nl) = true := (Bool.or_eq_true _ _).mpr (kk'.imp_right fun q => ((Bool.and_eq_true _ _).mp q).1)
      have kh : (x.clean || nh) = true := (Bool.or_eq_true _ _).mpr (kk'.imp_right fun q => ((Bool.and_eq_true _ _).mp q).2)
      have hx1 : Held T H1 fz1 F1 (G1 ++ []) x v := by
        obtain ⟨G0, r, s⟩ := v1.held
        exact ⟨G0, r, fun a ha => (s a ha).imp_right (List.mem_append_left _)⟩
      have hx2 := Held.step c01 hx1 c2 kl
      have hx3 := Held.step c02 hx2 c3 kh
      have fin : rSlE T v l u H3 Q := ⟨fz3, F3, _, x, d, hx3, e, h5.give c03⟩
      rcases part_of eu v3 with ⟨e1, e2⟩ | ⟨i, e1, e2⟩
      · exact .inl ⟨e1, by rw [← e2]; exact fin⟩
      · exact .inr ⟨i, e1, by rw [← e2]; exact fin⟩
    rcases part_of el v2 with ⟨e1, e2⟩ | ⟨i, e1, e2⟩
    · exact .inl ⟨e1, by rw [← e2]; exact k⟩
    · exact .inr ⟨i, e1, by rw [← e2]; exact k⟩)
theorem fmap_some {α β : Type} {f : α → Option β} {g : α → β} : ∀ {l : List α}, (∀ k ∈ l, f k = some (g k)) → l.filterMap f = l.map g
  | [], _ => rfl
  | a :: l, h => by
    rw [List.filterMap_cons, h a (by simp), List.map_cons, fmap_some fun k hk => h k (List.mem_cons_of_mem _ hk)]
theorem rev_pick (xs : Array Value) : ((List.range xs.size).filterMap fun (k : Nat) => xs[((xs.size : Int) - 1 + (k : Int) * (-1)).toNat]?).toArray = xs.toList.reverse.toArray := by
  congr 1
  apply List.ext_getElem?
  intro i
  have e : (fun (k : Nat) => xs[((xs.size : Int) - 1 + (k : Int) * (-1)).toNat]?) = fun (k : Nat) => xs.toList[((xs.size : Int) - 1 + (k : Int) * (-1)).toNat]? := by
    funext k; simp
  have h : (List.range xs.size).filterMap (fun (k : Nat) => xs[((xs.size : Int) - 1 + (k : Int) * (-1)).toNat]?) = (List.range xs.size).map fun k => xs.toList.reverse.getD k .none := by
    refine fmap_some fun k hk => ?_
    have hk := List.mem_range.mp hk
    have e1 : ((xs.size : Int) - 1 + (k : Int) * (-1)).toNat = xs.size - 1 - k := by omega
    have l1 : k < xs.toList.reverse.length := by simpa using hk
    rw [e1]
    have e2 : xs.toList.reverse[k]? = xs.toList[xs.toList.length - 1 - k]? := List.getElem?_reverse (by simpa using hk)
    have e3 : xs.toList.reverse[k]? = some xs.toList.reverse[k] := List.getElem?_eq_getElem l1
    show xs[xs.size - 1 - k]? = some (xs.toList.reverse.getD k .none)
    rw [List.getD_eq_getElem?_getD, e3]
    have e4 : xs[xs.size - 1 - k]? = xs.toList[xs.toList.length - 1 - k]? := by simp
    rw [e4, ← e2, e3]
    rfl
  rw [h]
  by_cases hi : i < xs.size
  · rw [List.getElem?_map, List.getElem?_range hi]
    have l1 : i < xs.toList.reverse.length := by simpa using hi
    rw [List.getElem?_eq_getElem l1]
    show some (xs.toList.reverse.getD i .none) = _
    rw [List.getD_eq_getElem?_getD, List.getElem?_eq_getElem l1]
    rfl
  · rw [List.getElem?_eq_none (by simpa using Nat.le_of_not_lt hi), List.getElem?_eq_none (by simpa using Nat.le_of_not_lt hi)]
section
open PyProof.Rows HT
variable {prog : Program} {w : World} {A : Around} {E : Value → Shared → Prop} {s : Shared}
theorem sliceApplied_rev {sl : Addr} {vl vu vs : Value} {n : Nat} {Q : Int × Int × Nat → Shared → Prop} (hs : s.heap.IsSliceOf sl vl vu vs) (pl : IsPart vl none) (pu : IsPart vu none) (ps : IsPart vs (some (-1)))
    (h : Q ((n : Int) - 1, -1, n) s) : wpAny (model prog w) A (Builtin.Slice.sliceApplied (.ref sl) (pure (n : Int))) Q E s := by
  obtain ⟨os, hos, hcs, hds⟩ := id hs
  unfold Builtin.Slice.sliceApplied Builtin.Slice.sliceFields
  refine wpAny_bind (wpAny_bind (wpAny_field hos hds (x := vl) rfl (wpAny_bind (wpAny_field hos hds (x := vu) rfl (wpAny_bind (wpAny_field hos hds (x := vs) rfl (wpAny_pure ?_)))))))
  refine wpAny_bind (slicePart_ ps ?_)
  show wpAny _ _ (if ((-1 : Int) == 0) = true then _ else _) _ _ s
  rw [if_neg (by decide)]
  refine wpAny_bind (slicePart_ pl (wpAny_bind (slicePart_ pu (wpAny_bind (wpAny_pure ?_)))))
  have e : Builtin.Slice.slicePlaces ((n : Int) - 1) (-1) (-1) = n := by
    unfold Builtin.Slice.slicePlaces
    rw [if_neg (by decide)]
    by_cases hn : (n : Int) - 1 > -1
    · rw [if_pos hn]
      have : -(-1 : Int) = 1 := by decide
      rw [this, Int.ediv_one]
      omega
    · rw [if_neg hn]
      omega
  show wpAny _ _ (pure ((n : Int) - 1, (-1 : Int), Builtin.Slice.slicePlaces ((n : Int) - 1) (-1) (-1))) _ _ s
  rw [e]
  exact wpAny_pure h
theorem getItem_tuple_rev {t sl : Addr} {items : Array Value} {vl vu vs : Value} {Q : Value → Shared → Prop} (ht : IsTup s.heap t items) (hs : s.heap.IsSliceOf sl vl vu vs) (pl : IsPart vl none) (pu : IsPart vu none) (ps : IsPart vs (some (-1)))
    (h : Q (.ref s.heap.objs.size) { s with heap := s.heap.push { cls := .type "tuple", data := .seq items.toList.reverse.toArray } })
    (hsz : items.size ≤ sizeLine) : wpAny (model prog w) A (getItem (.ref t) (.ref sl)) Q E s := by
  have htake : sizeOk (.seq items.toList.reverse.toArray) := by
    show items.toList.reverse.toArray.size ≤ sizeLine
    rw [List.size_toArray, List.length_reverse, Array.length_toList]
    exact hsz
  obtain ⟨os, hos, hcs, hds⟩ := id hs
  have hTs : s.TypeIs (.ref sl) "slice" := ⟨os, hos, hcs⟩
  unfold getItem
  try with_reducible refine wpAny_holding ?_
  first | refine wpAny_bind (wpAny_pure ?_) | skip
  refine wpAny_bind (wpAny_sequenceKey ht.typeIs (by decide) ?_)
  refine wpAny_bind (wpAny_callSpecial?_slot (name := Str.ofString "__getitem__") ht.typeIs PyProof.Rows.slot_tuple_getitem
    (wpAny_call_entry PyProof.Rows.slot_tuple_getitem ht.typeIs entry_tuple_getitem ?_ (args_tuple_getitem _ _)))
  show wpAny _ _ (Builtin.Tuple.tupleItemsOf (.ref t) >>= _) _ _ s
  refine wpAny_bind (tupleItemsOf_ ht ?_)
  refine wpAny_bind (wpAny_typeOf hTs ?_)
  rw [if_pos (by decide)]
  refine wpAny_bind (sliceApplied_rev hs pl pu ps ?_)
  have hno : ¬ ((((items.size : Int) - 1) == 0 && (-1 : Int) == 1 && items.size == items.size) = true) := by
    intro q
    rw [Bool.and_eq_true, Bool.and_eq_true] at q
    exact absurd q.1.2 (by decide)
  show wpAny _ _ (if ((((items.size : Int) - 1) == 0 && (-1 : Int) == 1 && items.size == items.size) = true) then _ else _) _ _ s
  rw [if_neg hno, rev_pick]
  first
    | exact wpAny_bind (m := Builtin.Tuple.tupleExact _) (wpAny_newObj_type (wpAny_pure ⟨_, rfl, wpAny_pure h⟩) htake)
    | exact wpAny_bind (m := Builtin.Tuple.tupleExact _) (wpAny_newObj_type (wpAny_bind (wpAny_pure (wpAny_pure ⟨_, rfl, wpAny_pure h⟩))) htake)
    | exact wpAny_bind (wpAny_bind (m := Builtin.Tuple.tupleExact _) (wpAny_newObj_type (wpAny_pure (wpAny_pure ⟨_, rfl, wpAny_pure h⟩)) htake))
    | exact wpAny_bind (wpAny_bind (m := Builtin.Tuple.tupleExact _) (wpAny_newObj_type (wpAny_pure ⟨_, rfl, wpAny_pure h⟩) htake))
end
/-- e[::-1], a list or a tuple -/
def tRevA (K : PySem.W.Frag) (te : TE) : TE := fun σ H Q => te σ H fun x H1 => ∃ a xs, x = .ref a ∧ ((SqL K H1 a xs ∧ ∀ p, H1 p = none → Q (.ref p) (upd H1 p (.lst xs.reverse))) ∨ (SqT K H1 a xs ∧ ∀ p, H1 p = none → Q (.ref p) (upd H1 p (.tup xs.reverse))))
section
open PyProof.Rows
theorem pe_revA {e : Expr} {te : TE} {k : Nat} {p1 p2 p3 pos : Pos} (he : PE X e te) : PE X (.Subscript e (.Slice none none (some (.UnaryOp .USub (.Constant (.int 1) k p1) p2)) p3) pos) (tRevA X.K te) := by
  refine ⟨fun pins s σ H Q I h => ?_⟩
  refine Subscript_ (thn (he.run pins s σ H _ I h) fun v s1 ⟨x, H1, I1, r1, q1⟩ => ?_)
  obtain ⟨a, xs, ex, hx⟩ := q1
  subst ex
  cases r1
  have hst : PO X (some (.UnaryOp .USub (.Constant (.int 1) k p1) p2)) (tPart (tUn (rU fun i => .int (-i)) (tC (.int 1)))) := po_some (pe_un un_neg pe_int)
  refine wpAny_Slice (thn (po_none.run pins s1 σ H1 (fun o H2 => o = none ∧ H2 = H1) I1 ⟨rfl, rfl⟩) fun vl s2 ⟨l, H2, I2, pl, el, e2⟩ => ?_)
  subst el e2
  refine thn (po_none.run pins s2 σ H2 (fun o H3 => o = none ∧ H3 = H2) I2 ⟨rfl, rfl⟩) fun vu s3 ⟨u, H3, I3, pu, eu, e3⟩ => ?_
  subst eu e3
  refine thn (hst.run pins s3 σ H3 (fun o H4 => o = some (-1) ∧ H4 = H3) I3 ⟨1, rfl, -1, rfl, rfl, rfl⟩) fun vs s4 ⟨o, H4, I4, ps, eo, e4⟩ => ?_
  subst eo e4
  have I5 : Inv X pins σ H4 { s4 with heap := s4.heap.push { cls := .type "slice", data := .fields #[vl, vu, vs] } } := I4.kept (t' := s4.toks) fun b ob q => Heap.get?_push_of_some _ q
  show wpAny (model X.prog X.w) X.A (subscriptTail e (.Slice none none (some (.UnaryOp .USub (.Constant (.int 1) k p1) p2)) p3) (.ref a) (.ref s4.heap.objs.size)) (EP X pins σ Q) X.xe { s4 with heap := s4.heap.push { cls := .type "slice", data := .fields #[vl, vu, vs] } }
  rcases hx with ⟨hx, q⟩ | ⟨hx, q⟩
  · obtain ⟨its, r, ht, hz⟩ := I5.list hx
    have hlen := r.length
    refine tail_any (ops := [.ref a, .ref s4.heap.objs.size]) ht.isList.typeIs (PySem.slot_list_getitem.lookup) ?_ (by with_unfolding_all rfl)
    refine wpAny_getItem_list_slice ht.isList (Heap.IsSliceOf.new _ vl vu vs) pl pu ps (by decide) ?_ (by rw [List.size_toArray]; omega)
    rw [PySem.W.krv_pick]
    refine ⟨.ref _, _, I5.laid (t' := s4.toks) (o := .lst xs.reverse) (fun b ob q => Heap.get?_push_of_some _ q) (Nat.le_refl _) ?_, rfl, q _ (I5.hok.fresh (Nat.le_refl _))⟩
    exact ⟨by rw [List.length_reverse]; exact hz, _, 0, r.reverse, Heap.get?_push_size _ rfl⟩
  · obtain ⟨its, r, ht, hz⟩ := I5.tuple hx
    have hlen := r.length
    refine tail_any (ops := [.ref a, .ref s4.heap.objs.size]) ht.typeIs (PyProof.Rows.slot_tuple_getitem.lookup) ?_ (by with_unfolding_all rfl)
    refine getItem_tuple_rev ht (Heap.IsSliceOf.new _ vl vu vs) pl pu ps ?_ (by rw [List.size_toArray]; omega)
    refine ⟨.ref _, _, I5.laid (t' := s4.toks) (o := .tup xs.reverse) (fun b ob q => Heap.get?_push_of_some _ q) (Nat.le_refl _) ?_, rfl, q _ (I5.hok.fresh (Nat.le_refl _))⟩
    exact ⟨by rw [List.length_reverse]; exact hz, _, r.reverse, IsTup.new _ _⟩
end
theorem pe_revE {a : Expr} {ma : M D} {na : Bool} {k : Nat} {p1 p2 p3 : Pos} (hK : X.K = T.K) (ha : PE X a (Tm T W true na ma)) (hn : n = true → na = true) :
    PE X (.Subscript a (.Slice none none (some (.UnaryOp .USub (.Constant (.int 1) k p1) p2)) p3) pos) (Tm T W p n (fin p (M.bind ma fun x => M.lift (revD x)))) :=
  PE.fin (PE.imp (pe_revA ha) fun σ H Q h => (one_core hn h).mono fun v H1 ⟨fz, F, G, x, d, hx, e, g⟩ => by
    unfold revD at e
    split at e
    · split at e
      · rename_i c
        cases e
        obtain ⟨a, vs, e1, s1, k1, r1⟩ := hx.tupC c
        exact ⟨a, vs, e1, .inr ⟨by rw [hK]; exact s1, g.tup r1.rev⟩⟩
      · cases e
    · split at e
      · rename_i c
        cases e
        obtain ⟨a, vs, e1, s1, r1⟩ := hx.lstC c
        exact ⟨a, vs, e1, .inl ⟨.inl (.inl s1), g.lst r1.rev⟩⟩
      · cases e
    · cases e)

/-! ## built-ins of one thing -/
theorem foldl_max : ∀ (is : List Int) (i : Int), (is.foldl max i ∈ i :: is) ∧ ∀ y ∈ i :: is, y ≤ is.foldl max i
  | [], i => ⟨by simp, by simp⟩
  | j :: is, i => by
    obtain ⟨h1, h2⟩ := foldl_max is (max i j)
    rw [List.foldl_cons]
    have h3 := h2 (max i j) (by simp)
    refine ⟨?_, fun y hy => ?_⟩
    · rcases List.mem_cons.mp h1 with e | e
      · rw [e]
        rcases Int.le_total i j with q | q
        · rw [Int.max_eq_right q]; simp
        · rw [Int.max_eq_left q]; simp
      · simp [e]
    · simp only [List.mem_cons] at hy
      rcases hy with rfl | rfl | hy
      · exact Int.le_trans (Int.le_max_left _ _) h3
      · exact Int.le_trans (Int.le_max_right _ _) h3
      · exact h2 y (by simp [hy])
theorem foldl_min : ∀ (is : List Int) (i : Int), (is.foldl min i ∈ i :: is) ∧ ∀ y ∈ i :: is, is.foldl min i ≤ y
  | [], i => ⟨by simp, by simp⟩
  | j :: is, i => by
    obtain ⟨h1, h2⟩ := foldl_min is (min i j)
    rw [List.foldl_cons]
    have h3 := h2 (min i j) (by simp)
    refine ⟨?_, fun y hy => ?_⟩
    · rcases List.mem_cons.mp h1 with e | e
      · rw [e]
        rcases Int.le_total i j with q | q
        · rw [Int.min_eq_left q]; simp
        · rw [Int.min_eq_right q]; simp
      · simp [e]
    · simp only [List.mem_cons] at hy
      rcases hy with rfl | rfl | hy
      · exact Int.le_trans h3 (Int.min_le_left _ _)
      · exact Int.le_trans h3 (Int.min_le_right _ _)
      · exact h2 y (by simp [hy])
theorem insSort_perm (x : Int) : ∀ xs : List Int, (insSort x xs).Perm (x :: xs)
  | [] => List.Perm.refl _
  | y :: ys => by
    unfold insSort
    split
    · exact List.Perm.refl _
    · exact ((insSort_perm x ys).cons y).trans (List.Perm.swap x y ys)
theorem isort_perm : ∀ xs : List Int, (isort xs).Perm xs
  | [] => List.Perm.refl _
  | x :: xs => (insSort_perm x (isort xs)).trans ((isort_perm xs).cons x)
theorem insSort_sorted (x : Int) : ∀ xs : List Int, xs.Pairwise (· ≤ ·) → (insSort x xs).Pairwise (· ≤ ·)
  | [], _ => by simp [insSort]
  | y :: ys, h => by
    unfold insSort
    obtain ⟨h1, h2⟩ := List.pairwise_cons.mp h
    split
    · rename_i hx
      refine List.pairwise_cons.mpr ⟨fun z hz => ?_, h⟩
      rcases List.mem_cons.mp hz with rfl | hz
      · exact hx
      · exact Int.le_trans hx (h1 z hz)
    · rename_i hx
      refine List.pairwise_cons.mpr ⟨fun z hz => ?_, insSort_sorted x ys h2⟩
      rcases List.mem_cons.mp ((insSort_perm x ys).mem_iff.mp hz) with rfl | hz
      · omega
      · exact h1 z hz
theorem isort_sorted : ∀ xs : List Int, (isort xs).Pairwise (· ≤ ·)
  | [] => List.Pairwise.nil
  | x :: xs => insSort_sorted x _ (isort_sorted xs)
theorem isort_eq {xs ys : List Int} (h : ys.Perm xs) (s : ys.Pairwise (· ≤ ·)) : ys = isort xs :=
  List.Perm.eq_of_pairwise (le := (· ≤ ·)) (fun a b _ _ h1 h2 => Int.le_antisymm h1 h2) s (isort_sorted xs) (h.trans (isort_perm xs).symm)
def b1V : B1 → Value
  | .len => .builtin "len" | .abs => .builtin "abs" | .int => .type "int" | .sum => .builtin "sum" | .max => .builtin "max" | .min => .builtin "min" | .sorted => .builtin "sorted" | .tuple => .type "tuple" | .list => .type "list" | .all => .builtin "all" | .any => .builtin "any" | .range => .type "range"
def rB1 (T : Tab) (o : B1) : List V → Hp → VK → Prop := fun vs H Q => ∃ v fz F G x d, vs = [v] ∧ Held T H fz F G x v ∧ b1D o x = some d ∧ Give T H fz d Q
theorem Held.lst {H : Hp} {fz : Fz} {F G : List Addr} {m : Bool} {xs : List D} {v : V} (h : Held T H fz F G (.nd .lst m xs) v) : ∃ a vs G1, v = .ref a ∧ H a = some (.lst vs) ∧ RepL T H fz xs vs G1 := by
  obtain ⟨G0, r, _⟩ := h
  obtain ⟨a, vs, G1, e, ha, hl, _⟩ := r.lst
  exact ⟨a, vs, G1, e, ha, hl⟩
theorem Held.tupS {H : Hp} {fz : Fz} {F G : List Addr} {m : Bool} {xs : List D} {v : V} (h : Held T H fz F G (.nd .tup m xs) v) : ∃ a vs G1, v = .ref a ∧ SqT T.K H a vs ∧ RepL T H fz xs vs G1 := by
  obtain ⟨G0, ⟨a, vs, G1, e, hk, hl, ho⟩, _⟩ := h
  cases m with
  | true => exact absurd rfl hk.1
  | false => exact ⟨a, vs, G1, e, sqT_of hk, hl⟩
theorem cr_b1 (o : B1) (hK : X.K = T.K) (hc : X.calm = true) : CallR X (b1V o) (rB1 T o) := by
  intro pins s σ H vs us Q I r h
  obtain ⟨v, fz, F, G, x, d, rfl, hx, e, g⟩ := h
  unfold b1D at e
  split at e
  · cases e
    obtain ⟨a, vs, G1, e1, hk, hl⟩ := hx.tupS
    exact call_len_seq pins s σ H _ us Q I r ⟨a, vs, by rw [e1], .inr (by rw [hK]; exact hk), by rw [← hl.len]; exact g.at⟩
  · cases e
    obtain ⟨a, vs, G1, e1, ha, hl⟩ := hx.lst
    exact call_len_seq pins s σ H _ us Q I r ⟨a, vs, by rw [e1], .inl (.inl (.inl ha)), by rw [← hl.len]; exact g.at⟩
  · cases e
    obtain ⟨G0, ⟨a, vs, G1, e1, hk, hl, ho⟩, _⟩ := hx
    exact call_len_seq pins s σ H _ us Q I r ⟨a, vs, by rw [e1], .inl (by rw [hK]; exact scr_of hk), by rw [← hl.len]; exact g.at⟩
  · cases e
    obtain ⟨a, vs, G1, e1, l1, ha, _⟩ := hx.dk
    exact call_lenD pins s σ H _ us Q I r ⟨a, _, by rw [e1], ha, by rw [List.length_zip, ← l1, Nat.min_self]; exact g.at⟩
  · cases e
    obtain ⟨a, vs, G1, e1, l1, ha, _⟩ := hx.dt
    exact call_len_dT pins s σ H _ us Q I r ⟨a, _, by rw [e1], ha, by rw [List.length_zip, ← l1, Nat.min_self]; exact g.at⟩
  · split at e
    · rename_i hz
      cases e
      exact call_len_str pins s σ H _ us Q I r ⟨_, by rw [hx.at]; rfl, lineB_ok hz, g.at⟩
    · cases e
  · cases e
    exact call_abs pins s σ H _ us Q I r ⟨_, by rw [hx.at]; rfl, g.at⟩
  · cases e
    exact call_int1 pins s σ H _ us Q I r (.inl ⟨_, by rw [hx.at]; rfl, g.at⟩)
  · cases e
    exact call_int1 pins s σ H _ us Q I r (.inr ⟨_, by rw [hx.at]; rfl, g.at⟩)
  · obtain ⟨is, e1, e2⟩ := Option.map_eq_some_iff.mp e
    subst e2
    obtain ⟨a, vs, G1, e3, ha, hl⟩ := hx.lst
    rw [hl.ints e1] at ha
    exact cr_sum hc pins s σ H _ us Q I r ⟨a, is, by rw [e3], .inl (.inl ha), g.at⟩
  · split at e
    · rename_i i is e1
      cases e
      obtain ⟨a, vs, G1, e3, ha, hl⟩ := hx.lst
      rw [hl.ints e1] at ha
      refine cr_max hc pins s σ H _ us Q I r ⟨a, i :: is, by rw [e3], .inl (.inl ha), by simp, fun m h1 h2 => ?_⟩
      obtain ⟨q1, q2⟩ := foldl_max is i
      have : m = is.foldl max i := Int.le_antisymm (q2 m h1) (h2 _ q1)
      subst this
      exact g.at
    · cases e
  · split at e
    · rename_i i is e1
      cases e
      obtain ⟨a, vs, G1, e3, ha, hl⟩ := hx.lst
      rw [hl.ints e1] at ha
      refine cr_min hc pins s σ H _ us Q I r ⟨a, i :: is, by rw [e3], .inl (.inl ha), by simp, fun m h1 h2 => ?_⟩
      obtain ⟨q1, q2⟩ := foldl_min is i
      have : m = is.foldl min i := Int.le_antisymm (h2 _ q1) (q2 m h1)
      subst this
      exact g.at
    · cases e
  · obtain ⟨is, e1, e2⟩ := Option.map_eq_some_iff.mp e
    subst e2
    obtain ⟨a, vs, G1, e3, ha, hl⟩ := hx.lst
    rw [hl.ints e1] at ha
    refine cr_sortedI pins s σ H _ us Q I r ⟨a, is, by rw [e3], .inl (.inl ha), fun ns q p1 p2 hq => ?_⟩
    rw [isort_eq p1 p2]
    exact g.lst (repL_ints _) q hq
  · split at e
    · rename_i c
      cases e
      obtain ⟨a, vs, e1, s1, k1, r1⟩ := hx.tupC c
      exact call_tuple_of pins s σ H _ us Q I r ⟨a, vs, by rw [e1], .inr ⟨by rw [hK]; exact s1, g.tup0 k1 r1⟩⟩
    · cases e
  · split at e
    · rename_i c
      cases e
      obtain ⟨a, vs, e1, s1, r1⟩ := hx.lstC c
      exact call_tuple_of pins s σ H _ us Q I r ⟨a, vs, by rw [e1], .inl ⟨.inl (.inl s1), g.tup r1⟩⟩
    · cases e
  · split at e
    · rename_i c
      cases e
      obtain ⟨a, vs, e1, s1, k1, r1⟩ := hx.tupC c
      exact call_list_of pins s σ H _ us Q I r ⟨a, vs, by rw [e1], .inr (by rw [hK]; exact s1), g.lst r1⟩
    · cases e
  · split at e
    · rename_i c
      cases e
      obtain ⟨a, vs, e1, s1, r1⟩ := hx.lstC c
      exact call_list_of pins s σ H _ us Q I r ⟨a, vs, by rw [e1], .inl (.inl (.inl s1)), g.lst r1⟩
    · cases e
  · cases e
    obtain ⟨a, vs, G1, e1, l1, ha, _⟩ := hx.dk
    have ek : ∀ (ks : List Key) (vs : List V), ks.length = vs.length → ((ks.zip vs).map fun kv => kV kv.1) = ks.map kV := by
      intro ks
      induction ks with
      | nil => intro vs _; simp
      | cons k ks ih =>
        intro vs h
        cases vs with
        | nil => cases h
        | cons v vs => rw [List.zip_cons_cons, List.map_cons, List.map_cons, ih vs (by simpa using h)]
    have er : ∀ (ks : List Key) (H' : Hp), RepL T H' fz (ks.map keyD) (ks.map kV) [] := by
      intro ks H'
      induction ks with
      | nil => exact ⟨rfl, rfl⟩
      | cons k ks ih => exact ⟨kV k, _, [], [], rfl, rfl, (by cases k <;> exact ⟨rfl, rfl⟩), ih⟩
    refine call_listD hc pins s σ H _ us Q I r ⟨a, _, by rw [e1], .inl ha, fun q hq => ?_⟩
    rw [ek _ _ l1]
    exact g.lst (er _ _) q hq
  · obtain ⟨is, e1, e2⟩ := Option.map_eq_some_iff.mp e
    subst e2
    obtain ⟨a, vs, G1, e3, ha, hl⟩ := hx.lst
    rw [hl.bls e1] at ha
    exact cr_all hc pins s σ H _ us Q I r ⟨a, is, by rw [e3], .inl (.inl ha), g.at⟩
  · obtain ⟨is, e1, e2⟩ := Option.map_eq_some_iff.mp e
    subst e2
    obtain ⟨a, vs, G1, e3, ha, hl⟩ := hx.lst
    rw [hl.bls e1] at ha
    exact cr_any hc pins s σ H _ us Q I r ⟨a, is, by rw [e3], .inl (.inl ha), g.at⟩
  · cases e
    exact cr_rng1 pins s σ H _ us Q I r ⟨_, by rw [hx.at]; rfl, g.rng⟩
  · split at e
    · rename_i c
      cases e
      obtain ⟨a, e1, ha⟩ := hx.rng
      exact cr_listRg hc pins s σ H _ us Q I r ⟨a, _, _, by rw [e1], ha, rgB_ok c, g.lst (repL_rg _ _)⟩
    · cases e
  · split at e
    · rename_i c
      cases e
      obtain ⟨a, e1, ha⟩ := hx.rng
      exact cr_tupRg hc pins s σ H _ us Q I r ⟨a, _, _, by rw [e1], ha, rgB_ok c, g.tup (repL_rg _ _)⟩
    · cases e
  · cases e
def b1N : B1 → Str
  | .len => "len" | .abs => "abs" | .int => "int" | .sum => "sum" | .max => "max" | .min => "min" | .sorted => "sorted" | .tuple => "tuple" | .list => "list" | .all => "all" | .any => "any" | .range => "range"
theorem pe_b1E {a : Expr} {ma : M D} {na : Bool} {q : Pos} (o : B1) (hK : X.K = T.K) (hc : X.calm = true) (hg : Gl X (b1N o)) (hm : X.mg (b1N o) = none) (ha : PE X a (Tm T W true na ma)) (hn : n = true → na = true)
    (hs : starEach [a] X.env = (false, eval a X.env) :: starEach [] X.env) : PE X (.Call (.Name (b1N o) q) [a] [] pos) (Tm T W p n (fin p (M.bind ma fun x => M.lift (b1D o x)))) := by
  have hr := cr_b1 (T := T) o hK hc
  have fin' : ∀ {t}, PE X (.Call (.Name (b1N o) q) [a] [] pos) (tCB (rB1 T o) (tCons (Tm T W true na ma) tNil)) → PE X (.Call (.Name (b1N o) q) [a] [] pos) (Tm T W p n (Ev.fin p (M.bind ma fun x => M.lift (b1D o x)))) := fun {t : Unit} h =>
    PE.fin (PE.imp h fun σ H Q w => (one_core hn w).mono fun v H1 ⟨fz, F, G, x, d, hx, e, g⟩ => ⟨v, fz, F, G, x, d, rfl, hx, e, g⟩)
  refine fin' (t := ()) ?_
  cases o with
  | len => exact pe_callB hr hg hm (by decide +kernel) (pa_cons ha pa_nil hs) (by decide) (by decide) hs
  | abs => exact pe_callB hr hg hm (by decide +kernel) (pa_cons ha pa_nil hs) (by decide) (by decide) hs
  | sum => exact pe_callB hr hg hm (by decide +kernel) (pa_cons ha pa_nil hs) (by decide) (by decide) hs
  | max => exact pe_callB hr hg hm (by decide +kernel) (pa_cons ha pa_nil hs) (by decide) (by decide) hs
  | min => exact pe_callB hr hg hm (by decide +kernel) (pa_cons ha pa_nil hs) (by decide) (by decide) hs
  | sorted => exact pe_callB hr hg hm (by decide +kernel) (pa_cons ha pa_nil hs) (by decide) (by decide) hs
  | all => exact pe_callB hr hg hm (by decide +kernel) (pa_cons ha pa_nil hs) (by decide) (by decide) hs
  | any => exact pe_callB hr hg hm (by decide +kernel) (pa_cons ha pa_nil hs) (by decide) (by decide) hs
  | range => exact pe_callTy hr hg hm (by decide +kernel) (pa_cons ha pa_nil hs) (by decide) (by decide) hs
  | int => exact pe_callTy hr hg hm (by decide +kernel) (pa_cons ha pa_nil hs) (by decide) (by decide) hs
  | tuple => exact pe_callTy hr hg hm (by decide +kernel) (pa_cons ha pa_nil hs) (by decide) (by decide) hs
  | list => exact pe_callTy hr hg hm (by decide +kernel) (pa_cons ha pa_nil hs) (by decide) (by decide) hs

/-! ## max(a, b), min(a, b) -/
def b2N : B2 → Str
  | .max => "max" | .min => "min" | .range => "range"
theorem pe_b2E {a b : Expr} {ma mb : M D} {na nb : Bool} {q : Pos} (o : B2) (hc : X.calm = true) (hg : Gl X (b2N o)) (hm : X.mg (b2N o) = none) (ha : PE X a (Tm T W true na ma)) (hb : PE X b (Tm T W true nb mb)) (hn : n = true → na = true) (hn2 : n = true → nb = true)
    (hs : starEach [a, b] X.env = (false, eval a X.env) :: starEach [b] X.env) (hs2 : starEach [b] X.env = (false, eval b X.env) :: starEach [] X.env) (hpl : (backTo pos (starEach [b] X.env)).any (·.1) = false) :
    PE X (.Call (.Name (b2N o) q) [a, b] [] pos) (Tm T W p n (fin p (M.bind ma fun x => M.bind mb fun y => M.chk (x.clean || nb) (M.lift (b2D o x y))))) := by
  cases o with
  | max =>
    refine PE.fin (PE.imp (pe_callB (call_max2 hc) hg hm (by decide +kernel) (pa_cons ha (pa_cons hb pa_nil hs2) hs) (by decide) (by decide) hs hpl) fun σ H Q h => ?_)
    refine (two_core hn hn2 h).mono fun v H1 h1 => h1.mono fun w H2 ⟨fz, F, G, x, y, d, hx, hy, e, g⟩ => ?_
    unfold b2D at e
    split at e
    · cases e; exact ⟨_, _, by rw [hx.at, hy.at]; rfl, g.at⟩
    · rename_i h0; cases h0
    · rename_i h0; cases h0
    · cases e
  | min =>
    refine PE.fin (PE.imp (pe_callB (call_min2 hc) hg hm (by decide +kernel) (pa_cons ha (pa_cons hb pa_nil hs2) hs) (by decide) (by decide) hs hpl) fun σ H Q h => ?_)
    refine (two_core hn hn2 h).mono fun v H1 h1 => h1.mono fun w H2 ⟨fz, F, G, x, y, d, hx, hy, e, g⟩ => ?_
    unfold b2D at e
    split at e
    · rename_i h0; cases h0
    · cases e; exact ⟨_, _, by rw [hx.at, hy.at]; rfl, g.at⟩
    · rename_i h0; cases h0
    · cases e
  | range =>
    refine PE.fin (PE.imp (pe_callTy cr_rng2 hg hm (by decide +kernel) (pa_cons ha (pa_cons hb pa_nil hs2) hs) (by decide) (by decide) hs hpl) fun σ H Q h => ?_)
    refine (two_core hn hn2 h).mono fun v H1 h1 => h1.mono fun w H2 ⟨fz, F, G, x, y, d, hx, hy, e, g⟩ => ?_
    unfold b2D at e
    split at e
    · rename_i h0; cases h0
    · rename_i h0; cases h0
    · cases e; exact ⟨_, _, by rw [hx.at, hy.at]; rfl, g.rng⟩
    · cases e
end
end Ev

set_option Elab.async false
set_option linter.all false
set_option maxRecDepth 100000
set_option maxHeartbeats 4000000
namespace Ev
open PySem PySem.Spec L2

/-! ## isinstance -/
def tyN : Ty → String
  | .int => "int" | .bool => "bool" | .str => "str" | .tuple => "tuple" | .list => "list" | .dict => "dict" | .cls _ => ""
def isC : Ty → Bool
  | .cls _ => true
  | _ => false
def tyU (T : Tab) : Ty → Value
  | .cls c => .ref (T.C c)
  | t => .type (tyN t)
def tyW (T : Tab) : Ty → V
  | .cls c => .ref (T.C c)
  | t => .ty (tyN t)
theorem tyW_cls (T : Tab) (t : Ty) : ClsV (tyW T t) (tyU T t) := by
  cases t <;> first | exact .ty _ | exact .own _
theorem tyW_rel (T : Tab) (t : Ty) : RelV (tyW T t) (tyU T t) := by
  cases t <;> rfl
/-- what isinstance asks of the text's own classes -/
structure IsiOk (T : Tab) (sub : Nat → Nat → Bool) : Prop where
  ins : ∀ c, C8.InsC T.K (T.C c)
  tb : ∀ c t, isC t = false → PySem.W.kitOne T.K (.ref (T.C c)) (tyU T t) = some false
  tc : ∀ c c', PySem.W.kitOne T.K (.ref (T.C c)) (.ref (T.C c')) = some (sub c c')
  bc : ∀ t, t ∈ ["NoneType", "bool", "int", "str", "tuple", "list", "dict"] → ∀ c', PySem.W.kitOne T.K (.type t) (.ref (T.C c')) = some false
section
variable {X : Cx} {T : Tab} {W : WX} {n p : Bool} {pos : Pos} {sub : Nat → Nat → Bool}
def notR : D → Bool
  | .nd (.rng _ _) _ _ => false
  | _ => true
theorem isiO_inv {ts : List Ty} {x d : D} (h : isiO sub ts x = some d) : notR x = true ∧ d = D.bl (ts.any (tyD sub x)) := by
  cases x with
  | «at» a => cases h; exact ⟨rfl, rfl⟩
  | nd k m xs => cases k <;> first | (cases h; exact ⟨rfl, rfl⟩) | cases h
theorem isi_one (ok : IsiOk T sub) {H : Hp} {fz : Fz} {F G : List Addr} {x : D} {v : V} (h : Held T H fz F G x v) (hr : notR x = true) : ∃ t, TyX T.K H v t ∧ ∀ ty, PySem.W.kitOne T.K t (tyU T ty) = some (tyD sub x ty) := by
  obtain ⟨G0, r, _⟩ := h
  cases x with
  | «at» a =>
    have e := r.1
    subst e
    cases a with
    | non => exact ⟨_, .base .non, fun ty => by cases ty <;> first | exact ok.bc _ (by decide) _ | rfl⟩
    | bl b => exact ⟨_, .base (.bl b), fun ty => by cases ty <;> first | exact ok.bc _ (by decide) _ | rfl⟩
    | int i => exact ⟨_, .base (.int i), fun ty => by cases ty <;> first | exact ok.bc _ (by decide) _ | rfl⟩
    | str z => exact ⟨_, .base (.str z), fun ty => by cases ty <;> first | exact ok.bc _ (by decide) _ | rfl⟩
  | nd k m xs =>
    obtain ⟨a, vs, G1, e, hk, hl, ho⟩ := r
    subst e
    cases k with
    | tup =>
      cases m with
      | true => exact absurd rfl hk.1
      | false => exact ⟨_, .base (.tup (tup_of hk)), fun ty => by cases ty <;> first | exact ok.bc _ (by decide) _ | rfl⟩
    | lst => exact ⟨_, .base (.lst (lst_of hk)), fun ty => by cases ty <;> first | exact ok.bc _ (by decide) _ | rfl⟩
    | scr =>
      rcases scr_of hk with (q | ⟨o, q⟩) | ⟨o, its, n, q1, q2, _⟩
      · exact ⟨_, .base (.lst q), fun ty => by cases ty <;> first | exact ok.bc _ (by decide) _ | rfl⟩
      · exact ⟨_, .base (.frz q), fun ty => by cases ty <;> first | exact ok.bc _ (by decide) _ | rfl⟩
      · exact ⟨_, .kList q1 q2, fun ty => by cases ty <;> first | exact ok.bc _ (by decide) _ | rfl⟩
    | dk ks => exact ⟨_, .base (.dK (dk_of hk).2), fun ty => by cases ty <;> first | exact ok.bc _ (by decide) _ | rfl⟩
    | dt ks => exact ⟨_, .base (.dT (dt_of hk).2), fun ty => by cases ty <;> first | exact ok.bc _ (by decide) _ | rfl⟩
    | rng lo hi => cases hr
    | obj c fs =>
      obtain ⟨_, _, dx, q⟩ := obj_of hk
      have i := ok.ins c
      exact ⟨_, .base (.ins q i.cl i.ha i.hn i.htk i.hm), fun ty => by cases ty <;> first | exact ok.tc _ _ | exact ok.tb _ _ rfl⟩
theorem isi_any {K : PySem.W.Frag} {t : Value} {f : Ty → Bool} {T : Tab} (h : ∀ ty, PySem.W.kitOne K t (tyU T ty) = some (f ty)) : ∀ ts : List Ty, PySem.W.kitAny K t (ts.map (tyU T)) = some (ts.any f)
  | [] => rfl
  | ty :: ts => by
    show (match PySem.W.kitOne K t (tyU T ty) with
      | some true => some true
      | some false => PySem.W.kitAny K t (ts.map (tyU T))
      | none => none) = _
    rw [h ty, isi_any h ts]
    cases e : f ty <;> simp [e]
/-- the names of types -/
def TyE (X : Cx) (T : Tab) (e : Expr) (t : Ty) : Prop := PE X e (tC (tyW T t)) ∧ ∃ x q, e = .Name x q
theorem pa_tys {es : List Expr} {ts : List Ty} (h : Paired (TyE X T) es ts) : PA X es (fun _ H Q => Q (ts.map (tyW T)) H) := by
  induction h with
  | nil => exact pa_nil
  | @cons e t es ts h1 h2 ih =>
    obtain ⟨h, x, q, rfl⟩ := h1
    exact PA.imp (pa_cons h ih rfl) fun σ H Q w => w
theorem tys_cls (T : Tab) : ∀ ts : List Ty, Paired ClsV (ts.map (tyW T)) (ts.map (tyU T))
  | [] => .nil
  | t :: ts => .cons (tyW_cls T t) (tys_cls T ts)
theorem Alloc.held {H H' : Hp} {fz : Fz} {F G G' : List Addr} {x : D} {v : V} (al : Alloc H H' G') (h : Held T H fz F G x v) : Held T H' fz F G x v := by
  obtain ⟨G0, r, s⟩ := h
  exact ⟨G0, r.fr al.fr, s⟩
theorem pe_isi1 {a e : Expr} {ma : M D} {na : Bool} {q : Pos} {t : Ty} (hK : X.K = T.K) (ok : IsiOk T sub) (hg : Gl X "isinstance") (hm : X.mg "isinstance" = none) (ha : PE X a (Tm T W true na ma)) (he : TyE X T e t) (hn : n = true → na = true)
    (hs : starEach [a, e] X.env = (false, eval a X.env) :: starEach [e] X.env) : PE X (.Call (.Name "isinstance" q) [a, e] [] pos) (Tm T W p n (fin p (M.bind ma fun x => M.lift (isiO sub [t] x)))) := by
  obtain ⟨h, y, q2, rfl⟩ := he
  refine PE.fin (PE.imp (pe_callB call_isi hg hm (by decide +kernel) (pa_cons ha (pa_cons h pa_nil rfl) hs) (by decide) (by decide) hs rfl) fun σ H Q w => ?_)
  refine (one_core hn w).mono fun v H1 ⟨fz, F, G, x, d, hx, e, g⟩ => ?_
  obtain ⟨e0, rfl⟩ := isiO_inv e
  obtain ⟨tt, q3, q4⟩ := isi_one ok hx e0
  refine ⟨v, tyW T t, tt, tyU T t, tyD sub x t, rfl, tyW_cls T t, by rw [hK]; exact q3, by rw [hK]; exact q4 t, ?_⟩
  have e2 : [t].any (tyD sub x) = tyD sub x t := by simp
  rw [← e2]
  exact g.at
theorem pe_isiN {a : Expr} {es : List Expr} {ma : M D} {na : Bool} {q tp : Pos} {k : Nat} {ts : List Ty} (hK : X.K = T.K) (ok : IsiOk T sub) (hg : Gl X "isinstance") (hm : X.mg "isinstance" = none) (ha : PE X a (Tm T W true na ma)) (he : Paired (TyE X T) es ts) (hn : n = true → na = true) (hl : ts.length ≤ sizeLine)
    (hs : starEach [a, .Tuple es k tp] X.env = (false, eval a X.env) :: starEach [.Tuple es k tp] X.env) : PE X (.Call (.Name "isinstance" q) [a, .Tuple es k tp] [] pos) (Tm T W p n (fin p (M.bind ma fun x => M.lift (isiO sub ts x)))) := by
  refine PE.fin (PE.imp (pe_callB call_isiT hg hm (by decide +kernel) (pa_cons ha (pa_cons (pe_tup (pa_tys he)) pa_nil rfl) hs) (by decide) (by decide) hs rfl) fun σ H Q w => ?_)
  refine (one_core hn w).mono fun v H1 ⟨fz, F, G, x, d, hx, e, g⟩ => ?_
  obtain ⟨e0, rfl⟩ := isiO_inv e
  refine ⟨by simpa using hl, fun r hr => ?_⟩
  have al : Alloc H1 (upd H1 r (.tup (ts.map (tyW T)))) [] := .new0 hr
  obtain ⟨tt, q3, q4⟩ := isi_one ok (al.held hx) e0
  refine ⟨v, r, ts.map (tyW T), tt, ts.map (tyU T), ts.any (tyD sub x), rfl, upd_same, tys_cls T ts, by rw [hK]; exact q3, by rw [hK]; exact isi_any q4 ts, ?_⟩
  exact g _ _ _ al ⟨rfl, rfl⟩

/-! ## list.index, list.count -/
def rCountD (K : PySem.W.Frag) : V → List V → Hp → VK → Prop := fun x xs H Q => ∃ (a : Addr) (y : V) (d : PyData) (ds : List PyData), x = V.ref a ∧ xs = [y] ∧ Dp K H (V.ref a) (.list ds) ∧ Dp K H y d ∧
  SeqAt.shaped (.list ds) = true ∧ SeqAt.shaped d = true ∧ Q (.int ((ds.filter fun z => PyData.eqv z d).length : Nat)) H
open PyProof.Rows in
theorem mt_countD (hu : X.A.units + 65 < cLine) : MtR X "list.count" (rCountD X.K) := by
  intro pins s σ H x xs v us Q I rx rxs h
  obtain ⟨a, y, d, ds, rfl, rfl, hl, hy, sl, sd, q⟩ := h
  cases rx
  cases rxs with
  | cons ry rt =>
    rename_i uy ut
    cases rt
    obtain ⟨bs, r1⟩ := Dp.reads I d y uy hy ry
    have hxs : PyData.canLayAll0 ds = true := SeqAt.canLay_of_shaped sl
    have hroom : X.A.units + 1 + min (PyData.depthAll ds) d.depth < cLine := room_in_shaped sd hu
    cases hl with
    | lst hs ha =>
      obtain ⟨its, rv, ⟨⟨cls, dd, data, sls⟩, n, ho, hc, hdn, hdt⟩, hlen⟩ := I.list hs
      simp only at hc hdt
      subst hc hdt
      obtain ⟨as, h4⟩ := Dp.readsAll I ds _ its ha rv
      have hmap : its.map (SeqAt.readOf s.heap) = ds := SeqAt.readsAll_map ds its as hxs h4
      refine call_meets PySem.F.slot_list_count ⟨_, ho, rfl⟩ PySem.F.entry_list_count (PySem.F.args_list_count_2 _ _)
        (SeqAt.list_countAt a its.toArray n dd sls uy (fun u => PyData.eqv (SeqAt.readOf s.heap u) d)) ⟨ho, SeqAt.items_eqAt (vs := its.toArray) (show ReadsAll s.heap its.toArray.toList ds as from h4) r1 hxs (SeqAt.canLay_of_shaped sd) hroom, ?_⟩
      refine ⟨.int ((ds.filter fun z => PyData.eqv z d).length : Nat), H, I.tok _, ⟨s.toks, ?_⟩, q⟩
      have e : its.toArray.toList.countP (fun u => PyData.eqv (SeqAt.readOf s.heap u) d) = (ds.filter fun z => PyData.eqv z d).length := by
        rw [← hmap, ← List.countP_eq_length_filter, List.countP_map]
        rfl
      show Value.int ((its.toArray.toList.countP (fun u => PyData.eqv (SeqAt.readOf s.heap u) d) : Nat) : Int) s.toks = _
      rw [e]
theorem shpL_list {n : Nat} {xs : List D} (h : D.shpL 63 xs = true) (m : Bool) : D.shp 64 (.nd .lst m xs) = true := h
mutual
theorem shp_upN : ∀ (n : Nat) (x : D), D.shp n x = true → D.shp (n + 1) x = true
  | n, .at a, h => by cases a <;> exact h
  | 0, .nd k m xs, h => by cases k <;> cases h
  | n + 1, .nd k m xs, h => by
    cases k with
    | tup => exact shpL_up n xs h
    | lst => exact shpL_up n xs h
    | _ => cases h
theorem shpL_up : ∀ (n : Nat) (xs : List D), D.shpL n xs = true → D.shpL (n + 1) xs = true
  | n, [], _ => rfl
  | n, x :: xs, h => by
    have h : (D.shp n x && D.shpL n xs) = true := h
    rw [Bool.and_eq_true] at h
    show (D.shp (n + 1) x && D.shpL (n + 1) xs) = true
    rw [shp_upN n x h.1, shpL_up n xs h.2]; rfl
end
theorem shp_up {d : D} (h : D.shp 63 d = true) : D.shp 64 d = true := shp_upN 63 d h
theorem Held.list {H : Hp} {fz : Fz} {F G : List Addr} {m : Bool} {xs : List D} {v : V} (h : Held T H fz F G (.nd .lst m xs) v) (s : D.shpL 63 xs = true) : ∃ a, v = .ref a ∧ Dp T.K H (.ref a) (.list (D.pyL xs)) := by
  obtain ⟨G0, r, _⟩ := h
  obtain ⟨a, vs, G1, e, _⟩ := id r
  subst e
  exact ⟨a, rfl, Rep.dp 64 r (show D.shp 64 (.nd .lst m xs) = true from s)⟩
theorem Held.dpy {H : Hp} {fz : Fz} {F G : List Addr} {x : D} {v : V} {n : Nat} (h : Held T H fz F G x v) (s : D.shp n x = true) : Dp T.K H v x.py := by
  obtain ⟨G0, r, _⟩ := h
  exact Rep.dp n r s
theorem pyL_map : ∀ xs : List D, D.pyL xs = xs.map D.py
  | [] => rfl
  | x :: xs => by show D.py x :: D.pyL xs = _; rw [pyL_map xs]; rfl
theorem shpL_mem {n : Nat} : ∀ {xs : List D} {x : D}, D.shpL n xs = true → x ∈ xs → D.shp n x = true
  | [], _, _, h => by cases h
  | y :: ys, x, s, h => by
    have s : (D.shp n y && D.shpL n ys) = true := s
    rw [Bool.and_eq_true] at s
    rcases List.mem_cons.mp h with rfl | h
    · exact s.1
    · exact shpL_mem s.2 h
theorem filter_py {y : D} {n k : Nat} (sy : D.shp n y = true) {xs : List D} (sx : D.shpL k xs = true) : ((D.pyL xs).filter fun z => PyData.eqv z y.py).length = (xs.filter fun x => D.eqv x y).length := by
  rw [pyL_map, List.filter_map, List.length_map]
  congr 1
  apply List.filter_congr
  intro x hx
  exact eqv_py k n x y (shpL_mem sx hx) sy
def rPm (T : Tab) (o : PM) : V → List V → Hp → VK → Prop := fun v vs H Q => ∃ fz F G x ys d, Held T H fz F G x v ∧ (∃ G', RepL T H fz ys vs G') ∧ isLst x = true ∧ pmD o x ys = some d ∧ Give T H fz d Q
theorem mt_pm (o : PM) (hK : X.K = T.K) (hu : X.A.units + 200 < cLine) : MtR X (match o with | .count => "list.count" | _ => "list.index") (rPm T o) := by
  intro pins s σ H v vs u us Q I rx rxs h
  obtain ⟨fz, F, G, x, ys, d, hx, ⟨G', hy⟩, -, e, g⟩ := h
  unfold pmD at e
  split at e
  · rename_i m xs y
    obtain ⟨w, r, F1, F2, e1, e2, h1, h2⟩ := hy
    have e3 := h2.1
    subst e3; subst e1
    split at e
    · rename_i c
      cases e
      rw [Bool.and_eq_true] at c
      obtain ⟨a, e4, hd⟩ := hx.list c.2
      subst e4
      refine mt_countD (by omega) pins s σ H _ _ u us Q I rx rxs ⟨a, w, y.py, D.pyL xs, rfl, rfl, by rw [hK]; exact hd, by rw [hK]; exact Rep.dp 63 h1 c.1, shp_shaped (d := .nd .lst m xs) c.2, shp_shaped (shp_up c.1), ?_⟩
      rw [filter_py c.1 c.2]
      exact g.at
    · cases e
  · rename_i m xs y
    obtain ⟨w, r, F1, F2, e1, e2, h1, h2⟩ := hy
    have e3 := h2.1
    subst e3; subst e1
    split at e
    · rename_i c
      obtain ⟨j, e5, e6⟩ := Option.map_eq_some_iff.mp e
      subst e6
      rw [Bool.and_eq_true] at c
      obtain ⟨a, e4, hd⟩ := hx.list c.2
      subst e4
      obtain ⟨hj, p1, p2⟩ := List.findIdx?_eq_some_iff_getElem.mp e5
      refine mt_indexD (by omega) pins s σ H _ _ u us Q I rx rxs ⟨a, w, y.py, D.pyL xs, j, (xs[j]).py, rfl, rfl, by rw [hK]; exact hd, by rw [hK]; exact Rep.dp 63 h1 c.1, shp_shaped (d := .nd .lst m xs) c.2, shp_shaped (shp_up c.1), ?_, ?_, fun k z hk hz => ?_, g.at⟩
      · rw [pyL_map, List.getElem?_map, List.getElem?_eq_getElem hj]; rfl
      · rw [eqv_py 63 63 _ y (shpL_mem c.2 (List.getElem_mem hj)) c.1]; exact p1
      · rw [pyL_map, List.getElem?_map, List.getElem?_eq_getElem (by omega)] at hz
        cases hz
        rw [eqv_py 63 63 _ y (shpL_mem c.2 (List.getElem_mem _)) c.1]
        exact Bool.eq_false_iff.mpr (p2 k hk)
    · cases e
  · cases e
def pmN : PM → Str
  | .count => "count" | _ => "index"
theorem pe_pmE {a e1 : Expr} {es : List Expr} {ma : M D} {ml : M (List D)} {na nl : Bool} {apos : Pos} (o : PM) (hK : X.K = T.K) (hu : X.A.units + 200 < cLine) (ha : PE X a (Tm T W true na ma)) (hl : PA X (e1 :: es) (TmL T W false nl ml)) (hn : n = true → na = true) (hn2 : n = true → nl = true)
    (hbase : attributeBase a (pmN o) X.env (eval a X.env) = eval a X.env)
    (hfew : ((backTo pos (starEach (e1 :: es) X.env)).all (fun x => !x.1) && (backToKw pos (keywordEach [] X.env)).all (fun x => x.1.isSome)
      && decide ((e1 :: es).length + ([] : List Keyword).length + (if ([] : List Keyword).isEmpty then 0 else 1) < 30)) = true)
    (hline : (apos.endLine == pos.line) = true) (hs : starEach (e1 :: es) X.env = (false, eval e1 X.env) :: starEach es X.env) (hplain : (backTo pos (starEach es X.env)).any (·.1) = false) :
    PE X (.Call (.Attribute a (pmN o) apos) (e1 :: es) [] pos) (Tm T W p n (fin p (M.bind ma fun x => M.chk (isLst x) (M.bind ml fun ys => M.chk (x.clean || nl) (M.lift (pmD o x ys)))))) := by
  have main : PE X (.Call (.Attribute a (pmN o) apos) (e1 :: es) [] pos) (tBM X.K "list" (rPm T o) (Tm T W true na ma) (TmL T W false nl ml)) := by
    cases o with
    | count => exact pe_bm PySem.F.plainAttrs_list PySem.F.slot_list_count PySem.F.type_list_count (mt_pm .count hK hu) ha hl hbase hfew hline hs hplain
    | index => exact pe_bm PySem.F.plainAttrs_list PySem.F.slot_list_index PySem.F.type_list_index (mt_pm .index hK hu) ha hl hbase hfew hline hs hplain
    | get => exact pe_bm PySem.F.plainAttrs_list PySem.F.slot_list_index PySem.F.type_list_index (mt_pm .get hK hu) ha hl hbase hfew hline hs hplain
    | items => exact pe_bm PySem.F.plainAttrs_list PySem.F.slot_list_index PySem.F.type_list_index (mt_pm .items hK hu) ha hl hbase hfew hline hs hplain
  refine PE.fin (PE.imp main fun σ H Q w => ?_)
  obtain ⟨fz, F, ρ, c, w⟩ := w.start
  refine (Out.bind c hn w).mono ?_
  rintro v H1 ⟨fz1, F1, G1, x, ρ1, c1, v1, _, w1⟩
  have c01 := c.trans c1 hn
  obtain ⟨il, w1⟩ := w1.chk
  have hx1 : Held T H1 fz1 F1 (G1 ++ []) x v := by
    obtain ⟨G0, r, s⟩ := v1.held
    exact ⟨G0, r, fun a ha => (s a ha).imp_right (List.mem_append_left _)⟩
  refine ⟨?_, (Out.bindL (pb := false) c01 hn2 w1).mono ?_⟩
  · cases x with
    | «at» _ => cases il
    | nd k m xs =>
      cases k with
      | lst =>
        obtain ⟨b, vs, G2, e, hb, _⟩ := hx1.lst
        subst e
        exact .inl ⟨rfl, _, .inl (.inl hb)⟩
      | _ => cases il
  · rintro ws H2 ⟨fz2, F2, G2, ys, ρ2, c2, v2, _, w2⟩
    have c02 := c01.trans c2 hn2
    obtain ⟨k, w3⟩ := w2.chk
    obtain ⟨d, e, w4⟩ := w3.lift
    exact ⟨fz2, F2, _, x, ys, d, Held.step c01 hx1 c2 k, ⟨_, v2⟩, il, e, w4.give c02⟩
end
end Ev

set_option Elab.async false
set_option linter.all false
set_option maxRecDepth 100000
set_option maxHeartbeats 4000000
/-! d.get(k), written dicts -/
namespace Ev
open PySem PySem.Spec L2
section
variable {X : Cx} {T : Tab} {W : WX} {n p : Bool} {pos : Pos}
theorem isD_of {H : Hp} {fz : Fz} {F G : List Addr} {x : D} {v : V} (h : Held T H fz F G x v) (i : isDct x = true) : ∃ a, v = .ref a ∧ IsD H a := by
  cases x with
  | «at» _ => cases i
  | nd k m xs =>
    cases k with
    | dk ks =>
      obtain ⟨a, vs, G1, e, _, hb, _⟩ := h.dk
      exact ⟨a, e, .inl ⟨_, .inl hb⟩⟩
    | dt ks =>
      obtain ⟨a, vs, G1, e, _, hb, _⟩ := h.dt
      exact ⟨a, e, .inr ⟨_, .inl hb⟩⟩
    | _ => cases i
theorem atK_none {κ : Type} [DecidableEq κ] {T : Tab} {H : Hp} {fz : Fz} (k : κ) : ∀ {ks : List κ} {xs : List D} {vs : List V} {G1 : List Addr}, RepL T H fz xs vs G1 → atK k ks xs = none → valV (ks.zip vs) k = none
  | [], _, _, _, _, _ => by simp [valV]
  | _ :: _, [], _, _, h, _ => by
    obtain ⟨rfl, _⟩ := h
    simp [valV]
  | q :: ks, x :: xs, vs, G1, h, e => by
    obtain ⟨v, r, F1, F2, e1, e2, h1, h2⟩ := h
    subst e1
    unfold atK at e
    by_cases hq : q = k
    · rw [if_pos hq] at e; cases e
    · rw [if_neg hq] at e
      have := atK_none k h2 e
      rw [← this]
      simp [valV, hq]
theorem dg_core {H : Hp} {fz : Fz} {F : List Addr} {df : At} {x y d : D} {v w : V} {Q : VK} (hx : Seen T H fz F x v) (hy : Seen T H fz F y w) (e : dgD df x y = some d) (g : ∀ v', Seen T H fz F d v' → Q v' H) :
    ∃ a o, v = .ref a ∧ DGet H a w o ∧ Q (o.getD df.v) H := by
  have hdf : Seen T H fz F (.at df) df.v := ⟨[], ⟨rfl, rfl⟩, by simp⟩
  unfold dgD at e
  split at e
  · split at e
    · rename_i ks m vs _ k hk
      cases e
      obtain ⟨a, us, G1, e1, hkk, hl, s1⟩ := hx.kid
      have ew := Held.key (hy.held (G := [])) hk
      subst e1
      subst ew
      refine ⟨a, _, rfl, DGet.k (dk_of hkk).2, ?_⟩
      cases ea : atK k ks vs with
      | none => rw [atK_none k hl ea]; rw [ea] at g; exact g _ hdf
      | some d =>
        obtain ⟨w', e3, q⟩ := atK_seen k hl s1 ea
        rw [e3]; rw [ea] at g; exact g _ q
    · cases e
  · split at e
    · rename_i ks m vs xs _ k hk
      cases e
      obtain ⟨a, us, G1, e1, hkk, hl, s1⟩ := hx.kid
      obtain ⟨b, e2, hb⟩ := Held.keyT (hy.held (G := [])) hk
      subst e1; subst e2
      refine ⟨a, _, rfl, DGet.t (dt_of hkk).2 hb, ?_⟩
      cases ea : atK k ks vs with
      | none => rw [atK_none k hl ea]; rw [ea] at g; exact g _ hdf
      | some d =>
        obtain ⟨w', e3, q⟩ := atK_seen k hl s1 ea
        rw [e3]; rw [ea] at g; exact g _ q
    · cases e
  · cases e
theorem dg_read {ma mk : M D} {na nk : Bool} {df : At} {σ : St} {H : Hp} {Q : VK} (hn : n = true → na = true) (hm : n = true → nk = true)
    (h : Tm T W p n (M.bind ma fun x => M.chk (isDct x) (M.bind mk fun j => M.chk (x.clean || nk) (M.bind (M.lift (dgD df x j)) fun d => plc p d))) σ H Q) :
    Tm T W true na ma σ H fun v H1 => ∃ a, v = .ref a ∧ IsD H1 a ∧ Tm T W true nk mk σ H1 fun w H2 => ∃ o, DGet H2 a w o ∧ Q (o.getD df.v) H2 := by
  obtain ⟨fz, F, ρ, c, h⟩ := h.start
  refine (Out.bind c hn h).mono ?_
  rintro v H1 ⟨fz1, F1, G1, x, ρ1, c1, v1', _, h1⟩
  obtain ⟨_, v1⟩ := id v1'
  obtain ⟨il, h1⟩ := h1.chk
  have c01 := c.trans c1 hn
  obtain ⟨a, ea, da⟩ := isD_of v1'.held il
  refine ⟨a, ea, da, (Out.bind c01 hm h1).mono ?_⟩
  rintro w H2 ⟨fz2, F2, G2, y, ρ2, c2, ⟨_, v2⟩, _, h2⟩
  obtain ⟨k, h3⟩ := h2.chk
  cases e : dgD df x y with
  | none => rw [e] at h3; exact h3.elim
  | some d =>
    rw [e] at h3
    obtain ⟨a', o, e1, g1, q⟩ := dg_core (Seen.step v1 c1.amb c2 k) v2 e fun v' ⟨G0, r, s⟩ => Out.place (c01.trans c2 hm) h3 r s
    rw [ea] at e1
    cases e1
    exact ⟨o, g1, q⟩
theorem pe_dg1 {a k : Expr} {ma mk : M D} {na nk : Bool} {apos : Pos} (hu : X.A.units + 200 < cLine) (ha : PE X a (Tm T W true na ma)) (hk : PE X k (Tm T W true nk mk)) (hn : n = true → na = true) (hm : n = true → nk = true) (m : M1 X a "get" apos k pos) :
    PE X (.Call (.Attribute a "get" apos) [k] [] pos) (Tm T W p n (M.bind ma fun x => M.chk (isDct x) (M.bind mk fun j => M.chk (x.clean || nk) (M.bind (M.lift (dgD .non x j)) fun d => plc p d)))) :=
  PE.imp (pe_dget1 (by omega) ha hk m) fun σ H Q h => (dg_read hn hm h).mono fun v H1 ⟨b, e, d, h1⟩ => ⟨b, e, d, h1⟩
theorem pe_dg2 {a k f : Expr} {ma mk : M D} {na nk : Bool} {apos : Pos} {df : At} (hu : X.A.units + 200 < cLine) (ha : PE X a (Tm T W true na ma)) (hk : PE X k (Tm T W true nk mk)) (hf : PE X f (tC df.v)) (hn : n = true → na = true) (hm : n = true → nk = true) (m : M2 X a "get" apos k f pos) :
    PE X (.Call (.Attribute a "get" apos) [k, f] [] pos) (Tm T W p n (M.bind ma fun x => M.chk (isDct x) (M.bind mk fun j => M.chk (x.clean || nk) (M.bind (M.lift (dgD df x j)) fun d => plc p d)))) :=
  PE.imp (pe_dget2 (by omega) ha hk hf m) fun σ H Q h => (dg_read hn hm h).mono fun v H1 ⟨b, e, d, h1⟩ => ⟨b, e, d, h1.mono fun w H2 ⟨o, g, q⟩ => ⟨o, g, q⟩⟩
/-! written dicts -/
def cstB : Expr → At → Bool
  | .Constant c _ _, a => match a, c with
    | .non, .none => true
    | .bl a, .bool b => a == b
    | .int i, .int j => i == j
    | .str x, .str y => x == y
    | _, _ => false
  | _, _ => false
theorem cst_ok {e : Expr} {a : At} (h : cstB e a = true) : PE X e (tC a.v) := by
  unfold cstB at h
  split at h
  · rename_i c j q
    split at h
    · exact pe_non
    · have := of_decide_eq_true h; subst this; exact pe_bl
    · have := of_decide_eq_true h; subst this; exact pe_int
    · have := of_decide_eq_true h; subst this; exact pe_str
    · cases h
  · cases h
def chkDs : List (At × At) → List (Option Expr) → List Expr → Bool
  | [], [], [] => true
  | p :: ps, some k :: ks, v :: vs => (cstB k p.1 && cstB v p.2) && chkDs ps ks vs
  | _, _, _ => false
theorem pps_cst : ∀ {ps : List (At × At)} {ks : List (Option Expr)} {vs : List Expr}, chkDs ps ks vs = true → PPs X pos ks vs (ps.map fun p => (tC p.1.v, tC p.2.v)) ∧ ks.all (·.isSome) = true ∧ ks.length = vs.length ∧ ks.length = ps.length
  | [], [], [], _ => ⟨pps_nil, rfl, rfl, rfl⟩
  | p :: ps, some k :: ks, v :: vs, h => by
    have h : ((cstB k p.1 && cstB v p.2) && chkDs ps ks vs) = true := h
    simp only [Bool.and_eq_true] at h
    obtain ⟨q1, q2, q3, q4⟩ := pps_cst h.2
    exact ⟨pps_cons (cst_ok h.1.1) (cst_ok h.1.2) q1, by simp [q2], by simp [q3], by simp [q4]⟩
  | [], [], _ :: _, h => by cases h
  | [], _ :: _, _, h => by cases h
  | _ :: _, [], _, h => by cases h
  | _ :: _, none :: _, _, h => by cases h
  | _ :: _, some _ :: _, [], h => by cases h
theorem tPairs_cst {σ : St} : ∀ (ps : List (At × At)) {H : Hp} {Q : List (V × V) → Hp → Prop}, Q (ps.map fun p => (p.1.v, p.2.v)) H → tPairs (ps.map fun p => (tC p.1.v, tC p.2.v)) σ H Q
  | [], H, Q, h => h
  | p :: ps, H, Q, h => tPairs_cst ps (Q := fun qs H3 => Q ((p.1.v, p.2.v) :: qs) H3) h
theorem keysOf_v : ∀ {ps : List (At × At)} {ks : List Key}, keysOf (ps.map fun p => D.at p.1) = some ks → ps.map (fun p => p.1.v) = ks.map kV ∧ ks.length = ps.length
  | [], ks, h => by cases h; exact ⟨rfl, rfl⟩
  | p :: ps, ks, h => by
    have h : (match keyOf (D.at p.1), keysOf (ps.map fun p => D.at p.1) with
      | some k, some ks => some (k :: ks)
      | _, _ => none) = some ks := h
    cases h1 : keyOf (D.at p.1) with
    | none => rw [h1] at h; cases h
    | some k =>
      cases h2 : keysOf (ps.map fun p => D.at p.1) with
      | none => rw [h1, h2] at h; cases h
      | some ks' =>
        rw [h1, h2] at h
        cases h
        obtain ⟨e1, e2⟩ := keysOf_v h2
        refine ⟨?_, by simp [e2]⟩
        rw [List.map_cons, List.map_cons, e1]
        congr 1
        obtain ⟨a, b⟩ := p
        cases a with
        | int i => cases h1; rfl
        | str x => cases h1; rfl
        | _ => cases h1
theorem mergeK_nd : ∀ (ks : List Key) (vs : List V) (acc : List (Key × V)), ks.length = vs.length → ks.Nodup → (∀ k ∈ ks, ∀ q ∈ acc, q.1 ≠ k) → mergeK acc (ks.zip vs) = acc ++ ks.zip vs
  | [], vs, acc, _, _, _ => by simp [mergeK]
  | k :: ks, [], acc, h, _, _ => by cases h
  | k :: ks, v :: vs, acc, h, nd, hd => by
    obtain ⟨h1, h2⟩ := List.nodup_cons.mp nd
    have e1 : putK acc k v = acc ++ [(k, v)] := by
      unfold putK
      rw [if_neg]
      intro z
      obtain ⟨q, hq, hz⟩ := List.any_eq_true.mp z
      exact hd k List.mem_cons_self q hq (of_decide_eq_true hz)
    show mergeK (putK acc k v) (ks.zip vs) = _
    rw [e1, mergeK_nd ks vs _ (by simpa using h) h2 fun k' hk' q hq => ?_]
    · simp
    · rcases List.mem_append.mp hq with hq | hq
      · exact hd k' (List.mem_cons_of_mem _ hk') q hq
      · have : q = (k, v) := by simpa using hq
        subst this
        intro z
        have z : k = k' := z
        subst z
        exact h1 hk'
theorem pe_dspE {ps : List (At × At)} {ks : List (Option Expr)} {vs : List Expr} (h : chkDs ps ks vs = true) : PE X (.Dict ks vs pos) (Tm T W p n (fin p (M.lift (dspD ps)))) := by
  obtain ⟨q1, q2, q3, q4⟩ := pps_cst (X := X) (pos := pos) h
  by_cases hb : ps.length ≤ 15 ∧ ps ≠ []
  · refine PE.fin (PE.imp (pe_disp q1 q2 q3 (fun z => hb.2 (by rw [z] at q4; exact List.length_eq_zero_iff.mp q4.symm)) (by rw [q4]; exact hb.1)) fun σ H Q w => ?_)
    obtain ⟨fz, F, ρ, c, w⟩ := w.start
    obtain ⟨d, e, w⟩ := w.lift
    have g := w.give c
    unfold dspD at e
    split at e
    · rename_i kk hkk
      split at e
      · rename_i hc
        cases e
        simp only [Bool.and_eq_true, decide_eq_true_eq] at hc
        obtain ⟨k1, k2⟩ := keysOf_v hkk
        intro q hq
        refine tPairs_cst ps ⟨upd_same, kk.zip (ps.map fun p => p.2.v), ?_, ?_, ?_⟩
        · have e5 : (kk.zip (ps.map fun p => p.2.v)).map (fun kv => (kV kv.1, kv.2)) = (kk.map kV).zip (ps.map fun p => p.2.v) := by rw [List.zip_map_left]; rfl
          rw [e5, ← k1, List.zip_map']
        · simp; omega
        · have hm := mergeK_nd kk (ps.map fun p => p.2.v) [] (by simp [k2]) hc.1 (by simp)
          rw [hm, List.nil_append]
          have hu : upd (upd H q (.dK [])) q (.dK (kk.zip (ps.map fun p => p.2.v))) = upd H q (.dK (kk.zip (ps.map fun p => p.2.v))) := by
            funext b
            by_cases hb : b = q
            · subst hb; rw [upd_same, upd_same]
            · rw [upd_ne hb, upd_ne hb, upd_ne hb]
          rw [hu]
          refine g _ _ [q] (.new hq True.intro) ⟨q, ps.map fun p => p.2.v, [], rfl, ⟨by simp, by simp, _, upd_same, by simp [k2], hc.1, rfl⟩, ?_, rfl⟩
          have : ∀ ps : List (At × At), RepL T (upd H q (.dK (kk.zip (ps.map fun p => p.2.v)))) fz (ps.map fun p => D.at p.2) (ps.map fun p => p.2.v) [] → True := fun _ _ => trivial
          have rr : ∀ (ps : List (At × At)) (H' : Hp), RepL T H' fz (ps.map fun p => D.at p.2) (ps.map fun p => p.2.v) [] := by
            intro ps H'
            induction ps with
            | nil => exact ⟨rfl, rfl⟩
            | cons p ps ih => exact ⟨_, _, [], [], rfl, rfl, ⟨rfl, rfl⟩, ih⟩
          exact rr ps _
      · cases e
    · cases e
  · refine ⟨fun pins s σ H Q I w => ?_⟩
    exfalso
    obtain ⟨fz, F, ρ, c, w⟩ := w.start
    unfold dspD at w
    cases hk : keysOf (ps.map fun p => D.at p.1) with
    | none => rw [hk] at w; exact w.elim
    | some kk =>
      rw [hk] at w
      simp only at w
      have : (decide kk.Nodup && (decide (ps.length ≤ 15) && !ps.isEmpty)) = false := by
        rw [Bool.eq_false_iff]
        intro z
        simp only [Bool.and_eq_true, decide_eq_true_eq, Bool.not_eq_true', List.isEmpty_eq_false_iff] at z
        exact hb ⟨z.2.1, z.2.2⟩
      rw [this] at w
      exact w.elim
end
end Ev

set_option Elab.async false
set_option linter.all false
set_option maxRecDepth 100000
set_option maxHeartbeats 4000000
namespace Ev
open PySem PySem.Spec L2

/-! ## what a def promises -/
def refV : List Bool → List V → List V
  | true :: bs, v :: vs => v :: refV bs vs
  | false :: bs, _ :: vs => refV bs vs
  | _, _ => []
def spD (T : Tab) (C : Calls) (f : Nat) : Sp := fun vs H Q E => ∃ fz F ds bs, Amb H fz F ∧ RepL T H fz ds vs F ∧ match C.call f bs ds with
  | .ok d rs => ∀ v H' fz' F' G, Ext H fz F H' fz' (F' ++ G) → RepL T H' fz' rs (refV bs vs) F' → Rep T H' fz' d v G → Q v H'
  | .ex x rs => ∀ cls dd H' fz' F', Ext H fz F H' fz' F' → RepL T H' fz' rs (refV bs vs) F' → RepX T H' fz' x cls dd → E cls dd H'
  | .unk => False

section
variable {T : Tab} {W : WX} {σ : St} {H H1 H2 H' : Hp} {fz fz1 fz2 : Fz} {F F1 F2 G G1 G2 : List Addr} {n p : Bool} {ρ ρ1 ρ2 : Env} {Q : VK}
/-- a step beside which R stands -/
theorem Ext.frame {fz' : Fz} {F' R : List Addr} (e : Ext H fz F H' fz' F') (a : Amb H fz (F ++ R)) : Ext H fz (F ++ R) H' fz' (F' ++ R) := Ext.trans (Ext.refl a) e
theorem EnvR.fill : ∀ {ρ : Env} {σ : St} {F : List Addr} {i : Nat} {d : D} {v : V} {G : List Addr}, EnvR T H fz ρ σ F → ρ[i]? = some none → σ[i]? = some (some v) → Rep T H fz d v G →
    ∃ A C, F = A ++ C ∧ EnvR T H fz (ρ.set i (some d)) σ (A ++ G ++ C)
  | [], σ, F, i, d, v, G, h, e, _, _ => by simp at e
  | none :: ρ, σ, F, 0, d, v, G, h, _, es, hr => by
    obtain ⟨o, r, e1, h⟩ := h
    subst e1
    have e2 : o = some v := by simpa using es
    subst e2
    exact ⟨[], F, by simp, v, r, G, F, rfl, by simp, hr, h⟩
  | none :: ρ, σ, F, i + 1, d, v, G, h, e, es, hr => by
    obtain ⟨o, r, e1, h⟩ := h
    subst e1
    obtain ⟨A, C, e2, k⟩ := EnvR.fill (i := i) h (by simpa using e) (by simpa using es) hr
    exact ⟨A, C, e2, o, _, rfl, k⟩
  | some d0 :: ρ, σ, F, 0, d, v, G, h, e, _, hr => by simp at e
  | some d0 :: ρ, σ, F, i + 1, d, v, G, h, e, es, hr => by
    obtain ⟨v0, r, F1, F2, e1, e2, h1, h2⟩ := h
    subst e1
    obtain ⟨A, C, e3, k⟩ := EnvR.fill (i := i) h2 (by simpa using e) (by simpa using es) hr
    exact ⟨F1 ++ A, C, by rw [e2, e3]; simp, v0, _, F1, A ++ G ++ C, rfl, by simp, h1, k⟩

/-! ## arguments -/
def ArgV (T : Tab) (H : Hp) (fz : Fz) (σ : St) : List E → List D → List V → Prop
  | [], [], [] => True
  | e :: es, d :: ds, v :: vs => (match rfOf e with
    | some i => σ[i]? = some (some v)
    | none => Rep T H fz d v []) ∧ ArgV T H fz σ es ds vs
  | _, _, _ => False
theorem ArgV.fr {fz' : Fz} : ∀ {es : List E} {ds : List D} {vs : List V}, ArgV T H fz σ es ds vs → Fr H fz H' fz' [] → ArgV T H' fz' σ es ds vs
  | [], [], [], _, _ => True.intro
  | e :: es, d :: ds, v :: vs, h, f => by
    refine ⟨?_, ArgV.fr h.2 f⟩
    have h1 := h.1
    revert h1
    cases rfOf e with
    | some i => exact fun h => h
    | none => exact fun h => Rep.fr h f
  | [], [], _ :: _, h, _ => h.elim
  | [], _ :: _, _, h, _ => h.elim
  | _ :: _, [], _, h, _ => h.elim
  | _ :: _, _ :: _, [], h, _ => h.elim
def OutA (T : Tab) (W : WX) (σ : St) (H : Hp) (fz : Fz) (F : List Addr) (n : Bool) (es : List E) (r : R (List D)) (Q : List V → Hp → Prop) : Prop := match r with
  | .ok ds ρ' => ∀ vs H' fz' F', Cur T σ H fz F n H' fz' F' [] ρ' → ArgV T H' fz' σ es ds vs → Q vs H'
  | .ex x ρ' => OutX T W σ H fz F x ρ'
  | .unk => False
def TmA (T : Tab) (W : WX) (n : Bool) (es : List E) (m : M (List D)) : TA := fun σ H Q => ∃ fz F ρ, Amb H fz F ∧ EnvR T H fz ρ σ F ∧ OutA T W σ H fz F n es (m ρ) Q
theorem OutA.bind {ma : M D} {g : D → M (List D)} {es : List E} {Q : List V → Hp → Prop} {pb nb : Bool} (c : Cur T σ H fz F n H1 fz1 F1 G1 ρ1) (hn : n = true → nb = true) (h : OutA T W σ H fz F n es (M.bind ma g ρ1) Q) :
    Tm T W pb nb ma σ H1 fun w H2 => ∃ fz2 F2 G2 y ρ2, Cur T σ H1 fz1 F1 nb H2 fz2 F2 G2 ρ2 ∧ Val T pb H2 fz2 F2 G2 y w ∧ ma ρ1 = .ok y ρ2 ∧ OutA T W σ H fz F n es (g y ρ2) Q := by
  refine ⟨fz1, F1, ρ1, c.amb, c.env, ?_⟩
  unfold M.bind at h
  cases e : ma ρ1 with
  | ok y ρ2 =>
    rw [e] at h
    exact fun w H2 fz2 F2 G2 c2 v2 => ⟨fz2, F2, G2, y, ρ2, c2, v2, rfl, h⟩
  | ex x ρ' =>
    rw [e] at h
    exact OutX.step c h
  | unk =>
    rw [e] at h
    exact h.elim
theorem OutA.bindA {ma : M (List D)} {g : List D → M (List D)} {es es' : List E} {Q : List V → Hp → Prop} {nb : Bool} (c : Cur T σ H fz F n H1 fz1 F1 G1 ρ1) (hn : n = true → nb = true) (h : OutA T W σ H fz F n es (M.bind ma g ρ1) Q) :
    TmA T W nb es' ma σ H1 fun ws H2 => ∃ fz2 F2 ys ρ2, Cur T σ H1 fz1 F1 nb H2 fz2 F2 [] ρ2 ∧ ArgV T H2 fz2 σ es' ys ws ∧ ma ρ1 = .ok ys ρ2 ∧ OutA T W σ H fz F n es (g ys ρ2) Q := by
  refine ⟨fz1, F1, ρ1, c.amb, c.env, ?_⟩
  unfold M.bind at h
  cases e : ma ρ1 with
  | ok y ρ2 =>
    rw [e] at h
    exact fun w H2 fz2 F2 c2 v2 => ⟨fz2, F2, y, ρ2, c2, v2, rfl, h⟩
  | ex x ρ' =>
    rw [e] at h
    exact OutX.step c h
  | unk =>
    rw [e] at h
    exact h.elim
theorem Out.bindA {ma : M (List D)} {g : List D → M D} {es : List E} {nb : Bool} (c : Cur T σ H fz F n H1 fz1 F1 G1 ρ1) (hn : n = true → nb = true) (h : Out T W σ H fz F p n (M.bind ma g ρ1) Q) :
    TmA T W nb es ma σ H1 fun ws H2 => ∃ fz2 F2 ys ρ2, Cur T σ H1 fz1 F1 nb H2 fz2 F2 [] ρ2 ∧ ArgV T H2 fz2 σ es ys ws ∧ ma ρ1 = .ok ys ρ2 ∧ Out T W σ H fz F p n (g ys ρ2) Q := by
  refine ⟨fz1, F1, ρ1, c.amb, c.env, ?_⟩
  unfold M.bind at h
  cases e : ma ρ1 with
  | ok y ρ2 =>
    rw [e] at h
    exact fun w H2 fz2 F2 c2 v2 => ⟨fz2, F2, y, ρ2, c2, v2, rfl, h⟩
  | ex x ρ' =>
    rw [e] at h
    exact OutX.step c h
  | unk =>
    rw [e] at h
    exact h.elim
theorem TmA.mono {m : M (List D)} {es : List E} {Q Q' : List V → Hp → Prop} {H : Hp} (h : TmA T W n es m σ H Q) (i : ∀ v H', Q v H' → Q' v H') : TmA T W n es m σ H Q' := by
  obtain ⟨fz, F, ρ, a, e, h⟩ := h
  refine ⟨fz, F, ρ, a, e, ?_⟩
  revert h
  unfold OutA
  cases m ρ with
  | ok d ρ' => exact fun h v H' fz' F' c r => i _ _ (h v H' fz' F' c r)
  | ex x ρ' => exact fun h => h
  | unk => exact fun h => h
theorem TmA.start {m : M (List D)} {es : List E} {Q : List V → Hp → Prop} (h : TmA T W n es m σ H Q) : ∃ fz F ρ, Cur T σ H fz F n H fz F [] ρ ∧ OutA T W σ H fz F n es (m ρ) Q := by
  obtain ⟨fz, F, ρ, a, e, h⟩ := h
  exact ⟨fz, F, ρ, Cur.refl a e, h⟩
end

section
variable {X : Cx} {T : Tab} {W : WX} {n p : Bool} {pos : Pos}
theorem pa_nilA : PA X [] (TmA T W n [] (M.pure [])) := PA.imp pa_nil fun σ H Q h => by
  obtain ⟨fz, F, ρ, c, h⟩ := h.start
  exact h [] H fz F c True.intro
theorem pa_consA {e : Expr} {e' : E} {es : List Expr} {es' : List E} {ma : M D} {mr : M (List D)} {na nr : Bool} (ha : PE X e (Tm T W false na ma)) (hr : PA X es (TmA T W nr es' mr)) (hn : n = true → na = true) (hm : n = true → nr = true) (h0 : rfOf e' = none)
    (hs : starEach (e :: es) X.env = (false, eval e X.env) :: starEach es X.env) : PA X (e :: es) (TmA T W n (e' :: es') (M.bind ma fun x => M.bind mr fun xs => M.pure (x.frz :: xs))) :=
  PA.imp (pa_cons ha hr hs) fun σ H Q h => by
    obtain ⟨fz, F, ρ, c, h⟩ := h.start
    refine (OutA.bind c hn h).mono ?_
    rintro v H1 ⟨fz1, F1, G1, x, ρ1, c1, v1, _, h1⟩
    have c1' : Cur T σ H fz F n H1 (fzAdd fz1 G1) F1 [] ρ1 := by
      have := (c.trans c1 hn).frz
      simpa using this
    have v1' : Rep T H1 (fzAdd fz1 G1) x.frz v [] := Rep.frz v1 fun a h => h
    refine (OutA.bindA c1' hm h1).mono ?_
    rintro vs H2 ⟨fz2, F2, xs, ρ2, c2, v2, _, h2⟩
    have c02 := c1'.trans c2 hm
    refine h2 (v :: vs) H2 fz2 F2 c02 ⟨?_, v2⟩
    rw [h0]
    exact v1'.fr ((c1'.frT c2).mono (by simp))
theorem pa_consR {x : Str} {q : Pos} {i : Nat} {es : List Expr} {es' : List E} {mr : M (List D)} {nr : Bool} (hN : X.N[i]? = some x) (hv : Vis X.env.scope x) (hd : (x == ("__debug__" : Str)) = false) (hcd : (x == ("__classdict__" : Str)) = false) (hr : PA X es (TmA T W nr es' mr)) :
    PA X (.Name x q :: es) (TmA T W false (.rf i :: es') (fun ρ => match ρ[i]? with
      | some (some _) => M.bind mr (fun xs => M.pure (D.non :: xs)) ρ
      | _ => .unk)) :=
  PA.imp (pa_cons (pe_var hN hv hd hcd) hr rfl) fun σ H Q h => by
    obtain ⟨fz, F, ρ, c, h⟩ := h.start
    cases e : ρ[i]? with
    | none => rw [e] at h; exact h.elim
    | some o =>
      cases o with
      | none => rw [e] at h; exact h.elim
      | some d =>
        rw [e] at h
        obtain ⟨v, A, B, C, eF, eσ, r, _⟩ := c.env.split e
        refine ⟨v, eσ, ?_⟩
        refine (OutA.bindA (es' := es') (nb := nr) c (fun h => by cases h) h).mono ?_
        rintro vs H2 ⟨fz2, F2, xs, ρ2, c2, v2, _, h2⟩
        exact h2 (v :: vs) H2 fz2 F2 (by have := c.trans (n := false) c2 (fun h => by cases h); simpa using this) ⟨eσ, v2⟩

/-! ## slots by reference -/
theorem putR_len : ∀ (es : List E) (rs : List D) (ρ : Env), (putR es rs ρ).length = ρ.length
  | [], _, _ => rfl
  | e :: es, rs, ρ => by
    unfold putR
    cases rfOf e with
    | none => exact putR_len es rs ρ
    | some i =>
      cases rs with
      | nil => rfl
      | cons r rs => show (putR es rs (ρ.set i (some r))).length = _; rw [putR_len es rs]; simp
theorem rfs_cons_some {e : E} {es : List E} {i : Nat} (h : rfOf e = some i) : rfs (e :: es) = i :: rfs es := by
  unfold rfs; rw [List.filterMap_cons, h]
theorem rfs_cons_none {e : E} {es : List E} (h : rfOf e = none) : rfs (e :: es) = rfs es := by
  unfold rfs; rw [List.filterMap_cons, h]
theorem putR_set : ∀ (es : List E) (rs : List D) (ρ : Env) (i : Nat) (x : Option D), i ∉ rfs es → putR es rs (ρ.set i x) = (putR es rs ρ).set i x
  | [], _, _, _, _, _ => rfl
  | e :: es, rs, ρ, i, x, h => by
    unfold putR
    cases he : rfOf e with
    | none => rw [rfs_cons_none he] at h; exact putR_set es rs ρ i x h
    | some j =>
      rw [rfs_cons_some he] at h
      have hij : i ≠ j := fun z => h (by rw [z]; exact List.mem_cons_self)
      cases rs with
      | nil => rfl
      | cons r rs =>
        show putR es rs ((ρ.set i x).set j (some r)) = (putR es rs (ρ.set j (some r))).set i x
        rw [List.set_comm _ _ hij, putR_set es rs _ i x fun z => h (List.mem_cons_of_mem _ z)]
theorem fillR_set : ∀ (es : List E) (ds : List D) (ρ : Env) (i : Nat) (x : Option D), i ∉ rfs es → fillR es ds (ρ.set i x) = fillR es ds ρ
  | [], [], _, _, _, _ => rfl
  | [], _ :: _, _, _, _, _ => rfl
  | _ :: _, [], _, _, _, _ => rfl
  | e :: es, d :: ds, ρ, i, x, h => by
    unfold fillR
    cases he : rfOf e with
    | none => rw [rfs_cons_none he] at h; simp only [fillR_set es ds ρ i x h]; cases fillR es ds ρ <;> rfl
    | some j =>
      rw [rfs_cons_some he] at h
      have hij : i ≠ j := fun z => h (by rw [z]; exact List.mem_cons_self)
      simp only [fillR_set es ds ρ i x fun z => h (List.mem_cons_of_mem _ z)]
      cases fillR es ds ρ with
      | none => rfl
      | some r =>
        show (match (List.set ρ i x)[j]? with
          | some (some x) => some (x :: r)
          | _ => none) = _
        rw [List.getElem?_set_ne hij]
        all_goals rfl
theorem isRf_of {e : E} : isRf e = (rfOf e).isSome := by cases e <;> rfl
theorem take_refs {σ : St} {H : Hp} {fz : Fz} : ∀ (es : List E) (ds : List D) (vs : List V) (ds' : List D) (ρ : Env) (F : List Addr), (rfs es).Nodup → fillR es ds ρ = some ds' → EnvR T H fz ρ σ F → ArgV T H fz σ es ds vs →
    ∃ B R, F.Perm (B ++ R) ∧ RepL T H fz ds' vs B ∧ ∀ H' fz' rs F', Fr H fz H' fz' R → RepL T H' fz' rs (refV (es.map isRf) vs) F' → ∃ F'', EnvR T H' fz' (putR es rs ρ) σ F'' ∧ F''.Perm (F' ++ R)
  | [], [], [], ds', ρ, F, _, e, h, _ => by
    have e : some [] = some ds' := e
    cases e
    exact ⟨[], F, List.Perm.refl _, ⟨rfl, rfl⟩, fun H' fz' rs F' f r => ⟨F, h.fr f, by
      have : F' = [] := by
        cases rs with
        | nil => exact r.2
        | cons d rs => obtain ⟨v, w, _, _, e, _⟩ := r; cases e
      subst this
      exact List.Perm.refl _⟩⟩
  | e :: es, d :: ds, v :: vs, ds', ρ, F, nd, he, h, a => by
    unfold fillR at he
    cases hr : rfOf e with
    | none =>
      rw [hr] at he
      have a1 : Rep T H fz d v [] := by have := a.1; rw [hr] at this; exact this
      rw [rfs_cons_none hr] at nd
      cases hf : fillR es ds ρ with
      | none => rw [hf] at he; cases he
      | some r =>
        rw [hf] at he
        cases he
        obtain ⟨B, R, p1, r1, k⟩ := take_refs es ds vs r ρ F nd hf h a.2
        refine ⟨B, R, p1, ⟨v, vs, [], B, rfl, rfl, a1, r1⟩, fun H' fz' rs F' f q => ?_⟩
        have e1 : isRf e = false := by rw [isRf_of, hr]; rfl
        have e2 : putR (e :: es) rs ρ = putR es rs ρ := by unfold putR; rw [hr]; cases es <;> rfl
        rw [e2]
        rw [List.map_cons, e1] at q
        exact k H' fz' rs F' f q
    | some i =>
      rw [hr] at he
      have a1 : σ[i]? = some (some v) := by have := a.1; rw [hr] at this; exact this
      rw [rfs_cons_some hr] at nd
      obtain ⟨ni, nd⟩ := List.nodup_cons.mp nd
      cases hf : fillR es ds ρ with
      | none => rw [hf] at he; cases he
      | some r =>
        rw [hf] at he
        cases hρ : ρ[i]? with
        | none => simp [hρ] at he
        | some o =>
          cases o with
          | none => simp [hρ] at he
          | some x =>
            simp only [hρ] at he
            cases he
            obtain ⟨v', A, B, C, eF, eσ, rx, k⟩ := h.split hρ
            have ev : v' = v := by rw [a1] at eσ; cases eσ; rfl
            subst ev
            have h1 := (k H fz Fr.refl).2 (some v')
            rw [set_self a1] at h1
            obtain ⟨B1, R1, p1, r1, k1⟩ := take_refs es ds vs r (ρ.set i none) (A ++ C) nd (by rw [fillR_set es ds ρ i none ni]; exact hf) h1 a.2
            refine ⟨B ++ B1, R1, ?_, ⟨v', vs, B, B1, rfl, rfl, rx, r1⟩, fun H' fz' rs F' f q => ?_⟩
            · rw [eF]
              have q1 : (A ++ B ++ C).Perm (B ++ (A ++ C)) := by
                rw [List.append_assoc]
                exact (List.perm_append_comm_assoc A B C)
              rw [List.append_assoc B]
              exact q1.trans (p1.append_left B)
            · have e1 : isRf e = true := by rw [isRf_of, hr]; rfl
              rw [List.map_cons, e1] at q
              cases rs with
              | nil => obtain ⟨q1, _⟩ := q; cases q1
              | cons r0 rs =>
                obtain ⟨w, ws, F1, F2, e3, e4, q1, q2⟩ := q
                cases e3
                subst e4
                obtain ⟨F'', k2, p2⟩ := k1 H' fz' rs F2 f q2
                rw [putR_set es rs ρ i none ni] at k2
                have hl : i < ρ.length := (List.getElem?_eq_some_iff.mp hρ).1
                obtain ⟨A', C', e5, k3⟩ := EnvR.fill (d := r0) k2 (by rw [List.getElem?_set_self (by rw [putR_len]; exact hl)]) a1 q1
                rw [List.set_set] at k3
                refine ⟨A' ++ F1 ++ C', ?_, ?_⟩
                · have e6 : putR (e :: es) (r0 :: rs) ρ = (putR es rs ρ).set i (some r0) := by
                    have : putR (e :: es) (r0 :: rs) ρ = putR es rs (ρ.set i (some r0)) := by
                      conv => lhs; unfold putR
                      rw [hr]
                    rw [this, putR_set es rs ρ i (some r0) ni]
                  rw [e6]; exact k3
                · rw [e5] at p2
                  have q3 : (A' ++ F1 ++ C').Perm (F1 ++ (A' ++ C')) := by
                    rw [List.append_assoc]
                    exact List.perm_append_comm_assoc A' F1 C'
                  rw [List.append_assoc F1]
                  exact q3.trans (p2.append_left F1)
  | [], [], _ :: _, _, _, _, _, _, _, h => h.elim
  | [], _ :: _, _, _, _, _, _, _, _, h => h.elim
  | _ :: _, [], _, _, _, _, _, _, _, h => h.elim
  | _ :: _, _ :: _, [], _, _, _, _, _, _, h => h.elim
end
end Ev

set_option Elab.async false
set_option linter.all false
set_option maxRecDepth 100000
set_option maxHeartbeats 4000000
namespace Ev
open PySem PySem.Spec L2

/-! ## calls -/
def Fn1 (X : Cx) (T : Tab) (C : Calls) (k f : Nat) (a : Addr) : Prop := ∃ fd ps, FnOk X.prog X.w X.K X.mg X.base (L2.CX X.prog X.w) k a fd ps (spD T C f) ∧ Binds X.K fd ps []
section
variable {T : Tab} {W : WX} {C : Calls} {σ : St} {H H1 H2 H' : Hp} {fz fz1 fz2 : Fz} {F F1 F2 G G1 G2 : List Addr} {n p : Bool} {ρ ρ1 ρ2 : Env} {Q : VK}
theorem fillR_none : ∀ {es : List E} {ds ds' : List D} {vs : List V}, rfs es = [] → fillR es ds ρ = some ds' → ArgV T H fz σ es ds vs → ds' = ds ∧ RepL T H fz ds vs [] ∧ refV (es.map isRf) vs = []
  | [], [], ds', [], _, e, _ => by
    have e : some [] = some ds' := e
    cases e
    exact ⟨rfl, ⟨rfl, rfl⟩, rfl⟩
  | e :: es, d :: ds, ds', v :: vs, h, he, a => by
    have hr : rfOf e = none := by
      cases hr : rfOf e with
      | none => rfl
      | some i => rw [rfs_cons_some hr] at h; cases h
    rw [rfs_cons_none hr] at h
    unfold fillR at he
    rw [hr] at he
    have a1 : Rep T H fz d v [] := by have := a.1; rw [hr] at this; exact this
    cases hf : fillR es ds ρ with
    | none => rw [hf] at he; cases he
    | some r =>
      rw [hf] at he
      cases he
      obtain ⟨e1, e2, e3⟩ := fillR_none h hf a.2
      subst e1
      refine ⟨rfl, ⟨v, vs, [], [], rfl, rfl, a1, e2⟩, ?_⟩
      have e1 : isRf e = false := by rw [isRf_of, hr]; rfl
      rw [List.map_cons, e1]
      exact e3
  | [], [], _, _ :: _, _, _, h => h.elim
  | [], _ :: _, _, _, _, _, h => h.elim
  | _ :: _, [], _, _, _, _, h => h.elim
  | _ :: _, _ :: _, _, [], _, _, h => h.elim
theorem putR_none : ∀ {es : List E} {rs : List D}, rfs es = [] → putR es rs ρ = ρ
  | [], _, _ => rfl
  | e :: es, rs, h => by
    have hr : rfOf e = none := by
      cases hr : rfOf e with
      | none => rfl
      | some i => rw [rfs_cons_some hr] at h; cases h
    rw [rfs_cons_none hr] at h
    unfold putR
    rw [hr]
    exact putR_none h
/-- the callee's promise, from the evaluator's call -/
theorem call_core {f : Nat} {es : List E} {ds : List D} {vs : List V} (c : Cur T σ H fz F n H1 fz1 F1 G1 ρ1) (a : ArgV T H1 fz1 σ es ds vs) (hn : n = true → rfs es = []) (h : Out T W σ H fz F false n (callM C f es ds ρ1) Q) : spD T C f vs H1 Q (WE W σ) := by
  replace c := c.drop0
  unfold callM at h
  by_cases nd : (rfs es).Nodup
  rotate_left
  · rw [decide_eq_false nd] at h
    cases e : fillR es ds ρ1 <;> rw [e] at h <;> exact h.elim
  rw [decide_eq_true nd] at h
  cases e : fillR es ds ρ1 with
  | none => rw [e] at h; exact h.elim
  | some ds' =>
    simp only [e] at h
    by_cases z : rfs es = []
    · obtain ⟨e1, r1, e2⟩ := fillR_none z e a
      subst e1
      refine ⟨fz1, [], ds', es.map isRf, ⟨List.nodup_nil, by simp, by simp, c.amb.there⟩, r1, ?_⟩
      revert h
      cases C.call f (es.map isRf) ds' with
      | unk => exact fun h => h.elim
      | ok d rs =>
        intro h v H' fz' F' G' x r rv
        rw [e2] at r
        have hrs : rs = [] ∧ F' = [] := by
          cases rs with
          | nil => exact ⟨rfl, r.2⟩
          | cons _ _ => obtain ⟨_, _, _, _, q, _⟩ := r; cases q
        obtain ⟨rfl, rfl⟩ := hrs
        rw [z] at h
        have h : Out T W σ H fz F false n (.ok d (putR es [] ρ1)) Q := h
        rw [putR_none z] at h
        have x2 : Ext H1 fz1 F1 H' fz' (F1 ++ G') := by
          have := Ext.frame (F := []) (R := F1) x (by simpa using c.amb)
          exact (this : Ext H1 fz1 ([] ++ F1) H' fz' (([] ++ G') ++ F1)).perm (by simpa using List.perm_append_comm)
        refine h v H' fz' F1 G' ((c.trans (nb := true) ⟨x2, c.env.fr (x.fr (F := []) ⟨List.nodup_nil, by simp, by simp, c.amb.there⟩ (by simp)), fun _ => ⟨rfl, fun b o hb => x.keep b o hb (by simp)⟩⟩ fun _ => rfl).dropR) rv
      | ex y rs =>
        intro h cls dd H' fz' F' x r rx
        rw [e2] at r
        have hrs : rs = [] ∧ F' = [] := by
          cases rs with
          | nil => exact ⟨rfl, r.2⟩
          | cons _ _ => obtain ⟨_, _, _, _, q, _⟩ := r; cases q
        obtain ⟨rfl, rfl⟩ := hrs
        rw [z] at h
        have h : OutX T W σ H fz F y (putR es [] ρ1) := h
        rw [putR_none z] at h
        have x2 : Ext H1 fz1 F1 H' fz' F1 := by
          have := Ext.frame (F := []) (R := F1) x (by simpa using c.amb)
          simpa using this
        exact OutX.step c h cls dd H' fz' F1 x2 (c.env.fr (x.fr (F := []) ⟨List.nodup_nil, by simp, by simp, c.amb.there⟩ (by simp))) rx
    · have nf : n = false := by
        cases n with
        | false => rfl
        | true => exact absurd (hn rfl) z
      subst nf
      obtain ⟨B, R, pm, r1, k⟩ := take_refs es ds vs ds' ρ1 F1 nd e c.env a
      have am : Amb H1 fz1 (B ++ R) := c.amb.perm pm
      have c' : Ext H fz F H1 fz1 (B ++ R) := by
        have := c.ext.perm (G' := B ++ R) (by simpa using pm)
        exact this
      refine ⟨fz1, B, ds', es.map isRf, am.left, r1, ?_⟩
      revert h
      cases C.call f (es.map isRf) ds' with
      | unk => exact fun h => h.elim
      | ok d rs =>
        intro h v H' fz' F' G' x r rv
        obtain ⟨F'', k2, p2⟩ := k H' fz' rs F' (x.fr am.left fun y h1 h2 => am.disj h2 h1) r
        by_cases hl : rs.length = (rfs es).length
        rotate_left
        · have h : Out T W σ H fz F false false (if rs.length = (rfs es).length then Ev.R.ok d (putR es rs ρ1) else Ev.R.unk) Q := h
          rw [if_neg hl] at h; exact h.elim
        have h : Out T W σ H fz F false false (if rs.length = (rfs es).length then Ev.R.ok d (putR es rs ρ1) else Ev.R.unk) Q := h
        rw [if_pos hl] at h
        refine h v H' fz' F'' G' ⟨?_, k2, fun q => by cases q⟩ rv
        refine (c'.trans0 (x.frame am)).perm ?_
        have q1 : (F' ++ G' ++ R).Perm (F' ++ R ++ G') := by
          rw [List.append_assoc, List.append_assoc]
          exact List.perm_append_comm.append_left F'
        exact q1.trans (p2.symm.append_right G')
      | ex y rs =>
        intro h cls dd H' fz' F' x r rx
        obtain ⟨F'', k2, p2⟩ := k H' fz' rs F' (x.fr am.left fun y h1 h2 => am.disj h2 h1) r
        by_cases hl : rs.length = (rfs es).length
        rotate_left
        · have h : Out T W σ H fz F false false (if rs.length = (rfs es).length then Ev.R.ex y (putR es rs ρ1) else Ev.R.unk) Q := h
          rw [if_neg hl] at h; exact h.elim
        have h : Out T W σ H fz F false false (if rs.length = (rfs es).length then Ev.R.ex y (putR es rs ρ1) else Ev.R.unk) Q := h
        rw [if_pos hl] at h
        exact h cls dd H' fz' F'' ((c'.trans0 (x.frame am)).perm p2.symm) k2 rx
end
section
variable {X : Cx} {T : Tab} {W : WX} {C : Calls} {n p : Bool} {pos : Pos} {k : Nat}
theorem pe_callE {f : Nat} {x : Str} {q : Pos} {fa : Addr} {e : Expr} {es : List Expr} {es' : List E} {ma : M (List D)} {na : Bool} (Fo : Fn1 X T C k f fa) (hr : Room k X.A) (hg : Gl X x) (hm : X.mg x = some (.ref fa)) (hk : PySem.W.keepIn X.K (.ref fa) = true) (tk : Takes X W)
    (ha : PA X (e :: es) (TmA T W na es' ma)) (hn : n = true → na = true) (hn2 : n = true → rfs es' = []) (hdb : (x == ("__debug__" : Str)) = false) (hs : starEach (e :: es) X.env = (false, eval e X.env) :: starEach es X.env) (hpl : (backTo pos (starEach es X.env)).any (·.1) = false) :
    PE X (.Call (.Name x q) (e :: es) [] pos) (Tm T W p n (fin p (M.bind ma fun ds => callM C f es' ds))) := by
  obtain ⟨fd, ps, F, hb⟩ := Fo
  refine PE.fin (PE.imp (pe_callSD F hr hg hm hk hb (dvs := []) .nil (passAt tk) ha hdb hs hpl) fun σ H Q h => ?_)
  obtain ⟨fz, F0, ρ, c, h⟩ := h.start
  refine (Out.bindA c hn h).mono ?_
  rintro vs H1 ⟨fz1, F1, ds, ρ1, c1, a1, _, h1⟩
  have c01 := c.trans c1 hn
  rw [List.append_nil]
  exact call_core c01 a1 hn2 h1
theorem pe_callE0 {f : Nat} {x : Str} {q : Pos} {fa : Addr} (Fo : Fn1 X T C k f fa) (hr : Room k X.A) (hg : Gl X x) (hm : X.mg x = some (.ref fa)) (hk : PySem.W.keepIn X.K (.ref fa) = true) (tk : Takes X W) (hdb : (x == ("__debug__" : Str)) = false) :
    PE X (.Call (.Name x q) [] [] pos) (Tm T W p n (fin p (M.bind (M.pure []) fun ds => callM C f [] ds))) := by
  obtain ⟨fd, ps, F, hb⟩ := Fo
  have main : PE X (.Call (.Name x q) [] [] pos) (fun σ H Q => spD T C f [] H Q (WE W σ)) := by
    refine ⟨fun pins s σ H Q I h => ?_⟩
    refine wpAny_Call_Name_kw (ld_glob I hg hm ?_ hdb)
    exact PySem.W.callWith_K0 I.kIn hk (run_fnSD (us := []) (vs := []) (dvs := []) (E := WE W) F hr hb .nil (passAt tk σ) I .nil h)
  refine PE.fin (PE.imp main fun σ H Q h => ?_)
  obtain ⟨fz, F0, ρ, c, h⟩ := h.start
  exact call_core (es := []) (ds := []) (vs := []) c True.intro (fun _ => rfl) h

/-! ## methods -/
/-- what is found at run time: the object's class and its method -/
def tMethS (X : Cx) (W : WX) (m : Str) (k : Nat) (ta : TE) (t : TA) : TE := fun σ H Q => ta σ H fun x H1 => ∃ a Ca dx fs g sp, x = .ref a ∧ H1 a = some (.ins Ca dx fs) ∧ fs.lookup m = none ∧ Cls X.K Ca ∧ Meth X.K Ca m g ∧
  (∃ fd ps, FnOk X.prog X.w X.K X.mg X.base (L2.CX X.prog X.w) k g fd ps sp ∧ Binds X.K fd ps []) ∧ t σ H1 fun vs H2 => sp (x :: vs) H2 Q (WE W σ)
theorem pe_methS {o e : Expr} {es : List Expr} {m : Str} {apos : Pos} {pl : Sem Bool} {ta : TE} {t : TA} (he : PE X o ta) (hr : Room k X.A) (tk : Takes X W) (ha : PA X (e :: es) t)
    (hst : starEach (e :: es) X.env = (false, eval e X.env) :: starEach es X.env) (hpl : (backTo pos (starEach es X.env)).any (·.1) = false)
    (ht : eval (.Call (.Attribute o m apos) (e :: es) [] pos) X.env = (do
      let ov ← eval o X.env
      standAt apos.atName
      let (f, first) ← holding [ov] (getMethod ov m pl)
      callWith pos f first (backTo pos (starEach (e :: es) X.env)) (backToKw pos (keywordEach [] X.env)))) :
    PE X (.Call (.Attribute o m apos) (e :: es) [] pos) (tMethS X W m k ta t) := by
  refine ⟨fun pins s σ H Q I h => ?_⟩
  refine PySem.W.methodCall_KW (pl := pl) (thn (he.run pins s σ H _ I h) fun u s1 ⟨x, H1, I1, rx, a, Ca, dx, fs, g, sp, ex, ea, l, cl, hm, ⟨fd, ps, F, hb⟩, q⟩ => ?_) ht
  subst ex
  obtain rfl : u = Value.ref a := rx
  refine getmeth_ok I1 ea cl hm l ?_
  refine PySem.W.callWith_K (first := [.ref a]) (h₀ := X.base) I.ok.mod.kin hm.kp (thn (ha.run pos pins s1 σ H1 _ I1 q) fun us s2 ⟨vs, H2, I2, r, q2⟩ => ⟨I2.kIn, ?_⟩) hst hpl
  exact run_fnSD (us := .ref a :: us) (vs := .ref a :: vs) (dvs := []) (E := WE W) F hr hb .nil (passAt tk σ) I2 (.cons rfl r) (by rw [List.append_nil]; exact q2)
theorem pe_methS0 {o : Expr} {m : Str} {apos : Pos} {pl : Sem Bool} {ta : TE} (he : PE X o ta) (hr : Room k X.A) (tk : Takes X W)
    (ht : eval (.Call (.Attribute o m apos) [] [] pos) X.env = (do
      let ov ← eval o X.env
      standAt apos.atName
      let (f, first) ← holding [ov] (getMethod ov m pl)
      callWith pos f first (backTo pos (starEach [] X.env)) (backToKw pos (keywordEach [] X.env)))) :
    PE X (.Call (.Attribute o m apos) [] [] pos) (tMethS X W m k ta tNil) := by
  refine ⟨fun pins s σ H Q I h => ?_⟩
  refine PySem.W.methodCall_KW (pl := pl) (thn (he.run pins s σ H _ I h) fun u s1 ⟨x, H1, I1, rx, a, Ca, dx, fs, g, sp, ex, ea, l, cl, hm, ⟨fd, ps, F, hb⟩, q⟩ => ?_) ht
  subst ex
  obtain rfl : u = Value.ref a := rx
  refine getmeth_ok I1 ea cl hm l ?_
  exact PySem.W.callWith_K0 (first := [.ref a]) I1.kIn hm.kp (run_fnSD (us := [.ref a]) (vs := [.ref a]) (dvs := []) (E := WE W) F hr hb .nil (passAt tk σ) I1 (.cons rfl .nil) q)

/-! ## new objects -/
theorem run_makeS {pins : List (Addr × Obj)} {σ : St} {H : Hp} {s : Shared} {Q : VK} {us : List Value} {vs : List V} {Ca f : Addr} {fd : FuncData} {ps : List Str} {sp : Sp} (M : Mk X.K Ca f) (F : FnOk X.prog X.w X.K X.mg X.base (L2.CX X.prog X.w) k f fd ps sp) (hr : Room (k + 1) X.A) (hb : Binds X.K fd ps [])
    (tk : Takes X W) (I : Inv X pins σ H s) (r : Vals vs us)
    (h : ∀ x dx, H x = none → H dx = none → dx ≠ x → sp (.ref x :: vs) (upd (upd H dx (.own x)) x (.ins Ca dx [])) (fun v H2 => v = .non ∧ Q (.ref x) H2) (WE W σ)) :
    wpAny (model X.prog X.w) X.A (call (.ref Ca) us) (EP X pins σ Q) X.xe s := by
  have hq := h (s.heap.objs.size + 1) s.heap.objs.size (I.hok.fresh (Nat.le_succ _)) (I.hok.fresh (Nat.le_refl _)) (Nat.ne_of_lt (Nat.lt_succ_self _))
  have I2 := Inv.made (C := Ca) I
  have r2 : Vals (V.ref (s.heap.objs.size + 1) :: vs) (Value.ref (s.heap.objs.size + 1) :: us) := .cons rfl r
  have hl : (Value.ref (s.heap.objs.size + 1) :: us ++ []).length = ps.length := by
    have e := r2.length
    rw [F.len _ _ _ _ hq] at e
    rw [List.append_nil]
    exact e.symm
  have hbb := hb _ (Value.ref (s.heap.objs.size + 1) :: us) I2.kIn hl
  rw [List.append_nil] at hbb
  refine wpAny_call (make_map (f := f) I.kIn M.makes M.init (beq_iff_eq.mp M.fn) (codeAny_mono (F.run _ X.stack _ _ ⟨Value.ref (s.heap.objs.size + 1) :: us, []⟩ (Value.ref (s.heap.objs.size + 1) :: us) _ _ (WE W σ) (hr.make Ca us [])
    (I2.env0.make Ca us []) hbb r2 hq) fun r s' hq' => ?_))
  cases r with
  | error e => exact passAt tk σ pins _ _ e s' I2 hq'
  | ok fl =>
    cases fl with
    | ret u =>
      obtain ⟨v, H', I3, rv, ev, q3⟩ := I2.after hq'
      subst ev
      exact ⟨rv, ⟨V.ref (s.heap.objs.size + 1), H', I3, rfl, q3⟩⟩
    | next => exact False.elim hq'
    | brk => exact False.elim hq'
    | cont => exact False.elim hq'
/-- the new object -/
theorem alloc_obj {H : Hp} {x dx Ca : Addr} (h1 : H x = none) (h2 : H dx = none) (h3 : dx ≠ x) : Alloc H (upd (upd H dx (.own x)) x (.ins Ca dx [])) [x] where
  keep := fun a o e => by
    rw [upd_ne (ne_of_none e h1), upd_ne (ne_of_none e h2)]; exact e
  fresh := fun a q => by rw [List.mem_singleton.mp q]; exact h1
  mu := fun a q => by rw [List.mem_singleton.mp q, upd_same]; exact True.intro
  nd := by simp
theorem mk_core {σ : St} {H H1 : Hp} {fz fz1 : Fz} {F F1 : List Addr} {ρ1 : Env} {Q : VK} {c f : Nat} {ds : List D} {vs : List V} {x dx : Addr} (cu : Cur T σ H fz F n H1 fz1 F1 [] ρ1) (a : RepL T H1 fz1 ds vs []) (hi : C.init c = some f)
    (h : Out T W σ H fz F false n (mkM C c ds ρ1) Q) (h1 : H1 x = none) (h2 : H1 dx = none) (h3 : dx ≠ x) :
    spD T C f (.ref x :: vs) (upd (upd H1 dx (.own x)) x (.ins (T.C c) dx [])) (fun v H2 => v = .non ∧ Q (.ref x) H2) (WE W σ) := by
  have al := alloc_obj (Ca := T.C c) h1 h2 h3
  have cu2 : Cur T σ H fz F n (upd (upd H1 dx (.own x)) x (.ins (T.C c) dx [])) fz1 F1 ([x] ++ []) ρ1 := cu.alloc al
  rw [List.append_nil] at cu2
  have am : Amb (upd (upd H1 dx (.own x)) x (.ins (T.C c) dx [])) fz1 ([x] ++ F1) := cu2.ext.amb.perm List.perm_append_comm
  unfold mkM at h
  rw [hi] at h
  refine ⟨fz1, [x], .nd (.obj c []) true [] :: ds, true :: ds.map (fun _ => false), am.left, ⟨.ref x, vs, [x], [], rfl, rfl, ⟨x, [], [], rfl, ⟨by simp, by simp, _, upd_same, rfl, by simp, dx, rfl⟩, ⟨rfl, rfl⟩, rfl⟩, a.fr al.fr⟩, ?_⟩
  have rv : ∀ (ds : List D) (vs : List V), refV (ds.map fun _ => false) vs = [] := by
    intro ds
    induction ds with
    | nil => intro vs; rfl
    | cons d ds ih => intro vs; cases vs with
      | nil => rfl
      | cons v vs => exact ih vs
  have h : Out T W σ H fz F false n (match C.call f (true :: ds.map fun _ => false) (.nd (.obj c []) true [] :: ds) with
      | .ok d [r] => if isNon d then R.ok r ρ1 else .unk
      | .ex x _ => .ex x ρ1
      | _ => .unk) Q := h
  have e0 : refV (true :: ds.map fun _ => false) (V.ref x :: vs) = [V.ref x] := by
    show V.ref x :: refV (ds.map fun _ => false) vs = _
    rw [rv]
  rw [e0]
  revert h
  cases C.call f (true :: ds.map fun _ => false) (.nd (.obj c []) true [] :: ds) with
  | unk => exact fun h => h.elim
  | ok d rs =>
    intro h v H' fz' F' G' e r rd
    obtain ⟨rs, rfl⟩ : ∃ r0, rs = [r0] := by
      cases rs with
      | nil => exact h.elim
      | cons r0 rs => cases rs with
        | nil => exact ⟨r0, rfl⟩
        | cons _ _ => exact h.elim
    have h : Out T W σ H fz F false n (if isNon d then R.ok rs ρ1 else .unk) Q := h
    by_cases hd : isNon d = true
    rotate_left
    · rw [if_neg hd] at h; exact h.elim
    rw [if_pos hd] at h
    obtain ⟨w, ws, A1, A2, e1, e2, q1, q2⟩ := r
    cases e1
    have z2 := q2.2
    subst z2
    rw [List.append_nil] at e2
    subst e2
    have vd : v = .non := by
      cases d with
      | «at» b => cases b <;> first | exact rd.1 | cases hd
      | nd _ _ _ => cases hd
    refine ⟨vd, ?_⟩
    have x2 : Ext H fz F H' fz' (F1 ++ F') := by
      have e3 := (cu2.ext.perm (G' := [x] ++ F1) List.perm_append_comm).trans0 (e.frame am)
      refine (e3.drop (G' := F' ++ F1) ?_ ?_).perm List.perm_append_comm
      · have := e3.amb.nd
        rw [List.append_assoc] at this
        exact this.sublist ((List.sublist_append_right _ _).append_left _)
      · intro a ha
        simp only [List.mem_append] at ha ⊢
        rcases ha with ha | ha <;> simp [ha]
    have fr : Fr (upd (upd H1 dx (.own x)) x (.ins (T.C c) dx [])) fz1 H' fz' F1 := e.fr am.left fun y h1 h2 => am.disj h2 h1
    refine h _ H' fz' F1 F' ⟨x2, cu2.env.fr fr, fun hn => ?_⟩ q1
    refine ⟨(cu.nm hn).1, fun b o hb => ?_⟩
    have hb1 := al.keep b o ((cu.nm hn).2 b o hb)
    refine e.keep b o hb1 fun hm => ?_
    have := List.mem_singleton.mp hm
    subst this
    rw [(cu.nm hn).2 b o hb] at h1
    cases h1
  | ex y rs =>
    intro h cls dd H' fz' F' e r rx
    have h : OutX T W σ H fz F y ρ1 := h
    have fr : Fr (upd (upd H1 dx (.own x)) x (.ins (T.C c) dx [])) fz1 H' fz' F1 := e.fr am.left fun y h1 h2 => am.disj h2 h1
    refine h cls dd H' fz' F1 ?_ (cu2.env.fr fr) rx
    have e3 := (cu2.ext.perm (G' := [x] ++ F1) List.perm_append_comm).trans0 (e.frame am)
    exact e3.drop (List.nodup_append.mp e3.amb.nd).2.1 fun a ha => List.mem_append_right _ ha
theorem pe_mkE {f c : Nat} {x : Str} {q : Pos} {fa : Addr} {e : Expr} {es : List Expr} {ml : M (List D)} {nl : Bool} (hK : X.K = T.K) (hi : C.init c = some f) (M0 : Mk X.K (T.C c) fa) (Fo : Fn1 X T C k f fa) (hr : Room (k + 1) X.A) (hg : Gl X x) (hm : X.mg x = some (.ref (T.C c))) (tk : Takes X W)
    (ha : PA X (e :: es) (TmL T W false nl ml)) (hn : n = true → nl = true) (hdb : (x == ("__debug__" : Str)) = false) (hs : starEach (e :: es) X.env = (false, eval e X.env) :: starEach es X.env) (hpl : (backTo pos (starEach es X.env)).any (·.1) = false) :
    PE X (.Call (.Name x q) (e :: es) [] pos) (Tm T W p n (fin p (M.bind ml fun ds => mkM C c (ds.map D.frz)))) := by
  obtain ⟨fd, ps, F, hb⟩ := Fo
  have main : PE X (.Call (.Name x q) (e :: es) [] pos) (fun σ H Q => TmL T W false nl ml σ H fun vs H1 => ∀ y dx, H1 y = none → H1 dx = none → dx ≠ y → spD T C f (.ref y :: vs) (upd (upd H1 dx (.own y)) y (.ins (T.C c) dx [])) (fun v H2 => v = .non ∧ Q (.ref y) H2) (WE W σ)) := by
    refine ⟨fun pins s σ H Q I h => ?_⟩
    refine wpAny_Call_Name_kw (ld_glob I hg hm ?_ hdb)
    refine PySem.W.callWith_K (h₀ := X.base) I.ok.mod.kin M0.kp (thn (ha.run pos pins s σ H _ I h) fun us s1 ⟨vs, H1, I1, r, q⟩ => ⟨I1.kIn, ?_⟩) hs hpl
    exact run_makeS M0 F hr hb tk I1 r q
  refine PE.fin (PE.imp main fun σ H Q h => ?_)
  obtain ⟨fz, F0, ρ, c0, h⟩ := h.start
  refine (Out.bindL (pb := false) c0 hn h).mono ?_
  rintro vs H1 ⟨fz1, F1, G1, ds, ρ1, c1, v1, _, h1⟩ y dx h2 h3 h4
  have cu := (c0.trans c1 hn).frz
  rw [List.append_nil] at cu
  rw [← frzL_map] at h1
  exact mk_core cu (RepL.frz v1 fun a h => h) hi h1 h2 h3 h4
theorem pe_mkE0 {f c : Nat} {x : Str} {q : Pos} {fa : Addr} (hK : X.K = T.K) (hi : C.init c = some f) (M0 : Mk X.K (T.C c) fa) (Fo : Fn1 X T C k f fa) (hr : Room (k + 1) X.A) (hg : Gl X x) (hm : X.mg x = some (.ref (T.C c))) (tk : Takes X W) (hdb : (x == ("__debug__" : Str)) = false) :
    PE X (.Call (.Name x q) [] [] pos) (Tm T W p n (fin p (M.bind (M.pure []) fun ds => mkM C c (ds.map D.frz)))) := by
  obtain ⟨fd, ps, F, hb⟩ := Fo
  have main : PE X (.Call (.Name x q) [] [] pos) (fun σ H Q => ∀ y dx, H y = none → H dx = none → dx ≠ y → spD T C f [.ref y] (upd (upd H dx (.own y)) y (.ins (T.C c) dx [])) (fun v H2 => v = .non ∧ Q (.ref y) H2) (WE W σ)) := by
    refine ⟨fun pins s σ H Q I h => ?_⟩
    refine wpAny_Call_Name_kw (ld_glob I hg hm ?_ hdb)
    exact PySem.W.callWith_K0 I.kIn M0.kp (run_makeS (us := []) (vs := []) M0 F hr hb tk I .nil h)
  refine PE.fin (PE.imp main fun σ H Q h y dx h2 h3 h4 => ?_)
  obtain ⟨fz, F0, ρ, c0, h⟩ := h.start
  exact mk_core (ds := []) (vs := []) c0 ⟨rfl, rfl⟩ hi h h2 h3 h4
end
end Ev

set_option Elab.async false
set_option linter.all false
set_option maxRecDepth 100000
set_option maxHeartbeats 4000000
namespace Ev
open PySem PySem.Spec L2

section
variable {X : Cx} {T : Tab} {W : WX} {C : Calls} {n p : Bool} {pos : Pos} {k : Nat}
/-- the methods that the evaluator knows are the classes' own -/
def MethOk (X : Cx) (T : Tab) (C : Calls) (k : Nat) (mN : Nat → Str) : Prop := ∀ c m f, C.meth c m = some f → ∃ g, Meth X.K (T.C c) (mN m) g ∧ Fn1 X T C k f g
theorem lookup_no {T : Tab} {m : Str} (h : ∀ f, f < T.nf → T.f f ≠ m) : ∀ {fs : List Nat} {vs : List V}, (∀ f ∈ fs, f < T.nf) → ((fs.map T.f).zip vs).lookup m = none
  | [], _, _ => rfl
  | _ :: _, [], _ => rfl
  | f :: fs, v :: vs, hf => by
    have hne : (m == T.f f) = false := by
      rw [beq_eq_false_iff_ne]
      exact fun z => h f (hf f List.mem_cons_self) z.symm
    show (List.lookup m ((T.f f, v) :: (fs.map T.f).zip vs)) = none
    rw [List.lookup_cons, hne]
    exact lookup_no h fun g hg => hf g (List.mem_cons_of_mem _ hg)
/-- the rest of a method's call, once the object is there -/
theorem mth_obj {mN : Nat → Str} (hK : X.K = T.K) (ok : TabOk T) (mo : MethOk X T C k mN) {m : Nat} (hm : ∀ f, f < T.nf → T.f f ≠ mN m) {H : Hp} {fz : Fz} {mk : Bool} {c : Nat} {fs : List Nat} {xs : List D} {v : V} {G : List Addr} {f : Nat} (r : Rep T H fz (.nd (.obj c fs) mk xs) v G) (hf : C.meth c m = some f) :
    ∃ a Ca dx fs g sp, v = .ref a ∧ H a = some (.ins Ca dx fs) ∧ fs.lookup (mN m) = none ∧ Cls X.K Ca ∧ Meth X.K Ca (mN m) g ∧ (∃ fd ps, FnOk X.prog X.w X.K X.mg X.base (L2.CX X.prog X.w) k g fd ps sp ∧ Binds X.K fd ps []) ∧ sp = spD T C f := by
  obtain ⟨a, vs, G1, e, hk, hl, ho⟩ := r
  obtain ⟨q1, q2, dx, q3⟩ := obj_of hk
  obtain ⟨g, h1, h2⟩ := mo c m f hf
  exact ⟨a, _, dx, _, g, _, e, q3, lookup_no hm q2, by rw [hK]; exact ok.cls c, h1, h2, rfl⟩
def mthV (C : Calls) (m : Nat) (o' : E) (es' : List E) (ma : M D) (me : M (List D)) : M D := M.bind ma fun x => match x with
      | .nd (.obj c _) _ _ => match C.meth c m with
        | some f => M.bind me fun ds => M.chk x.clean (callM C f (o' :: es') (x :: ds))
        | none => fun _ => .unk
      | _ => fun _ => .unk
theorem mthV_core {mN : Nat → Str} (hK : X.K = T.K) (ok : TabOk T) (mo : MethOk X T C k mN) {m : Nat} (hm : ∀ f, f < T.nf → T.f f ≠ mN m) {σ : St} {H : Hp} {Q : VK} {o' : E} {es' : List E} {ma : M D} {me : M (List D)} {na ne : Bool} (h0 : rfOf o' = none)
    (hn : n = true → na = true) (hn2 : n = true → ne = true) (hn3 : n = true → rfs es' = []) (h : Tm T W false n (mthV C m o' es' ma me) σ H Q) :
    tMethS X W (mN m) k (Tm T W true na ma) (TmA T W ne es' me) σ H Q := by
  obtain ⟨fz, F0, ρ, c, h⟩ := h.start
  refine (Out.bind c hn h).mono ?_
  rintro v H1 ⟨fz1, F1, G1, x, ρ1, c1, ⟨e1, G0, r, s⟩, _, h1⟩
  have c01 := c.trans c1 hn
  cases x with
  | «at» _ => exact h1.elim
  | nd kd mk xs =>
    cases kd with
    | obj cc fs =>
      cases hf : C.meth cc m with
      | none => simp only [hf] at h1; exact h1.elim
      | some f =>
        simp only [hf] at h1
        obtain ⟨a, Ca, dx, gs, g, sp, q1, q2, q3, q4, q5, q6, q7⟩ := mth_obj hK ok mo hm r hf
        subst q7
        refine ⟨a, Ca, dx, gs, g, _, q1, q2, q3, q4, q5, q6, ?_⟩
        refine (Out.bindA (es := es') c01 hn2 h1).mono ?_
        rintro vs H2 ⟨fz2, F2, ds, ρ2, c2, a2, _, h2⟩
        obtain ⟨cl, h3⟩ := h2.chk
        have e := clean_nil cl r
        subst e
        refine call_core (es := o' :: es') (ds := _ :: ds) (c01.trans c2 hn2) ⟨?_, a2⟩ (fun q => by rw [rfs_cons_none h0]; exact hn3 q) h3
        rw [h0]
        exact r.fr ((c01.frT c2).mono (by simp))
    | _ => exact h1.elim
theorem pe_mthE {mN : Nat → Str} {o e : Expr} {es : List Expr} {apos : Pos} {pl : Sem Bool} {o' : E} {es' : List E} {ma : M D} {me : M (List D)} {na ne : Bool} {m : Nat} (hK : X.K = T.K) (ok : TabOk T) (mo : MethOk X T C k mN) (hm : ∀ f, f < T.nf → T.f f ≠ mN m) (h0 : rfOf o' = none) (hr : Room k X.A) (tk : Takes X W)
    (ho : PE X o (Tm T W true na ma)) (ha : PA X (e :: es) (TmA T W ne es' me)) (hn : n = true → na = true) (hn2 : n = true → ne = true) (hn3 : n = true → rfs es' = [])
    (hst : starEach (e :: es) X.env = (false, eval e X.env) :: starEach es X.env) (hpl : (backTo pos (starEach es X.env)).any (·.1) = false)
    (ht : eval (.Call (.Attribute o (mN m) apos) (e :: es) [] pos) X.env = (do
      let ov ← eval o X.env
      standAt apos.atName
      let (f, first) ← holding [ov] (getMethod ov (mN m) pl)
      callWith pos f first (backTo pos (starEach (e :: es) X.env)) (backToKw pos (keywordEach [] X.env)))) :
    PE X (.Call (.Attribute o (mN m) apos) (e :: es) [] pos) (Tm T W p n (fin p (mthV C m o' es' ma me))) :=
  PE.fin (PE.imp (pe_methS ho hr tk ha hst hpl ht) fun σ H Q h => mthV_core hK ok mo hm h0 hn hn2 hn3 h)
theorem pe_mthE0 {mN : Nat → Str} {o : Expr} {apos : Pos} {pl : Sem Bool} {o' : E} {ma : M D} {na : Bool} {m : Nat} (hK : X.K = T.K) (ok : TabOk T) (mo : MethOk X T C k mN) (hm : ∀ f, f < T.nf → T.f f ≠ mN m) (h0 : rfOf o' = none) (hr : Room k X.A) (tk : Takes X W)
    (ho : PE X o (Tm T W true na ma)) (hn : n = true → na = true)
    (ht : eval (.Call (.Attribute o (mN m) apos) [] [] pos) X.env = (do
      let ov ← eval o X.env
      standAt apos.atName
      let (f, first) ← holding [ov] (getMethod ov (mN m) pl)
      callWith pos f first (backTo pos (starEach [] X.env)) (backToKw pos (keywordEach [] X.env)))) :
    PE X (.Call (.Attribute o (mN m) apos) [] [] pos) (Tm T W p n (fin p (mthV C m o' [] ma (M.pure [])))) :=
  PE.fin (PE.imp (pe_methS0 ho hr tk ht) fun σ H Q h => by
    have h2 := mthV_core (ne := true) hK ok mo hm h0 hn (fun _ => rfl) (fun _ => rfl) h
    refine Tm.mono h2 ?_
    rintro v H1 ⟨a, Ca, dx, fs, g, sp, q1, q2, q3, q4, q5, q6, q7⟩
    refine ⟨a, Ca, dx, fs, g, sp, q1, q2, q3, q4, q5, q6, ?_⟩
    obtain ⟨fz, F, ρ, c, q⟩ := q7.start
    exact q [] H1 fz F c True.intro)
def mthR (C : Calls) (m i : Nat) (es' : List E) (me : M (List D)) : M D := fun ρ => match ρ[i]? with
      | some (some (.nd (.obj c _) _ _)) => match C.meth c m with
        | some f => M.bind me (fun ds => callM C f (.rf i :: es') (D.non :: ds)) ρ
        | none => .unk
      | _ => .unk
theorem mthR_core {mN : Nat → Str} (hK : X.K = T.K) (ok : TabOk T) (mo : MethOk X T C k mN) {m i : Nat} (hm : ∀ f, f < T.nf → T.f f ≠ mN m) {σ : St} {H : Hp} {Q : VK} {es' : List E} {me : M (List D)} {ne : Bool} (h : Tm T W false false (mthR C m i es' me) σ H Q) :
    tMethS X W (mN m) k (tVar i) (TmA T W ne es' me) σ H Q := by
  obtain ⟨fz, F0, ρ, c, h⟩ := h.start
  unfold mthR at h
  split at h
  · rename_i cc fs mk xs e
    cases hf : C.meth cc m with
    | none => rw [hf] at h; exact h.elim
    | some f =>
      rw [hf] at h
      obtain ⟨v, A, B, C', eF, eσ, r, _⟩ := c.env.split e
      refine ⟨v, eσ, ?_⟩
      obtain ⟨a, Ca, dx, gs, g, sp, q1, q2, q3, q4, q5, q6, q7⟩ := mth_obj hK ok mo hm r hf
      subst q7
      refine ⟨a, Ca, dx, gs, g, _, q1, q2, q3, q4, q5, q6, ?_⟩
      refine (Out.bindA (es := es') (nb := ne) c (fun q => by cases q) h).mono ?_
      rintro vs H2 ⟨fz2, F2, ds, ρ2, c2, a2, _, h2⟩
      exact call_core (es := .rf i :: es') (ds := D.non :: ds) (c.trans (n := false) c2 (fun q => by cases q)) ⟨eσ, a2⟩ (fun q => by cases q) h2
  · exact h.elim
theorem pe_mthR {mN : Nat → Str} {x : Str} {q apos : Pos} {e : Expr} {es : List Expr} {pl : Sem Bool} {es' : List E} {me : M (List D)} {ne : Bool} {m i : Nat} (hK : X.K = T.K) (ok : TabOk T) (mo : MethOk X T C k mN) (hm : ∀ f, f < T.nf → T.f f ≠ mN m) (hr : Room k X.A) (tk : Takes X W)
    (hN : X.N[i]? = some x) (hv : Vis X.env.scope x) (hd : (x == ("__debug__" : Str)) = false) (hcd : (x == ("__classdict__" : Str)) = false) (ha : PA X (e :: es) (TmA T W ne es' me))
    (hst : starEach (e :: es) X.env = (false, eval e X.env) :: starEach es X.env) (hpl : (backTo pos (starEach es X.env)).any (·.1) = false)
    (ht : eval (.Call (.Attribute (.Name x q) (mN m) apos) (e :: es) [] pos) X.env = (do
      let ov ← eval (.Name x q) X.env
      standAt apos.atName
      let (f, first) ← holding [ov] (getMethod ov (mN m) pl)
      callWith pos f first (backTo pos (starEach (e :: es) X.env)) (backToKw pos (keywordEach [] X.env)))) :
    PE X (.Call (.Attribute (.Name x q) (mN m) apos) (e :: es) [] pos) (Tm T W p false (fin p (mthR C m i es' me))) :=
  PE.fin (PE.imp (pe_methS (pe_var hN hv hd hcd) hr tk ha hst hpl ht) fun σ H Q h => mthR_core hK ok mo hm h)
theorem pe_mthR0 {mN : Nat → Str} {x : Str} {q apos : Pos} {pl : Sem Bool} {m i : Nat} (hK : X.K = T.K) (ok : TabOk T) (mo : MethOk X T C k mN) (hm : ∀ f, f < T.nf → T.f f ≠ mN m) (hr : Room k X.A) (tk : Takes X W)
    (hN : X.N[i]? = some x) (hv : Vis X.env.scope x) (hd : (x == ("__debug__" : Str)) = false) (hcd : (x == ("__classdict__" : Str)) = false)
    (ht : eval (.Call (.Attribute (.Name x q) (mN m) apos) [] [] pos) X.env = (do
      let ov ← eval (.Name x q) X.env
      standAt apos.atName
      let (f, first) ← holding [ov] (getMethod ov (mN m) pl)
      callWith pos f first (backTo pos (starEach [] X.env)) (backToKw pos (keywordEach [] X.env)))) :
    PE X (.Call (.Attribute (.Name x q) (mN m) apos) [] [] pos) (Tm T W p false (fin p (mthR C m i [] (M.pure [])))) :=
  PE.fin (PE.imp (pe_methS0 (pe_var hN hv hd hcd) hr tk ht) fun σ H Q h => by
    obtain ⟨v, h1, a, Ca, dx, fs, g, sp, q1, q2, q3, q4, q5, q6, q7⟩ := mthR_core (ne := true) hK ok mo hm h
    refine ⟨v, h1, a, Ca, dx, fs, g, sp, q1, q2, q3, q4, q5, q6, ?_⟩
    obtain ⟨fz, F, ρ, c, q⟩ := q7.start
    exact q [] H fz F c True.intro)
end
end Ev

set_option Elab.async false
set_option linter.all false
set_option maxRecDepth 100000
set_option maxHeartbeats 4000000
namespace Ev
open PySem PySem.Spec L2

/-! ## places within slots -/
section
variable {T : Tab} {W : WX} {C : Calls} {σ : St} {H H1 H2 H' : Hp} {fz fz1 fz2 : Fz} {F F1 F2 G G1 G2 : List Addr} {n p : Bool} {ρ ρ1 ρ2 : Env} {Q : VK}
def Loc (T : Tab) (H : Hp) (fz : Fz) (F : List Addr) (ρ : Env) (σ : St) (i : Nat) (js : List Nat) (x : D) (w : V) : Prop :=
  ∃ B R d, F.Perm (B ++ R) ∧ Rep T H fz x w B ∧ ρ[i]? = some (some d) ∧ D.get js d = some x ∧ (js = [] → σ[i]? = some (some w)) ∧
    (B ≠ [] → ∀ H' fz' x' B' d', Fr H fz H' fz' R → Rep T H' fz' x' w B' → D.mod (fun _ => some x') js d = some d' → ∃ F', EnvR T H' fz' (ρ.set i (some d')) σ F' ∧ F'.Perm (B' ++ R))
theorem Loc.var (e : EnvR T H fz ρ σ F) {i : Nat} {d : D} (h : ρ[i]? = some (some d)) : ∃ w, σ[i]? = some (some w) ∧ Loc T H fz F ρ σ i [] d w := by
  obtain ⟨v, A, B, C, eF, eσ, r, k⟩ := e.split h
  have q : (A ++ B ++ C).Perm (B ++ (A ++ C)) := by rw [List.append_assoc]; exact List.perm_append_comm_assoc A B C
  refine ⟨v, eσ, B, A ++ C, d, by rw [eF]; exact q, r, h, rfl, fun _ => eσ, fun _ H' fz' x' B' d' f r' e' => ?_⟩
  have e' : some x' = some d' := e'
  cases e'
  have h2 := (k H' fz' f).1 x' v B' r'
  rw [set_self eσ] at h2
  exact ⟨_, h2, by rw [List.append_assoc]; exact List.perm_append_comm_assoc A B' C⟩
theorem RepL.at : ∀ {xs : List D} {vs : List V} {G : List Addr} {j : Nat} {y : D}, RepL T H fz xs vs G → xs[j]? = some y →
    ∃ u G1 B G2, G = G1 ++ B ++ G2 ∧ vs[j]? = some u ∧ Rep T H fz y u B ∧ ∀ H' fz' y' B', Fr H fz H' fz' (G1 ++ G2) → Rep T H' fz' y' u B' → RepL T H' fz' (xs.set j y') vs (G1 ++ B' ++ G2)
  | [], _, _, _, _, _, e => by simp at e
  | x :: xs, _, _, 0, y, h, e => by
    obtain ⟨v, r, F1, F2, e1, e2, h1, h2⟩ := h
    subst e1; subst e2
    have : x = y := by simpa using e
    subst this
    exact ⟨v, [], F1, F2, rfl, rfl, h1, fun H' fz' y' B' f r' => ⟨v, r, B', F2, rfl, by simp, r', h2.fr (f.mono fun a q => by simpa using q)⟩⟩
  | x :: xs, _, _, j + 1, y, h, e => by
    obtain ⟨v, r, F1, F2, e1, e2, h1, h2⟩ := h
    subst e1; subst e2
    obtain ⟨u, G1, B, G2, e3, e4, r4, k⟩ := RepL.at (j := j) h2 (by simpa using e)
    refine ⟨u, F1 ++ G1, B, G2, by rw [e3]; simp, by simpa using e4, r4, fun H' fz' y' B' f r' => ⟨v, r, F1, G1 ++ B' ++ G2, rfl, by simp, h1.fr (f.mono fun a q => by simp [q]), k H' fz' y' B' (f.mono fun a q => ?_) r'⟩⟩
    simp only [List.mem_append] at q ⊢
    rcases q with q | q <;> simp [q]
theorem get_append : ∀ {js : List Nat} {d : D} {k : Kd} {m : Bool} {xs : List D} {j : Nat} {y : D}, D.get js d = some (.nd k m xs) → xs[j]? = some y → D.get (js ++ [j]) d = some y
  | [], d, k, m, xs, j, y, h, e => by
    have h : some d = some (.nd k m xs) := h
    cases h
    show (match xs[j]? with | some x => D.get [] x | none => none) = _
    rw [e]; rfl
  | i :: js, .nd k0 m0 zs, k, m, xs, j, y, h, e => by
    have h : (match zs[i]? with | some x => D.get js x | none => none) = some (.nd k m xs) := h
    show (match zs[i]? with | some x => D.get (js ++ [j]) x | none => none) = _
    cases hz : zs[i]? with
    | none => rw [hz] at h; cases h
    | some z => rw [hz] at h; exact get_append h e
  | _ :: _, .at _, _, _, _, _, _, h, _ => by cases h
theorem setAt_eq {α : Type} {f : α → Option α} : ∀ {xs : List α} {j : Nat} {y : α}, xs[j]? = some y → setAt f j xs = (f y).map fun y' => xs.set j y'
  | [], _, _, e => by simp at e
  | x :: xs, 0, y, e => by
    have : x = y := by simpa using e
    subst this
    show (f x).map (· :: xs) = _
    cases f x <;> rfl
  | x :: xs, j + 1, y, e => by
    show (setAt f j xs).map (x :: ·) = _
    rw [setAt_eq (y := y) (by simpa using e)]
    cases f y <;> rfl
theorem mod_append {y' : D} : ∀ {js : List Nat} {d : D} {k : Kd} {m : Bool} {xs : List D} {j : Nat} {y : D}, D.get js d = some (.nd k m xs) → xs[j]? = some y → D.mod (fun _ => some y') (js ++ [j]) d = D.mod (fun _ => some (.nd k m (xs.set j y'))) js d
  | [], d, k, m, xs, j, y, h, e => by
    have h : some d = some (.nd k m xs) := h
    cases h
    show (setAt (fun _ => some y') j xs).map (D.nd k m) = _
    rw [setAt_eq e]; rfl
  | i :: js, .nd k0 m0 zs, k, m, xs, j, y, h, e => by
    have h : (match zs[i]? with | some x => D.get js x | none => none) = some (.nd k m xs) := h
    show (setAt (D.mod (fun _ => some y') (js ++ [j])) i zs).map (D.nd k0 m0) = (setAt (D.mod (fun _ => some (.nd k m (xs.set j y'))) js) i zs).map (D.nd k0 m0)
    cases hz : zs[i]? with
    | none => rw [hz] at h; cases h
    | some z => rw [hz] at h; rw [setAt_eq hz, setAt_eq hz, mod_append h e]
  | _ :: _, .at _, _, _, _, _, _, h, _ => by cases h
theorem Loc.kid {i : Nat} {js : List Nat} {k : Kd} {m : Bool} {xs : List D} {w : V} (l : Loc T H fz F ρ σ i js (.nd k m xs) w) {j : Nat} {y : D} (e : xs[j]? = some y) :
    ∃ a vs u, w = .ref a ∧ HK T H fz m k a vs ∧ xs.length = vs.length ∧ vs[j]? = some u ∧ Loc T H fz F ρ σ i (js ++ [j]) y u := by
  obtain ⟨B, R, d, pm, ⟨a, vs, G, ew, hk, hl, ho⟩, hd, hg, _, rec⟩ := l
  obtain ⟨u, G1, By, G2, eG, eu, ry, k1⟩ := hl.at e
  refine ⟨a, vs, u, ew, hk, hl.len, eu, ?_⟩
  have hmod := fun y' => mod_append (y' := y') hg e
  have hne : js ++ [j] = [] → σ[i]? = some (some u) := fun z => by simp at z
  cases m with
  | true =>
    have ho : B = a :: G := ho
    subst ho; subst eG
    refine ⟨By, a :: (G1 ++ G2) ++ R, d, pm.trans ?_, ry, hd, get_append hg e, hne, fun _ H' fz' y' B' d' f r' ed => ?_⟩
    · have q1 : (a :: (G1 ++ By ++ G2)).Perm (By ++ (a :: (G1 ++ G2))) := by
        have q2 : (G1 ++ By ++ G2).Perm (By ++ (G1 ++ G2)) := by rw [List.append_assoc]; exact List.perm_append_comm_assoc G1 By G2
        exact (q2.cons a).trans List.perm_middle.symm
      rw [← List.append_assoc]
      exact q1.append_right R
    · rw [hmod] at ed
      have r2 : Rep T H' fz' (.nd k true (xs.set j y')) w (a :: (G1 ++ B' ++ G2)) :=
        ⟨a, vs, _, ew, hk.fr f (fun _ => by simp), k1 H' fz' y' B' (f.mono fun b q => by simp only [List.mem_append, List.mem_cons] at q ⊢; rcases q with q | q <;> simp [q]) r', rfl⟩
      obtain ⟨F', e1, p1⟩ := rec (by simp) H' fz' _ _ d' (f.mono fun b q => by simp [q]) r2 ed
      refine ⟨F', e1, p1.trans ?_⟩
      have q1 : (a :: (G1 ++ B' ++ G2)).Perm (B' ++ (a :: (G1 ++ G2))) := by
        have q2 : (G1 ++ B' ++ G2).Perm (B' ++ (G1 ++ G2)) := by rw [List.append_assoc]; exact List.perm_append_comm_assoc G1 B' G2
        exact (q2.cons a).trans List.perm_middle.symm
      rw [← List.append_assoc]
      exact q1.append_right R
  | false =>
    by_cases ht : k = .tup
    · subst ht
      have ho : B = G := ho
      subst ho; subst eG
      refine ⟨By, (G1 ++ G2) ++ R, d, pm.trans ?_, ry, hd, get_append hg e, hne, fun hb H' fz' y' B' d' f r' ed => ?_⟩
      · have q2 : (G1 ++ By ++ G2).Perm (By ++ (G1 ++ G2)) := by rw [List.append_assoc]; exact List.perm_append_comm_assoc G1 By G2
        rw [← List.append_assoc]
        exact q2.append_right R
      · rw [hmod] at ed
        have r2 : Rep T H' fz' (.nd .tup false (xs.set j y')) w (G1 ++ B' ++ G2) :=
          ⟨a, vs, _, ew, hk.fr f (fun z => by cases z), k1 H' fz' y' B' (f.mono fun b q => by simp only [List.mem_append] at q ⊢; rcases q with q | q <;> simp [q]) r', rfl⟩
        obtain ⟨F', e1, p1⟩ := rec (fun z => by simp at z; exact hb z.2.1) H' fz' _ _ d' (f.mono fun b q => by simp [q]) r2 ed
        refine ⟨F', e1, p1.trans ?_⟩
        have q2 : (G1 ++ B' ++ G2).Perm (B' ++ (G1 ++ G2)) := by rw [List.append_assoc]; exact List.perm_append_comm_assoc G1 B' G2
        rw [← List.append_assoc]
        exact q2.append_right R
    · have ho : B = [] ∧ G = [] := by cases k <;> first | exact absurd rfl ht | exact ho
      obtain ⟨rfl, rfl⟩ := ho
      have hby : By = [] := by
        cases G1 with
        | nil => cases By with
          | nil => rfl
          | cons _ _ => cases eG
        | cons _ _ => cases eG
      subst hby
      exact ⟨[], R, d, pm, ry, hd, get_append hg e, hne, fun z => absurd rfl z⟩
theorem Loc.keep {i : Nat} {js : List Nat} {x : D} {w : V} (l : Loc T H fz F ρ σ i js x w) (c : Cur T σ H fz F1 true H' fz1 F2 G ρ2) : Loc T H' fz1 F ρ σ i js x w := by
  obtain ⟨B, R, d, pm, r, hd, hg, hs, rec⟩ := l
  have fr : ∀ {G : List Addr}, Fr H fz H' fz1 G := fun {G} => c.frN
  refine ⟨B, R, d, pm, r.fr fr, hd, hg, hs, fun hb H2 fz2 x' B' d' f r' ed => rec hb H2 fz2 x' B' d' ⟨fun a o e q => f.old a o ((c.nm rfl).2 a o e) (q.imp_right (Or.imp_left (c.ext.fsub a))), fun a h => f.fsub a (c.ext.fsub a h)⟩ r' ed⟩
end

/-! ## the places' expressions -/
section
variable {X : Cx} {T : Tab} {W : WX} {C : Calls} {n p : Bool} {pos : Pos}
def TmP (T : Tab) (pm : Env → Option (Nat × List Nat)) : TE := fun σ H Q => ∃ fz F ρ, Amb H fz F ∧ EnvR T H fz ρ σ F ∧ ∃ i js, pm ρ = some (i, js) ∧
  ∀ w H' fz' x, Cur T σ H fz F true H' fz' F [] ρ → Loc T H' fz' F ρ σ i js x w → Q w H'
theorem pl_var {i : Nat} {x : Str} (hN : X.N[i]? = some x) (hv : Vis X.env.scope x) (hd : (x == ("__debug__" : Str)) = false) (hcd : (x == ("__classdict__" : Str)) = false) :
    PE X (.Name x pos) (TmP T fun ρ => match ρ[i]? with | some (some _) => some (i, []) | _ => none) := by
  refine PE.imp (pe_var hN hv hd hcd) fun σ H Q ⟨fz, F, ρ, a, e, i', js, hp, k⟩ => ?_
  have hp : (match ρ[i]? with | some (some _) => some (i, []) | _ => none) = some (i', js) := hp
  split at hp
  · rename_i d hd
    cases hp
    obtain ⟨w, eσ, l⟩ := Loc.var e hd
    exact ⟨w, eσ, k w H fz d (Cur.refl a e) l⟩
  · cases hp
theorem pl_fld {a : Expr} {f : Nat} {pa : Env → Option (Nat × List Nat)} (hK : X.K = T.K) (ok : TabOk T) (hf : f < T.nf) (ha : PE X a (TmP T pa)) (hb : attributeBase a (T.f f) X.env (eval a X.env) = eval a X.env) :
    PE X (.Attribute a (T.f f) pos) (TmP T fun ρ => match pa ρ with
      | some (i, js) => match ρ[i]? with
        | some (some d) => match (D.get js d).bind (fldP f) with
          | some j => some (i, js ++ [j])
          | none => none
        | _ => none
      | none => none) := by
  refine PE.imp (pe_fld ha hb) fun σ H Q ⟨fz, F, ρ, am, e, i', js', hp, k⟩ => ?_
  cases hpa : pa ρ with
  | none => simp only [hpa] at hp; cases hp
  | some q =>
    obtain ⟨i, js⟩ := q
    simp only [hpa] at hp
    refine ⟨fz, F, ρ, am, e, i, js, hpa, fun w H' fz' x cu l => ?_⟩
    have l2 := l
    obtain ⟨B, R, d, pm, r, hd, hg, hs, rec⟩ := l2
    simp only [hd, hg] at hp
    cases hj : fldP f x with
    | none => simp only [Option.bind_some, hj] at hp; cases hp
    | some j =>
      simp only [Option.bind_some, hj] at hp
      cases hp
      cases x with
      | «at» _ => cases hj
      | nd kd m xs =>
        cases kd with
        | obj c fs =>
          have hj : posK f fs = some j := hj
          obtain ⟨b, vs, G, ew, hk, hl, ho⟩ := r
          obtain ⟨q1, q2, dx, q3⟩ := obj_of hk
          have hjl : j < xs.length ∧ ((fs.map T.f).zip vs).lookup (T.f f) = vs[j]? := by
            have hlen := hl.len
            clear rec hd hg hs pm ew hk ho q3 hl
            have main : ∀ (fs : List Nat) (vs : List V) (j : Nat), fs.length = vs.length → (∀ g ∈ fs, g < T.nf) → posK f fs = some j → j < vs.length ∧ ((fs.map T.f).zip vs).lookup (T.f f) = vs[j]? := by
              intro fs
              induction fs with
              | nil => intro vs j _ _ h; cases h
              | cons g fs ih =>
                intro vs j hl hg h
                cases vs with
                | nil => cases hl
                | cons v vs =>
                  unfold posK at h
                  by_cases hq : g = f
                  · rw [if_pos hq] at h
                    cases h
                    subst hq
                    exact ⟨by simp, by simp⟩
                  · rw [if_neg hq] at h
                    obtain ⟨j', h1, h2⟩ := Option.map_eq_some_iff.mp h
                    subst h2
                    obtain ⟨h3, h4⟩ := ih vs j' (by simpa using hl) (fun z hz => hg z (List.mem_cons_of_mem _ hz)) h1
                    have hne : (T.f f == T.f g) = false := by
                      rw [beq_eq_false_iff_ne]
                      exact fun z => hq (ok.inj f g hf (hg g List.mem_cons_self) z).symm
                    refine ⟨by simpa using h3, ?_⟩
                    show List.lookup (T.f f) ((T.f g, v) :: (fs.map T.f).zip vs) = _
                    rw [List.lookup_cons, hne]
                    simpa using h4
            obtain ⟨h1, h2⟩ := main fs vs j q1 q2 hj
            exact ⟨by rw [hlen]; exact h1, h2⟩
          have hy : xs[j]? = some xs[j] := List.getElem?_eq_getElem hjl.1
          obtain ⟨a', vs', u, ew', hk', hl', eu, l'⟩ := l.kid hy
          rw [ew] at ew'
          cases ew'
          obtain ⟨q1', q2', dx', q3'⟩ := obj_of hk'
          have ev : vs' = vs := by
            rw [q3] at q3'
            injection q3' with q3'
            injection q3' with _ _ q4
            have h1 : ((fs.map T.f).zip vs).map (·.2) = ((fs.map T.f).zip vs').map (·.2) := by rw [q4]
            rw [List.map_snd_zip (by rw [List.length_map, q1]; exact Nat.le_refl _), List.map_snd_zip (by rw [List.length_map, q1']; exact Nat.le_refl _)] at h1
            exact h1.symm
          subst ev
          exact ⟨b, _, dx, _, u, ew, q3, by rw [hK]; exact ok.cls c, by rw [hK]; exact ok.na c f hf, by rw [hjl.2]; exact eu, k u H' fz' _ cu l'⟩
        | _ => cases hj
def rIxP (T : Tab) : R2 := fun v w H Q => ∃ fz k m xs a vs j u yd, v = .ref a ∧ HK T H fz m k a vs ∧ (xs : List D).length = vs.length ∧ (∃ fz F, Seen T H fz F yd w) ∧ idxP (.nd k m xs) yd = some j ∧ vs[j]? = some u ∧ Q u H
theorem posK_at {κ : Type} [DecidableEq κ] {k : κ} : ∀ {ks : List κ} {vs : List V} {j : Nat}, posK k ks = some j → ks.length = vs.length → valV (ks.zip vs) k = vs[j]?
  | [], _, _, h, _ => by cases h
  | _ :: _, [], _, _, h => by cases h
  | q :: ks, v :: vs, j, h, hl => by
    unfold posK at h
    by_cases hq : q = k
    · rw [if_pos hq] at h
      cases h
      simp [valV, hq]
    · rw [if_neg hq] at h
      obtain ⟨j', h1, h2⟩ := Option.map_eq_some_iff.mp h
      subst h2
      have := posK_at h1 (by simpa using hl : ks.length = vs.length)
      rw [List.getElem?_cons_succ, ← this]
      simp [valV, hq]
theorem ix_pl (hK : X.K = T.K) (hu : X.A.units + 200 < cLine) : IxR X (rIxP T) := by
  intro value slice pins s σ H x0 y0 v u Q I rx ry h hs
  obtain ⟨fz, k, m, xs, a, vs, j, w, yd, e1, hk, hl, ⟨fz2, F2, hy⟩, e, ew, q⟩ := h
  have hat : ∀ i, ixN xs.length i = some j → L2.atI vs i = some w := fun i hi => by
    unfold L2.atI
    rw [← hl, hi]
    exact ew
  cases k with
  | tup =>
    cases yd with
    | «at» a0 =>
      cases a0 with
      | int i =>
        have e2 := (hy.held (G := [])).at
        cases m with
        | true => exact absurd rfl hk.1
        | false => exact ix_tup value slice pins s σ H x0 y0 v u Q I rx ry ⟨a, vs, _, w, e1, e2, by rw [hK]; exact sqT_of hk, hat _ e, q⟩ hs
      | _ => cases e
    | nd _ _ _ => cases e
  | lst =>
    cases yd with
    | «at» a0 =>
      cases a0 with
      | int i =>
        have e2 := (hy.held (G := [])).at
        exact ix_list value slice pins s σ H x0 y0 v u Q I rx ry ⟨a, vs, _, w, e1, e2, .inl (.inl (lst_of hk)), hat _ e, q⟩ hs
      | _ => cases e
    | nd _ _ _ => cases e
  | dk ks =>
    have e : (keyOf yd).bind (fun k => posK k ks) = some j := e
    obtain ⟨kk, ek, ep⟩ := Option.bind_eq_some_iff.mp e
    have e2 := (hy.held (G := [])).key ek
    subst e2
    exact ix_dict (by omega) value slice pins s σ H x0 _ v u Q I rx ry ⟨a, w, e1, by rw [← ew, ← posK_at ep (dk_of hk).1]; exact DGet.k (dk_of hk).2, q⟩ hs
  | dt ks =>
    cases yd with
    | «at» _ => cases e
    | nd k2 m2 ys =>
      cases k2 with
      | tup =>
        cases m2 with
        | true => cases e
        | false =>
          have e : (keysOf ys).bind (fun k => posK k ks) = some j := e
          obtain ⟨kk, ek, ep⟩ := Option.bind_eq_some_iff.mp e
          obtain ⟨b, e2, hb⟩ := (hy.held (G := [])).keyT ek
          subst e2
          exact ix_dict (by omega) value slice pins s σ H x0 _ v u Q I rx ry ⟨a, w, e1, by rw [← ew, ← posK_at ep (dt_of hk).1]; exact DGet.t (dt_of hk).2 hb, q⟩ hs
      | _ => cases e
  | scr => cases e
  | rng _ _ => cases e
  | obj _ _ => cases e
end
end Ev

set_option Elab.async false
set_option linter.all false
set_option maxRecDepth 100000
set_option maxHeartbeats 4000000
namespace Ev
open PySem PySem.Spec L2

section
variable {X : Cx} {T : Tab} {W : WX} {C : Calls} {n p : Bool} {pos : Pos}
theorem Loc.det {H H' : Hp} {fz fz' : Fz} {F F' : List Addr} {ρ : Env} {σ : St} {i : Nat} {js : List Nat} {x x' : D} {w w' : V} (l : Loc T H fz F ρ σ i js x w) (l' : Loc T H' fz' F' ρ σ i js x' w') : x = x' := by
  obtain ⟨_, _, d, _, _, h1, h2, _⟩ := l
  obtain ⟨_, _, d', _, _, h1', h2', _⟩ := l'
  rw [h1] at h1'
  cases h1'
  rw [h2] at h2'
  exact Option.some.inj h2'
theorem idxP_get {k : Kd} {m : Bool} {xs : List D} {yd : D} {j : Nat} {H : Hp} {fz : Fz} {a : Addr} {vs : List V} (h : idxP (.nd k m xs) yd = some j) (hk : HK T H fz m k a vs) (hl : xs.length = vs.length) : j < xs.length := by
  have pk : ∀ {κ : Type} [DecidableEq κ] {q : κ} {ks : List κ} {j : Nat}, posK q ks = some j → j < ks.length := by
    intro κ _ q ks
    induction ks with
    | nil => intro j h; cases h
    | cons z ks ih =>
      intro j h
      unfold posK at h
      by_cases hq : z = q
      · rw [if_pos hq] at h; cases h; simp
      · rw [if_neg hq] at h
        obtain ⟨j', h1, h2⟩ := Option.map_eq_some_iff.mp h
        subst h2
        have := ih h1
        simpa using this
  cases k with
  | tup =>
    cases yd with
    | «at» a0 => cases a0 with
      | int i => exact (ixN_seq (show ixN xs.length i = some j from h)).2.1
      | _ => cases h
    | nd _ _ _ => cases h
  | lst =>
    cases yd with
    | «at» a0 => cases a0 with
      | int i => exact (ixN_seq (show ixN xs.length i = some j from h)).2.1
      | _ => cases h
    | nd _ _ _ => cases h
  | dk ks =>
    obtain ⟨kk, ek, ep⟩ := Option.bind_eq_some_iff.mp (show (keyOf yd).bind (fun k => posK k ks) = some j from h)
    rw [hl, ← (dk_of hk).1]
    exact pk ep
  | dt ks =>
    cases yd with
    | «at» _ => cases h
    | nd k2 m2 ys => cases k2 with
      | tup => cases m2 with
        | true => cases h
        | false =>
          obtain ⟨kk, ek, ep⟩ := Option.bind_eq_some_iff.mp (show (keysOf ys).bind (fun k => posK k ks) = some j from h)
          rw [hl, ← (dt_of hk).1]
          exact pk ep
      | _ => cases h
  | scr => cases h
  | rng _ _ => cases h
  | obj _ _ => cases h
theorem pl_idx {a b : Expr} {pa : Env → Option (Nat × List Nat)} {mb : M D} (hK : X.K = T.K) (hu : X.A.units + 200 < cLine) (ha : PE X a (TmP T pa)) (hb : PE X b (Tm T W true true mb)) (hs : PlainIx b) :
    PE X (.Subscript a b pos) (TmP T fun ρ => match pa ρ with
      | some (i, js) => match ρ[i]?, mb ρ with
        | some (some d), .ok x _ => match (D.get js d).bind fun z => idxP z x with
          | some j => some (i, js ++ [j])
          | none => none
        | _, _ => none
      | none => none) := by
  refine PE.imp (pe_ix (ix_pl hK hu) ha hb hs) fun σ H Q ⟨fz, F, ρ, am, e, i', js', hp, k⟩ => ?_
  cases hpa : pa ρ with
  | none => simp only [hpa] at hp; cases hp
  | some q =>
    obtain ⟨i, js⟩ := q
    simp only [hpa] at hp
    refine ⟨fz, F, ρ, am, e, i, js, hpa, fun w H' fz' x cu l => ?_⟩
    have l2 := l
    obtain ⟨B, R, d, pm, r, hd, hg, hs, rec⟩ := l2
    rw [hd] at hp
    cases hm : mb ρ with
    | unk => rw [hm] at hp; cases hp
    | ex _ _ => rw [hm] at hp; cases hp
    | ok yd ρ2 =>
      simp only [hm, hg, Option.bind_some] at hp
      cases hj : idxP x yd with
      | none => rw [hj] at hp; cases hp
      | some j =>
        rw [hj] at hp
        cases hp
        refine ⟨fz', F, ρ, cu.amb, cu.env, ?_⟩
        rw [hm]
        intro v H2 fz2 F2 G c2 vd
        obtain ⟨_, vd⟩ := vd
        have l3 := l.keep c2
        cases x with
        | «at» _ => cases hj
        | nd kd m xs =>
          obtain ⟨B', R', d', pm', ⟨b, vs, G', ew, hk, hl, ho⟩, _⟩ := id l3
          have hjl := idxP_get hj hk hl.len
          obtain ⟨a', vs', u, ew', hk', hl', eu, l4⟩ := l3.kid (List.getElem?_eq_getElem hjl)
          refine ⟨fz2, kd, m, xs, a', vs', j, u, yd, ew', hk', hl', ⟨fz2, F2, vd⟩, hj, eu, ?_⟩
          have c3 := cu.trans c2 (fun _ => rfl)
          refine k u H2 fz2 _ ⟨?_, cu.env.fr c2.frN, fun _ => ⟨rfl, (c3.nm rfl).2⟩⟩ l4
          have e3 := c3.drop0.ext
          rw [(c3.nm rfl).1] at e3
          exact e3

/-! ## changes -/
theorem fr_upd {H : Hp} {fz : Fz} {a : Addr} {o : HO} {G : List Addr} (h1 : a ∉ G) (h2 : ¬ fz a) (h3 : Mut (H a)) : Fr H fz (upd H a o) fz G :=
  ⟨fun b u e q => by
    have hne : b ≠ a := by
      rintro rfl
      rcases q with q | q | q
      · exact h1 q
      · exact h2 q
      · exact q (by rw [← e]; exact h3)
    rw [upd_ne hne]; exact e, fun _ h => h⟩
theorem mut_of {H : Hp} {fz : Fz} {k : Kd} {a : Addr} {vs : List V} (h : HK T H fz true k a vs) : Mut (H a) := by
  obtain ⟨h1, h2, o, e, q⟩ := h
  rw [e]
  cases k with
  | tup => exact absurd rfl h1
  | scr => cases h2
  | rng _ _ => cases h2
  | lst => have q : o = .lst vs := q; subst q; exact True.intro
  | dk ks => obtain ⟨_, _, q⟩ := (show _ ∧ _ ∧ _ from q); subst q; exact True.intro
  | dt ks => obtain ⟨_, _, q⟩ := (show _ ∧ _ ∧ _ from q); subst q; exact True.intro
  | obj c fs => obtain ⟨_, _, dx, q⟩ := (show _ ∧ _ ∧ _ from q); subst q; exact True.intro
/-- a change at a place: what the node is, how the change is put through -/
theorem Loc.commit {σ : St} {H H1 : Hp} {fz fz1 : Fz} {F F1 G1 : List Addr} {ρ1 ρs : Env} {i : Nat} {js : List Nat} {k : Kd} {xs : List D} {w : V} {d : D} (c : Cur T σ H fz F false H1 fz1 F1 G1 ρ1) (l : Loc T H1 fz1 F1 ρs σ i js (.nd k true xs) w) :
    ∃ a vs G0, w = .ref a ∧ HK T H1 fz1 true k a vs ∧ RepL T H1 fz1 xs vs G0 ∧ (a :: (G0 ++ G1)).Nodup ∧ ¬ fz1 a ∧ Mut (H1 a) ∧
      ∀ o' x' d d' Bn Gr r rv, ρs[i]? = some (some d) → D.mod (fun _ => some x') js d = some d' → Mut (some o') → Rep T (upd H1 a o') fz1 x' (.ref a) (a :: Bn) → Rep T (upd H1 a o') fz1 r rv Gr → (Bn ++ Gr).Nodup → (∀ b ∈ Bn ++ Gr, b ∈ G0 ∨ b ∈ G1) →
        ∃ F', Cur T σ H fz F false (upd H1 a o') fz1 F' Gr (ρs.set i (some d')) := by
  obtain ⟨B, R, d0, pm, ⟨a, vs, G0, ew, hk, hl, ho⟩, hd, hg, hs, rec⟩ := l
  have ho : B = a :: G0 := ho
  subst ho
  have pm2 : (F1 ++ G1).Perm (a :: (G0 ++ G1) ++ R) := by
    have q1 : (F1 ++ G1).Perm ((a :: G0 ++ R) ++ G1) := pm.append_right G1
    have q2 : ((a :: G0 ++ R) ++ G1).Perm ((a :: G0 ++ G1) ++ R) := by
      rw [List.append_assoc, List.append_assoc]
      exact List.perm_append_comm.append_left _
    exact q1.trans q2
  have am := c.ext.amb.perm pm2
  have nd := am.nd
  have nd1 := (List.nodup_append.mp nd).1
  have hz : ¬ fz1 a := am.sep a (by simp)
  have hm := mut_of hk
  refine ⟨a, vs, G0, ew, hk, hl, nd1, hz, hm, fun o' x' d d' Bn Gr r rv hd' hmod ho' rx rr nb sb => ?_⟩
  rw [hd] at hd'
  cases hd'
  have anR : a ∉ R := fun h => (List.nodup_append.mp nd).2.2 a (by simp) a h rfl
  subst ew
  obtain ⟨F', e1, p1⟩ := rec (by simp) (upd H1 a o') fz1 x' (a :: Bn) d' (fr_upd anR hz hm) rx hmod
  have anB : a ∉ Bn ++ Gr := fun h => by
    have := (List.nodup_cons.mp nd1).1
    rcases sb a h with q | q
    · exact this (List.mem_append_left _ q)
    · exact this (List.mem_append_right _ q)
  have sub : ∀ b ∈ (a :: Bn) ++ Gr, b ∈ a :: (G0 ++ G1) := fun b hb => by
    rcases List.mem_cons.mp hb with rfl | hb
    · exact List.mem_cons_self
    · rcases sb b hb with q | q
      · exact List.mem_cons_of_mem _ (List.mem_append_left _ q)
      · exact List.mem_cons_of_mem _ (List.mem_append_right _ q)
  have ndF : ((a :: Bn) ++ Gr ++ R).Nodup := by
    refine List.nodup_append.mpr ⟨List.nodup_cons.mpr ⟨anB, nb⟩, (List.nodup_append.mp nd).2.1, fun x hx y hy e => ?_⟩
    exact (List.nodup_append.mp nd).2.2 x (sub x hx) y hy e
  have pF : (F' ++ Gr).Perm ((a :: Bn) ++ Gr ++ R) := by
    have q1 : (F' ++ Gr).Perm ((a :: Bn ++ R) ++ Gr) := p1.append_right Gr
    have q2 : ((a :: Bn ++ R) ++ Gr).Perm ((a :: Bn) ++ Gr ++ R) := by
      rw [List.append_assoc, List.append_assoc]
      exact List.perm_append_comm.append_left _
    exact q1.trans q2
  have subF : ∀ b ∈ F' ++ Gr, b ∈ F1 ++ G1 := fun b hb => by
    refine pm2.mem_iff.mpr ?_
    rcases List.mem_append.mp (pF.mem_iff.mp hb) with q | q
    · exact List.mem_append_left _ (sub b q)
    · exact List.mem_append_right _ q
  have mu : ∀ b ∈ F1 ++ G1, Mut (upd H1 a o' b) := fun b hb => by
    by_cases e : b = a
    · subst e; rw [upd_same]; exact ho'
    · rw [upd_ne e]; exact c.ext.amb.mu b hb
  have x : Ext H1 fz1 (F1 ++ G1) (upd H1 a o') fz1 (F' ++ Gr) := {
    keep := fun b o e hb => by
      have : b ≠ a := by
        rintro rfl
        exact hb (pm2.mem_iff.mpr (by simp))
      rw [upd_ne this]; exact e
    fsub := fun _ h => h
    fnew := fun _ h => .inl h
    pnew := fun b hb => .inl (subF b hb)
    dom := fun b hb => by
      by_cases e : b = a
      · subst e; rw [upd_same]; simp
      · rw [upd_ne e]; exact hb
    amb := ⟨pF.nodup_iff.mpr ndF, fun b hb => mu b (subF b hb), fun b hb => c.ext.amb.sep b (subF b hb), fun b hb => by
      by_cases e : b = a
      · subst e; rw [upd_same]; simp
      · rw [upd_ne e]; exact c.ext.amb.there b hb⟩ }
  exact ⟨F', c.ext.trans0 x, e1, fun z => by cases z⟩
theorem RepL.erase {H : Hp} {fz : Fz} : ∀ {xs : List D} {vs : List V} {G : List Addr} {j : Nat} {y : D}, RepL T H fz xs vs G → xs[j]? = some y →
    ∃ u G1 B G2, G = G1 ++ B ++ G2 ∧ vs[j]? = some u ∧ Rep T H fz y u B ∧ RepL T H fz (xs.eraseIdx j) (vs.eraseIdx j) (G1 ++ G2)
  | [], _, _, _, _, _, e => by simp at e
  | x :: xs, _, _, 0, y, h, e => by
    obtain ⟨v, r, F1, F2, e1, e2, h1, h2⟩ := h
    subst e1; subst e2
    have : x = y := by simpa using e
    subst this
    exact ⟨v, [], F1, F2, rfl, rfl, h1, h2⟩
  | x :: xs, _, _, j + 1, y, h, e => by
    obtain ⟨v, r, F1, F2, e1, e2, h1, h2⟩ := h
    subst e1; subst e2
    obtain ⟨u, G1, B, G2, e3, e4, r4, k⟩ := RepL.erase (j := j) h2 (by simpa using e)
    exact ⟨u, F1 ++ G1, B, G2, by rw [e3]; simp, by simpa using e4, r4, v, _, F1, G1 ++ G2, rfl, by simp, h1, k⟩
theorem RepL.tD {H : Hp} {fz : Fz} {xs : List D} {vs : List V} {G : List Addr} (k : Nat) (h : RepL T H fz xs vs G) : ∃ G1 G2, G = G1 ++ G2 ∧ RepL T H fz (xs.take k) (vs.take k) G1 ∧ RepL T H fz (xs.drop k) (vs.drop k) G2 := by
  have e : xs = xs.take k ++ xs.drop k := (List.take_append_drop k xs).symm
  have hl := h.len
  rw [e] at h
  obtain ⟨v1, v2, G1, G2, e1, e2, h1, h2⟩ := RepL.split h
  have l1 := h1.len
  have l2 := h2.len
  have tk : vs.take k = v1 := by
    rw [e1]
    by_cases hk : k ≤ xs.length
    · have : v1.length = k := by rw [← l1, List.length_take]; omega
      rw [List.take_append_of_le_length (by omega), List.take_of_length_le (by omega)]
    · have : (xs.drop k) = [] := List.drop_eq_nil_of_le (by omega)
      rw [this] at l2
      have : v2 = [] := List.eq_nil_of_length_eq_zero l2.symm
      subst this
      rw [List.append_nil, List.take_of_length_le]
      rw [← l1, List.length_take]; omega
  have dk : vs.drop k = v2 := by
    have := List.take_append_drop k vs
    rw [tk] at this
    conv at this => rhs; rw [e1]
    exact List.append_cancel_left this
  rw [tk, dk]
  exact ⟨G1, G2, e2, h1, h2⟩
end

/-! ## lists' methods -/
section
variable {X : Cx} {T : Tab} {W : WX} {C : Calls} {n p : Bool} {pos : Pos}
/-- what such a method asks -/
def rMu (T : Tab) (k : MK) : V → List V → Hp → VK → Prop := fun v vs H Q => ∃ fz a xs ws ds G0 G1 x' r, v = .ref a ∧ H a = some (.lst ws) ∧ RepL T H fz xs ws G0 ∧ RepL T H fz ds vs G1 ∧ (a :: (G0 ++ G1)).Nodup ∧ ¬ fz a ∧ mutD k ds (.nd .lst true xs) = some (x', r) ∧
  ∀ o' Bn Gr rv, Mut (some o') → Rep T (upd H a o') fz x' (.ref a) (a :: Bn) → Rep T (upd H a o') fz r rv Gr → (Bn ++ Gr).Nodup → (∀ b ∈ Bn ++ Gr, b ∈ G0 ∨ b ∈ G1) → Q rv (upd H a o')
def muI : MK → String
  | .append => "list.append" | .extend => "list.extend" | .insert => "list.insert" | .pop => "list.pop" | .update => "list.append"
theorem mt_mu (k : MK) : MtR X (muI k) (rMu T k) := by
  intro pins s σ H v vs u us Q I rx rxs h
  obtain ⟨fz, a, xs, ws, ds, G0, G1, x', r, rfl, ha, r0, r1, nd, hz, e, g⟩ := h
  obtain ⟨na, nd⟩ := List.nodup_cons.mp nd
  have hm : Mut (H a) := by rw [ha]; exact True.intro
  have fr0 : ∀ {ys : List V}, Fr H fz (upd H a (.lst ys)) fz G0 := fr_upd (fun h => na (List.mem_append_left _ h)) hz hm
  have fr1 : ∀ {ys : List V}, Fr H fz (upd H a (.lst ys)) fz G1 := fr_upd (fun h => na (List.mem_append_right _ h)) hz hm
  have hl := r0.len
  unfold mutD at e
  split at e
  · rename_i y zs h0
    cases h0
    obtain ⟨w, wr, A1, A2, e1, e2, h1, h2⟩ := r1
    obtain ⟨rfl, rfl⟩ := h2
    subst e1; subst e2
    split at e
    · rename_i hc
      cases e
      refine mt_append pins s σ H _ _ u us Q I rx rxs ⟨a, ws, w, rfl, rfl, ha, by rw [← hl]; exact of_decide_eq_true hc, ?_⟩
      refine g (.lst (ws ++ [w])) (G0 ++ A1) [] .non True.intro (rep_lst upd_same ?_) ⟨rfl, rfl⟩ (by simpa using nd) (by simp)
      refine RepL.append (r0.fr fr0) ⟨w, [], A1, [], rfl, by simp, h1.fr (fr1.mono (by simp)), rfl, rfl⟩
    · cases e
  · rename_i m ys zs h0
    cases h0
    obtain ⟨w, wr, A1, A2, e1, e2, h1, h2⟩ := r1
    obtain ⟨rfl, rfl⟩ := h2
    subst e1; subst e2
    split at e
    · rename_i hc
      cases e
      rw [Bool.and_eq_true] at hc
      obtain ⟨b, vs2, G2, e3, hb, hl2, _⟩ := h1.lst
      subst e3
      have c2 := hl2.cl hc.2
      refine mt_extend pins s σ H _ _ u us Q I rx rxs ⟨a, b, ws, vs2, rfl, rfl, ha, hb, by rw [← hl, ← c2.len]; exact lineB_ok hc.1, ?_⟩
      refine g (.lst (ws ++ vs2)) G0 [] .non True.intro (rep_lst upd_same ?_) ⟨rfl, rfl⟩ (by simpa using (List.nodup_append.mp nd).1) (by simp; exact fun b hb => .inl hb)
      have := RepL.append (H := upd H a (.lst (ws ++ vs2))) (r0.fr fr0) (c2.fr (fr1.mono (by simp)))
      simpa using this
    · cases e
  · rename_i zs h0
    cases h0
    obtain ⟨rfl, rfl⟩ := r1
    split at e
    · rename_i y hy
      cases e
      have hlt : xs.length - 1 < xs.length := (List.getElem?_eq_some_iff.mp hy).1
      obtain ⟨w, A, B, C2, e1, e2, h1, h2⟩ := r0.erase hy
      have hdx : xs.eraseIdx (xs.length - 1) = xs.dropLast := by
        rw [List.eraseIdx_eq_take_drop_succ, List.dropLast_eq_take, show xs.length - 1 + 1 = xs.length by omega, List.drop_length, List.append_nil]
      have hdw : ws.eraseIdx (xs.length - 1) = ws.dropLast := by
        rw [List.eraseIdx_eq_take_drop_succ, List.dropLast_eq_take, show xs.length - 1 + 1 = ws.length by omega, List.drop_length, List.append_nil, hl]
      rw [hdx, hdw] at h2
      subst e1
      refine mt_pop pins s σ H _ _ u us Q I rx rxs ⟨a, ws, w, rfl, rfl, ha, by rw [← hl]; exact e2, ?_⟩
      rw [List.append_nil] at nd
      refine g (.lst ws.dropLast) (A ++ C2) B w True.intro (rep_lst upd_same (h2.fr (fr0.mono fun b hb => ?_))) (h1.fr (fr0.mono fun b hb => by simp [hb])) ?_ fun b hb => ?_
      · simp only [List.mem_append] at hb ⊢
        rcases hb with hb | hb <;> simp [hb]
      · have q : (A ++ B ++ C2).Perm (A ++ C2 ++ B) := by
          rw [List.append_assoc, List.append_assoc]
          exact List.perm_append_comm.append_left A
        exact q.nodup_iff.mp nd
      · simp only [List.mem_append] at hb ⊢
        rcases hb with (hb | hb) | hb <;> simp [hb]
    · cases e
  · rename_i ii zs h0
    cases h0
    obtain ⟨w0, wr, A1, A2, e1, e2, h1, h2⟩ := r1
    obtain ⟨rfl, rfl⟩ := h2
    obtain ⟨rfl, rfl⟩ := h1
    subst e1; subst e2
    split at e
    · rename_i hc
      rw [Bool.and_eq_true, decide_eq_true_eq, decide_eq_true_eq] at hc
      split at e
      · rename_i kk hkk
        split at e
        · rename_i y hy
          cases e
          obtain ⟨w, A, B, C2, e1, e2, h1, h2⟩ := r0.erase hy
          subst e1
          refine mt_popAt pins s σ H _ _ u us Q I rx rxs ⟨a, ws, ii, kk, w, rfl, rfl, ha, hc.1, hc.2, by rw [← hl]; exact (ixN_seq hkk).1, e2, ?_⟩
          rw [List.append_nil, List.append_nil] at nd
          refine g (.lst (ws.eraseIdx kk)) (A ++ C2) B w True.intro (rep_lst upd_same (h2.fr (fr0.mono fun b hb => ?_))) (h1.fr (fr0.mono fun b hb => by simp [hb])) ?_ fun b hb => ?_
          · simp only [List.mem_append] at hb ⊢
            rcases hb with hb | hb <;> simp [hb]
          · have q : (A ++ B ++ C2).Perm (A ++ C2 ++ B) := by
              rw [List.append_assoc, List.append_assoc]
              exact List.perm_append_comm.append_left A
            exact q.nodup_iff.mp nd
          · simp only [List.mem_append] at hb ⊢
            rcases hb with (hb | hb) | hb <;> simp [hb]
        · cases e
      · cases e
    · cases e
  · rename_i ii y zs h0
    cases h0
    obtain ⟨w0, wr, A1, A2, e1, e2, h1, h2⟩ := r1
    obtain ⟨w, wr2, A3, A4, e3, e4, h3, h4⟩ := h2
    obtain ⟨rfl, rfl⟩ := h4
    obtain ⟨rfl, rfl⟩ := h1
    subst e3; subst e1; subst e4; subst e2
    split at e
    · rename_i hc
      simp only [Bool.and_eq_true, decide_eq_true_eq] at hc
      cases e
      obtain ⟨hc1, hc2, hc3⟩ := hc
      obtain ⟨g1, g2, eg, t1, t2⟩ := r0.tD ii.toNat
      subst eg
      have hs := sizeLine_eq
      refine mt_insert pins s σ H _ _ u us Q I rx rxs ⟨a, ws, ii, w, rfl, rfl, ha, by rw [← hl]; exact hc1, hc2, by omega, ?_⟩
      refine g (.lst (ws.take ii.toNat ++ [w] ++ ws.drop ii.toNat)) (g1 ++ A3 ++ g2) [] .non True.intro (rep_lst upd_same ?_) ⟨rfl, rfl⟩ ?_ fun b hb => ?_
      · have q1 : RepL T (upd H a (.lst (ws.take ii.toNat ++ [w] ++ ws.drop ii.toNat))) fz [y] [w] A3 := ⟨w, [], A3, [], rfl, by simp, h3.fr (fr1.mono (by simp)), rfl, rfl⟩
        have := RepL.append (H := upd H a (.lst (ws.take ii.toNat ++ [w] ++ ws.drop ii.toNat))) (RepL.append (t1.fr (fr0.mono (by simp; exact fun b hb => .inl hb))) q1) (t2.fr (fr0.mono (by simp; exact fun b hb => .inr hb)))
        simpa using this
      · rw [List.append_nil]
        have q : (g1 ++ A3 ++ g2).Perm (g1 ++ g2 ++ ([] ++ (A3 ++ []))) := by
          rw [List.append_assoc, List.append_assoc, List.nil_append, List.append_nil]
          exact List.perm_append_comm.append_left g1
        exact q.nodup_iff.mpr nd
      · simp only [List.mem_append, List.append_nil, List.nil_append] at hb ⊢
        rcases hb with (hb | hb) | hb <;> simp [hb]
    · cases e
  · cases e
end
end Ev

set_option Elab.async false
set_option linter.all false
set_option maxRecDepth 100000
set_option maxHeartbeats 4000000
namespace Ev
open PySem PySem.Spec L2

section
variable {X : Cx} {T : Tab} {W : WX} {C : Calls} {n p : Bool} {pos : Pos}
def mutE (k : MK) (pa : Env → Option (Nat × List Nat)) (me : M (List D)) (nl : Bool) : M D := fun ρ => match pa ρ with
    | some (i, js) => M.chk (lstAt ρ i js) (M.bind me (fun ds ρ1 => match js with
      | [] => mutM k i [] ds ρ1
      | _ :: _ => M.chk nl (fun _ => mutM k i js ds ρ) ρ1)) ρ
    | none => .unk
theorem mutD_lst {k : MK} {ds : List D} {d x' r : D} (h : mutD k ds d = some (x', r)) : ∃ xs, d = .nd .lst true xs := by
  unfold mutD at h
  split at h <;> first | exact ⟨_, rfl⟩ | cases h
theorem mutM_core {σ : St} {H H1 : Hp} {fz fz1 : Fz} {F F1 G1 : List Addr} {ρ1 ρs : Env} {Q : VK} {k : MK} {i : Nat} {js : List Nat} {ds : List D} {vs : List V} {x : D} {w : V} (c : Cur T σ H fz F false H1 fz1 F1 G1 ρ1) (l : Loc T H1 fz1 F1 ρs σ i js x w) (r1 : RepL T H1 fz1 ds vs G1)
    (h : Out T W σ H fz F false false (mutM k i js ds ρs) Q) : rMu T k w vs H1 Q := by
  unfold mutM at h
  have l2 := l
  obtain ⟨B, R, d, pm, r, hd, hg, hs, rec⟩ := l2
  simp only [hd, hg] at h
  cases hm : mutD k ds x with
  | none => rw [hm] at h; exact h.elim
  | some q =>
    obtain ⟨x', rr⟩ := q
    simp only [hm] at h
    cases hmod : D.mod (fun _ => some x') js d with
    | none => rw [hmod] at h; exact h.elim
    | some d' =>
      simp only [hmod] at h
      obtain ⟨xs, rfl⟩ := mutD_lst hm
      obtain ⟨a, vs0, G0, ew, hk, hl, nd, hz, hmu, k2⟩ := Loc.commit (d := d) c l
      refine ⟨fz1, a, xs, vs0, ds, G0, G1, x', rr, ew, lst_of hk, hl, r1, nd, hz, hm, fun o' Bn Gr rv ho rx rr' nb sb => ?_⟩
      obtain ⟨F', cu⟩ := k2 o' x' d d' Bn Gr rr rv hd hmod ho rx rr' nb sb
      exact h rv _ fz1 F' Gr cu rr'
theorem mut_core {σ : St} {H : Hp} {Q : VK} {k : MK} {pa : Env → Option (Nat × List Nat)} {me : M (List D)} {nl : Bool} (h : Tm T W false false (mutE k pa me nl) σ H Q) :
    TmP T pa σ H fun v H1 => tyV X.K "list" v H1 ∧ TmL T W false nl me σ H1 fun vs H2 => rMu T k v vs H2 Q := by
  obtain ⟨fz, F, ρ, c, h⟩ := h.start
  unfold mutE at h
  cases hp : pa ρ with
  | none => rw [hp] at h; exact h.elim
  | some q =>
    obtain ⟨i, js⟩ := q
    simp only [hp] at h
    obtain ⟨hl, h⟩ := h.chk
    refine ⟨fz, F, ρ, c.amb, c.env, i, js, hp, fun w H1 fz1 x cu l => ?_⟩
    have l2 := l
    obtain ⟨B, R, d, pm, r, hd, hg, hs, rec⟩ := l2
    have ty : tyV X.K "list" w H1 := by
      unfold lstAt at hl
      simp only [hd, hg] at hl
      cases x with
      | «at» _ => cases hl
      | nd kd m xs =>
        cases kd with
        | lst =>
          obtain ⟨a, vs, G1, e, ha, _⟩ := r.lst
          subst e
          exact .inl ⟨rfl, _, .inl (.inl ha)⟩
        | _ => cases hl
    refine ⟨ty, ?_⟩
    have cw : Cur T σ H fz F false H1 fz1 F [] ρ := cu.weak (fun z => by cases z)
    refine (Out.bindL (pb := false) (nb := nl) cw (fun z => by cases z) h).mono ?_
    rintro vs H2 ⟨fz2, F2, G2, ds, ρ2, c2, v2, _, h2⟩
    have c02 : Cur T σ H fz F false H2 fz2 F2 G2 ρ2 := by simpa using cw.trans c2 (fun z => by cases z)
    cases js with
    | nil =>
      have h2 : Out T W σ H fz F false false (mutM k i [] ds ρ2) Q := h2
      have h3 := h2
      unfold mutM at h3
      cases hd2 : ρ2[i]? with
      | none => simp only [hd2] at h3; exact h3.elim
      | some o =>
        cases o with
        | none => simp only [hd2] at h3; exact h3.elim
        | some d2 =>
          obtain ⟨w2, e2, l3⟩ := Loc.var c2.env hd2
          rw [hs rfl] at e2
          cases e2
          exact mutM_core c02 l3 v2 h2
    | cons j js =>
      obtain ⟨hnl, h2⟩ := Out.chk (m := fun _ => mutM k i (j :: js) ds ρ) h2
      subst hnl
      have l3 := l.keep c2
      rw [← (c2.nm rfl).1] at l3
      exact mutM_core c02 l3 v2 h2
def muN : MK → Str
  | .append => "append" | .extend => "extend" | .insert => "insert" | .pop => "pop" | .update => "append"
theorem pe_mutE {a e1 : Expr} {es : List Expr} {k : MK} {pa : Env → Option (Nat × List Nat)} {me : M (List D)} {nl : Bool} {apos : Pos} (ha : PE X a (TmP T pa)) (hl : PA X (e1 :: es) (TmL T W false nl me))
    (hbase : attributeBase a (muN k) X.env (eval a X.env) = eval a X.env)
    (hfew : ((backTo pos (starEach (e1 :: es) X.env)).all (fun x => !x.1) && (backToKw pos (keywordEach [] X.env)).all (fun x => x.1.isSome)
      && decide ((e1 :: es).length + ([] : List Keyword).length + (if ([] : List Keyword).isEmpty then 0 else 1) < 30)) = true)
    (hline : (apos.endLine == pos.line) = true) (hs : starEach (e1 :: es) X.env = (false, eval e1 X.env) :: starEach es X.env) (hplain : (backTo pos (starEach es X.env)).any (·.1) = false) :
    PE X (.Call (.Attribute a (muN k) apos) (e1 :: es) [] pos) (Tm T W p false (fin p (mutE k pa me nl))) := by
  have main : PE X (.Call (.Attribute a (muN k) apos) (e1 :: es) [] pos) (tBM X.K "list" (rMu T k) (TmP T pa) (TmL T W false nl me)) := by
    cases k with
    | append => exact pe_bm PySem.F.plainAttrs_list PySem.F.slot_list_append PySem.F.type_list_append (mt_mu .append) ha hl hbase hfew hline hs hplain
    | extend => exact pe_bm PySem.F.plainAttrs_list PySem.F.slot_list_extend PySem.F.type_list_extend (mt_mu .extend) ha hl hbase hfew hline hs hplain
    | insert => exact pe_bm PySem.F.plainAttrs_list PySem.F.slot_list_insert PySem.F.type_list_insert (mt_mu .insert) ha hl hbase hfew hline hs hplain
    | pop => exact pe_bm PySem.F.plainAttrs_list PySem.F.slot_list_pop PySem.F.type_list_pop (mt_mu .pop) ha hl hbase hfew hline hs hplain
    | update => exact pe_bm PySem.F.plainAttrs_list PySem.F.slot_list_append PySem.F.type_list_append (mt_mu .update) ha hl hbase hfew hline hs hplain
  exact PE.fin (PE.imp main fun σ H Q w => mut_core w)
theorem pe_mutE0 {a : Expr} {pa : Env → Option (Nat × List Nat)} {nl : Bool} {apos : Pos} (ha : PE X a (TmP T pa))
    (hbase : attributeBase a "pop" X.env (eval a X.env) = eval a X.env) (hline : (apos.endLine == pos.line) = true) :
    PE X (.Call (.Attribute a "pop" apos) [] [] pos) (Tm T W p false (fin p (mutE .pop pa (M.pure []) nl))) := by
  have main := pe_bm0 (cpos := pos) PySem.F.plainAttrs_list PySem.F.slot_list_pop PySem.F.type_list_pop (mt_mu (X := X) (T := T) .pop) ha hbase hline
  refine PE.fin (PE.imp main fun σ H Q w => ?_)
  have h := mut_core (X := X) w
  obtain ⟨fz, F, ρ, a, e, i, js, hp, k⟩ := h
  refine ⟨fz, F, ρ, a, e, i, js, hp, fun w H' fz' x cu l => ?_⟩
  obtain ⟨ty, q⟩ := k w H' fz' x cu l
  refine ⟨ty, ?_⟩
  obtain ⟨fz2, F2, ρ2, c2, q⟩ := q.start
  exact q [] H' fz2 F2 [] c2 ⟨rfl, rfl⟩
end
end Ev

set_option Elab.async false
set_option linter.all false
set_option maxRecDepth 100000
set_option maxHeartbeats 4000000
/-! d.update(l) of a list of pairs -/
namespace Ev
open PySem PySem.Spec L2 PyProof.Rows
section
variable {prog : Program} {w : World} {A : Around} {E : Value → Shared → Prop}
theorem call_upd {s : Shared} {S l : Addr} {ol : Obj} {items : Array Value} {n : Nat} {acc prs : List (Key × Value)} {Q : Value → Shared → Prop} (hh : A.handled = none) (hm : s.heap.DictOf (mixKind prog w) S acc) (hl : s.heap.get? l = some ol) (hc : ol.cls = .type "list") (hd : ol.dict = none)
    (hdat : ol.data = .seq items n) (hSl : S ≠ l) (hsz : items.size = prs.length) (hln : acc.length + prs.length ≤ sizeLine)
    (ht : ∀ (j : Nat) (q : Key × Value), prs[j]? = some q → ∃ (b : Addr) (u : Value), items[j]? = some (.ref b) ∧ b ≠ S ∧ IsTup s.heap b #[u, q.2] ∧ keyIs q.1 u = true)
    (h : ∀ h' tk, h'.DictOf (mixKind prog w) S (merged acc prs) → (∀ b o, b ≠ S → s.heap.get? b = some o → h'.get? b = some o) → Q .none { s with heap := h', toks := tk }) :
    wpAny (model prog w) A (call (.builtin "dict.update") [.ref S, .ref l]) Q E s := by
  have hS0 : S < s.heap.objs.size := by
    obtain ⟨o, ho, _⟩ := hm.typeIs
    exact Heap.lt_size ho
  refine wpAny_call (codeAny_call_builtin PySem.F.slot_dict_update.plain PySem.F.entry_dict_update (PySem.F.slot_dict_update.check _ _ _ _ _ _ _ _ hm.typeIs (PySem.F.args_dict_update_2 _ _) ?_))
  unfold Builtin.«dict.update»
  refine wpAny_bind ?_
  unfold Builtin.Dict.selfAndRest
  refine wpAny_bind (wpAny_notOrdered_dict hm.typeIs ?_)
  show wpAny _ _ (pure (S, [Value.ref l])) _ _ _
  refine wpAny_pure ?_
  show wpAny _ _ (Builtin.Dict.updateFrom "dict.update" S (.ref l) [] .none) _ _ _
  unfold Builtin.Dict.updateFrom
  refine wpAny_bind (wpAny_typeOf (T := "list") ⟨ol, hl, hc⟩ ?_)
  rw [if_pos (by first | decide | rfl | simp)]
  refine wpAny_bind (miss_list hl hc hdat hd hh fun h1 tk1 hk1 => ?_)
  rw [if_pos (show (none : Option Value).isNone = true from rfl)]
  refine wpAny_bind (wpAny_rule ?_)
  have hl1 : h1.IsList l items := ⟨ol, hk1 _ _ hl, hc, n, hdat⟩
  have hS1 : S < h1.objs.size := by
    obtain ⟨o, ho, _⟩ := hm.typeIs
    exact Heap.lt_size (hk1 _ _ ho)
  refine wpAny_bind (wpAny_pyIter_list hl1 ?_)
  have k2 : ∀ b o, h1.get? b = some o → (h1.push { cls := .type "list_iterator", data := .fields #[.ref l, .int 0 0] }).get? b = some o := fun b o e => Heap.get?_push_of_some _ e
  have hlt : l < h1.objs.size := Heap.lt_size (hk1 _ _ hl)
  have key := upd_loop (prog := prog) (w := w) (A := A) (R := wants Q E) (S := S) (I := h1.objs.size) (l := l) (items := items) (res := Value.none) hh
    (Nat.ne_of_lt hlt) (Nat.ne_of_lt hS1) hSl prs 0 acc 0 0
    { s with heap := h1.push { cls := .type "list_iterator", data := .fields #[.ref l, .int 0 0] }, toks := tk1 } (by rw [hsz, Nat.zero_add]) hln
    (fun j q e => by
      obtain ⟨b, u, e1, e2, e3, e4⟩ := ht j q e
      have hb : b < h1.objs.size := by
        obtain ⟨o, ho, _⟩ := id e3
        exact Heap.lt_size (hk1 _ _ ho)
      exact ⟨b, u, by rw [Nat.zero_add]; exact e1, e2, Nat.ne_of_lt hb, e3.keeps fun c o z => k2 _ _ (hk1 _ _ z), e4⟩)
    ⟨_, Heap.get?_push_size _ rfl, rfl, rfl⟩ (hl1.at fun o e => k2 _ _ e) ((hm.at fun o e => hk1 _ _ e).at fun o e => k2 _ _ e)
    (fun h' tk hd' k => h h' tk hd' fun b o hb e => k b o hb (Nat.ne_of_lt (Heap.lt_size (hk1 _ _ e))) (k2 _ _ (hk1 _ _ e)))
  first
    | exact wpAny_pure ⟨plainId_quiet ud_plain _, key⟩
    | exact wpAny_bind (wpAny_pure (wpAny_pure ⟨plainId_quiet ud_plain _, key⟩))
end
section
variable {X : Cx}
/-- .. by values -/
def rUp (K : PySem.W.Frag) : V → List V → Hp → VK → Prop := fun x xs H Q => ∃ (S a : Addr) (ps : List Addr) (kvs0 kvs : List (Key × V)), x = .ref S ∧ xs = [.ref a] ∧ H S = some (.dK kvs0) ∧ SqL K H a (ps.map V.ref) ∧ Paired (fun p kv => SqT K H p [kV kv.1, kv.2]) ps kvs ∧ S ≠ a ∧ (∀ p ∈ ps, p ≠ S) ∧ kvs0.length + kvs.length ≤ sizeLine ∧
  Q .non (upd H S (.dK (mergeK kvs0 kvs)))
theorem mt_upd (hcalm : X.calm = true) : MtR X "dict.update" (rUp X.K) := by
  intro pins s σ H x xs v us Q I rx rxs h
  obtain ⟨S, a, ps, kvs0, kvs, rfl, rfl, hS, hq, hp, hne, hps, hln, q⟩ := h
  cases rx
  obtain ⟨u, rfl, ru⟩ := vals1 rxs
  cases ru
  obtain ⟨its, rv, pl, hz⟩ := I.list hq
  have ei := refs_at rv
  subst ei
  rw [List.length_map] at hz
  obtain ⟨prs, rel, hl, hpr⟩ := pairs_of I hp
  obtain ⟨o, n, ho, hc, hd, hdat⟩ := pl
  obtain ⟨z, hd0, vs0, r0, dd⟩ := L2.dk_of I.hok hS
  have l1 := rel.length
  have l0 := r0.length
  refine call_upd (prs := prs) (acc := vs0) (I.ok.hd hcalm) dd ho hc hd hdat hne (by simp [hl]) (by rw [← l0, ← l1]; exact hln) (fun j q' e => ?_) fun h' tk hd' k => ?_
  · obtain ⟨b, u, e1, e2, e3⟩ := hpr j q' e
    exact ⟨b, u, by simp [e1], hps b (List.mem_of_getElem? e1), e2, e3⟩
  · have hlen : (mergeK kvs0 kvs).length ≤ sizeLine := Nat.le_trans (length_mergeK kvs kvs0) hln
    have he : ∃ q, h'.get? S = some q := let ⟨q, _, _, hq, _⟩ := hd'; ⟨q, hq⟩
    refine ⟨.non, _, ?_, rfl, q⟩
    exact I.write (x := S) (e := S) (by rw [hS]; exact True.intro) (.inl rfl) (fun b o hb e => k b o hb e) he (dk_new hlen hd0 (KV.merge rel r0) hd')
end
end Ev

set_option Elab.async false
set_option linter.all false
set_option maxRecDepth 100000
set_option maxHeartbeats 4000000
namespace Ev
open PySem PySem.Spec L2

/-! ## slots forgotten and put back -/
section
variable {T : Tab} {W : WX} {σ : St} {H H1 H2 H' : Hp} {fz fz1 fz2 fz' : Fz} {F F1 F2 G G1 G2 : List Addr} {n p : Bool} {ρ ρ1 ρ2 : Env}
/-- a slot is forgotten -/
theorem EnvR.unset : ∀ {ρ : Env} {σ : St} {F : List Addr} (i : Nat) (o : Option V), EnvR T H fz ρ σ F → ∃ F' B, F.Perm (F' ++ B) ∧ EnvR T H fz (ρ.set i none) (σ.set i o) F'
  | [], σ, F, i, o, h => by
    obtain ⟨rfl, rfl⟩ := h
    exact ⟨[], [], by simp, rfl, rfl⟩
  | none :: ρ, σ, F, 0, o, h => by
    obtain ⟨o1, r, e1, h⟩ := h
    subst e1
    exact ⟨F, [], by simp, o, r, rfl, h⟩
  | some d :: ρ, σ, F, 0, o, h => by
    obtain ⟨v, r, F1, F2, e1, e2, h1, h2⟩ := h
    subst e1; subst e2
    exact ⟨F2, F1, List.perm_append_comm, o, r, rfl, h2⟩
  | none :: ρ, σ, F, i + 1, o, h => by
    obtain ⟨o1, r, e1, h⟩ := h
    subst e1
    obtain ⟨F', B, p, h'⟩ := EnvR.unset i o h
    exact ⟨F', B, p, o1, _, rfl, h'⟩
  | some d :: ρ, σ, F, i + 1, o, h => by
    obtain ⟨v, r, F1, F2, e1, e2, h1, h2⟩ := h
    subst e1; subst e2
    obtain ⟨F', B, p, h'⟩ := EnvR.unset i o h2
    exact ⟨F1 ++ F', B, by rw [List.append_assoc]; exact p.append_left F1, v, _, F1, F', rfl, rfl, h1, h'⟩
theorem EnvR.putP {i : Nat} {d : D} {v : V} (h : EnvR T H fz ρ σ F) (hi : i < ρ.length) (r : Rep T H fz d v G) : ∃ F' B, F.Perm (F' ++ B) ∧ ∃ F'', EnvR T H fz (ρ.set i (some d)) (σ.set i (some v)) F'' ∧ F''.Perm (F' ++ G) := by
  obtain ⟨A, B, C, e, h'⟩ := h.put hi r
  refine ⟨A ++ C, B, ?_, _, h', ?_⟩
  · rw [e, List.append_assoc, List.append_assoc]; exact List.perm_append_comm.append_left A
  · rw [List.append_assoc, List.append_assoc]; exact List.perm_append_comm.append_left A
/-- several slots are forgotten; they can be put back -/
theorem EnvR.wipe : ∀ (vs : List Nat) {ρ : Env} {σ : St} {F : List Addr}, vs.Nodup → EnvR T H fz ρ σ F → ∃ Fv F0, F.Perm (Fv ++ F0) ∧ EnvR T H fz (wipeE ρ vs) (L2.wipe σ vs) F0 ∧
    ∀ H' fz' ρ' F2, Fr H fz H' fz' Fv → EnvR T H' fz' ρ' (L2.wipe σ vs) F2 → ∃ F3, EnvR T H' fz' (backE ρ ρ' vs) σ F3 ∧ (∀ a ∈ F3, a ∈ Fv ++ F2) ∧ ((Fv ++ F2).Nodup → F3.Nodup)
  | [], ρ, σ, F, _, h => ⟨[], F, by simp, h, fun H' fz' ρ' F2 _ h' => ⟨F2, h', by simp, by simp⟩⟩
  | v :: vs, ρ, σ, F, nd, h => by
    obtain ⟨hv, nd⟩ := List.nodup_cons.mp nd
    obtain ⟨Fv, F0, p, h0, k⟩ := EnvR.wipe vs nd h
    have wl : ∀ {vs : List Nat} {ρ : Env}, (wipeE ρ vs).length = ρ.length := by
      intro vs
      induction vs with
      | nil => intro ρ; rfl
      | cons w ws ih => intro ρ; show ((wipeE ρ ws).set w none).length = _; rw [List.length_set, ih]
    have wo : ∀ {vs : List Nat} {ρ : Env}, v ∉ vs → (wipeE ρ vs)[v]? = ρ[v]? := by
      intro vs
      induction vs with
      | nil => intro ρ _; rfl
      | cons w ws ih =>
        intro ρ hn
        show ((wipeE ρ ws).set w none)[v]? = _
        rw [List.getElem?_set_ne (fun z => hn (by rw [z]; exact List.mem_cons_self)), ih fun z => hn (List.mem_cons_of_mem _ z)]
    have bs : ∀ {vs : List Nat} {ρ ρ' : Env} {x : Option D}, v ∉ vs → backE ρ (ρ'.set v x) vs = (backE ρ ρ' vs).set v x := by
      intro vs
      induction vs with
      | nil => intro ρ ρ' x _; rfl
      | cons w ws ih =>
        intro ρ ρ' x hn
        show (backE ρ (ρ'.set v x) ws).set w _ = ((backE ρ ρ' ws).set w _).set v x
        rw [ih fun z => hn (List.mem_cons_of_mem _ z), List.set_comm _ _ (fun z => hn (by rw [z]; exact List.mem_cons_self))]
    have so : (L2.wipe σ vs)[v]? = σ[v]? := L2.wipe_out hv
    show ∃ Fv' F0', F.Perm (Fv' ++ F0') ∧ EnvR T H fz ((wipeE ρ vs).set v none) ((L2.wipe σ vs).set v none) F0' ∧ _
    cases hd : ρ[v]? with
    | none =>
      have hlen : ρ.length ≤ v := List.getElem?_eq_none_iff.mp hd
      have e1 : (wipeE ρ vs).set v none = wipeE ρ vs := List.set_eq_of_length_le (by rw [wl]; exact hlen)
      have e2 : (L2.wipe σ vs).set v none = L2.wipe σ vs := List.set_eq_of_length_le (by rw [L2.wipe_length, ← h.len]; exact hlen)
      refine ⟨Fv, F0, p, by rw [e1, e2]; exact h0, fun H' fz' ρ' F2 f h' => ?_⟩
      have h' : EnvR T H' fz' ρ' ((L2.wipe σ vs).set v none) F2 := h'
      rw [e2] at h'
      obtain ⟨F3, h3, s3, n3⟩ := k H' fz' ρ' F2 f h'
      refine ⟨F3, ?_, s3, n3⟩
      show EnvR T H' fz' ((backE ρ ρ' vs).set v (ρ.getD v none)) σ F3
      rw [List.set_eq_of_length_le]
      · exact h3
      · rw [h3.len, ← h.len]; exact hlen
    | some o =>
      cases o with
      | none =>
        obtain ⟨F0', B, p0, h1⟩ := EnvR.unset v none h0
        refine ⟨Fv ++ B, F0', ?_, h1, fun H' fz' ρ' F2 f h' => ?_⟩
        · have q : (Fv ++ F0).Perm (Fv ++ (F0' ++ B)) := p0.append_left Fv
          refine p.trans (q.trans ?_)
          rw [List.append_assoc]
          exact List.perm_append_comm.append_left Fv
        · obtain ⟨F2', B2, p2, h2⟩ := EnvR.unset v (L2.wipe σ vs)[v]?.join h'
          have e2 : ((L2.wipe σ vs).set v none).set v ((L2.wipe σ vs)[v]?.join) = L2.wipe σ vs := by
            rw [List.set_set]
            by_cases hlt : v < (L2.wipe σ vs).length
            · rw [List.getElem?_eq_getElem hlt]
              show (L2.wipe σ vs).set v ((L2.wipe σ vs)[v]) = _
              exact List.set_getElem_self hlt
            · exact List.set_eq_of_length_le (by omega)
          have h2 : EnvR T H' fz' (ρ'.set v none) (((L2.wipe σ vs).set v none).set v ((L2.wipe σ vs)[v]?.join)) F2' := h2
          rw [e2] at h2
          obtain ⟨F3, h3, s3, n3⟩ := k H' fz' _ F2' (f.mono fun a ha => List.mem_append_left _ ha) h2
          refine ⟨F3, ?_, fun a ha => ?_, fun nd3 => n3 ?_⟩
          · show EnvR T H' fz' ((backE ρ ρ' vs).set v (ρ.getD v none)) σ F3
            rw [bs hv] at h3
            have : ρ.getD v none = none := by rw [List.getD_eq_getElem?_getD, hd]; rfl
            rw [this]; exact h3
          · rcases List.mem_append.mp (s3 a ha) with q | q
            · exact List.mem_append_left _ (List.mem_append_left _ q)
            · exact List.mem_append_right _ (p2.mem_iff.mpr (List.mem_append_left _ q))
          · have q : (Fv ++ B ++ F2).Perm (Fv ++ F2' ++ (B ++ B2)) := by
              have q1 : (Fv ++ B ++ F2).Perm (Fv ++ B ++ (F2' ++ B2)) := p2.append_left _
              refine q1.trans ?_
              rw [List.append_assoc, List.append_assoc]
              refine List.Perm.append_left Fv ?_
              rw [← List.append_assoc, ← List.append_assoc]
              exact List.perm_append_comm.append_right B2
            exact (List.nodup_append.mp (q.nodup_iff.mp nd3)).1
      | some d =>
        obtain ⟨w, A, B, C, e1, e2, r, k2⟩ := EnvR.split h0 (show (wipeE ρ vs)[v]? = some (some d) by rw [wo hv]; exact hd)
        have h1 := (k2 H fz Fr.refl).2 none
        refine ⟨Fv ++ B, A ++ C, ?_, h1, fun H' fz' ρ' F2 f h' => ?_⟩
        · refine p.trans ?_
          rw [e1, List.append_assoc Fv B]
          refine List.Perm.append_left Fv ?_
          rw [List.append_assoc]
          exact List.perm_append_comm_assoc A B C
        · have hlt : v < ρ'.length := by
            rw [h'.len]
            show v < ((L2.wipe σ vs).set v none).length
            rw [List.length_set]
            exact (List.getElem?_eq_some_iff.mp e2).1
          obtain ⟨F2', B2, p2, F4, h4, p4⟩ := EnvR.putP h' hlt (r.fr (f.mono fun a ha => List.mem_append_right _ ha))
          have h4 : EnvR T H' fz' (ρ'.set v (some d)) (((L2.wipe σ vs).set v none).set v (some w)) F4 := h4
          rw [List.set_set, set_self e2] at h4
          obtain ⟨F3, h3, s3, n3⟩ := k H' fz' _ F4 (f.mono fun a ha => List.mem_append_left _ ha) h4
          refine ⟨F3, ?_, fun a ha => ?_, fun nd3 => n3 ?_⟩
          · show EnvR T H' fz' ((backE ρ ρ' vs).set v (ρ.getD v none)) σ F3
            rw [bs hv] at h3
            have : ρ.getD v none = some d := by rw [List.getD_eq_getElem?_getD, hd]; rfl
            rw [this]; exact h3
          · rcases List.mem_append.mp (s3 a ha) with q | q
            · exact List.mem_append_left _ (List.mem_append_left _ q)
            · rcases List.mem_append.mp (p4.mem_iff.mp q) with q | q
              · exact List.mem_append_right _ (p2.mem_iff.mpr (List.mem_append_left _ q))
              · exact List.mem_append_left _ (List.mem_append_right _ q)
          · have q : (Fv ++ B ++ F2).Perm (Fv ++ F4 ++ B2) := by
              have q1 : (Fv ++ B ++ F2).Perm (Fv ++ B ++ (F2' ++ B2)) := p2.append_left _
              refine q1.trans ?_
              rw [List.append_assoc, List.append_assoc]
              refine List.Perm.append_left Fv ?_
              rw [← List.append_assoc]
              exact (List.perm_append_comm.trans p4.symm).append_right B2
            exact (List.nodup_append.mp (q.nodup_iff.mp nd3)).1
/-! ## targets -/
def gMany : List Nat → TGs
  | [] => gNil
  | i :: is => gCons (gName i) (gMany is)
def gT (K : PySem.W.Frag) (one : Bool) (tg : List Nat) : TG := match one, tg with
  | true, i :: _ => gName i
  | true, [] => fun _ _ _ _ => False
  | false, tg => gTup K tg.length (gMany tg)
/-- what a target leaves -/
def AsnTo (T : Tab) (H : Hp) (fz : Fz) (F : List Addr) (tg : List Nat) (σ : St) (ρ1 : Env) (Q : St → Hp → Prop) : Prop :=
  ∀ σ1 F1 R, F.Perm (F1 ++ R) → EnvR T H fz ρ1 σ1 F1 → σ1.length = σ.length → (∀ j, j ∉ tg → σ1[j]? = σ[j]?) → Q σ1 H
theorem many_asn {Q : St → Hp → Prop} : ∀ {tg : List Nat} {xs : List D} {vs : List V} {ρ ρ1 : Env} {σ : St} {F : List Addr}, setMany tg xs ρ = some ρ1 → EnvR T H fz ρ σ F → RepL T H fz xs vs [] → AsnTo T H fz F tg σ ρ1 Q → xs.length = tg.length ∧ gMany tg vs σ H Q
  | [], [], vs, ρ, ρ1, σ, F, h, e, r, k => by
    have h : some ρ = some ρ1 := h
    cases h
    exact ⟨rfl, r.1, k σ F [] (by simp) e rfl fun _ _ => rfl⟩
  | i :: is, x :: xs, vs, ρ, ρ1, σ, F, h, e, r, k => by
    obtain ⟨v, w, A1, A2, e1, e2, r1, r2⟩ := r
    obtain ⟨rfl, rfl⟩ := List.append_eq_nil_iff.mp e2.symm
    subst e1
    have h : (if decide (i < ρ.length) = true then setMany is xs (ρ.set i (some x)) else none) = some ρ1 := h
    by_cases hi : i < ρ.length
    · rw [decide_eq_true hi, if_pos rfl] at h
      obtain ⟨F', B, p, F'', e', p'⟩ := e.putP hi r1
      rw [List.append_nil] at p'
      obtain ⟨l, q⟩ := many_asn (Q := Q) h e' r2 fun σ1 F1 R p1 e1 hl hj => by
        refine k σ1 F1 (R ++ B) ?_ e1 (by rw [hl, List.length_set]) fun j hjn => ?_
        · refine p.trans ?_
          rw [← List.append_assoc]
          exact (p'.symm.trans p1).append_right B
        · rw [hj j fun z => hjn (List.mem_cons_of_mem _ z), List.getElem?_set_ne fun z => hjn (by rw [z]; exact List.mem_cons_self)]
      exact ⟨by simp [l], v, w, rfl, q⟩
    · rw [decide_eq_false hi] at h
      cases h
  | [], _ :: _, _, _, _, _, _, h, _, _, _ => by cases h
  | _ :: _, [], _, _, _, _, _, h, _, _, _ => by cases h
theorem one_asn {Q : St → Hp → Prop} {tg : List Nat} {one : Bool} {x : D} {v : V} (h : asnD tg one x ρ = some ρ1) (e : EnvR T H fz ρ σ F) (r : Rep T H fz x v []) (k : AsnTo T H fz F tg σ ρ1 Q) : gT T.K one tg v σ H Q := by
  cases one with
  | true =>
    have h : setMany tg [x] ρ = some ρ1 := h
    cases tg with
    | nil => cases h
    | cons i is =>
      cases is with
      | nil =>
        obtain ⟨_, v', w, e1, q⟩ := many_asn (vs := [v]) h e ⟨v, [], [], [], rfl, rfl, r, rfl, rfl⟩ k
        cases e1
        exact q.2
      | cons j js =>
        have h : (if decide (i < ρ.length) = true then setMany (j :: js) [] (ρ.set i (some x)) else none) = some ρ1 := h
        split at h <;> cases h
  | false =>
    cases x with
    | «at» _ => cases h
    | nd kd m xs =>
      cases kd with
      | tup =>
        cases m with
        | true => cases h
        | false =>
          have h : setMany tg xs ρ = some ρ1 := h
          obtain ⟨a, vs, e1, ha, hl⟩ := r.tup
          subst e1
          obtain ⟨l, q⟩ := many_asn h e hl k
          exact ⟨a, vs, rfl, .inl (.inl ha), by rw [← hl.len]; exact l, q⟩
      | _ => cases h
end

/-! ## what is walked -/
structure Src (T : Tab) (H1 : Hp) (fz1 : Fz) (Gs : List Addr) (xs : List D) (J : It) (G : Hp → Prop) (Y : Nat → Hp → V → Hp → Prop) : Prop where
  wk : Walk J xs.length G Y
  good : ∀ H2 fz2, Fr H1 fz1 H2 fz2 Gs → G H2
  item : ∀ i H2 fz2 v H3 x, Fr H1 fz1 H2 fz2 Gs → xs[i]? = some x → Y i H2 v H3 → Alloc H2 H3 [] ∧ Rep T H3 fz2 x v []
section
variable {T : Tab} {H1 : Hp} {fz1 : Fz} {Gs : List Addr} {xs : List D}
theorem SqT.fr {K : PySem.W.Frag} {H2 : Hp} {fz2 : Fz} {a : Addr} {vs : List V} (h : H1 a = some (.tup vs)) (f : Fr H1 fz1 H2 fz2 Gs) : SqT K H2 a vs := .inl (.inl (f.old a _ h (.inr (.inr fun z => z))))
theorem HK.sqL {H2 : Hp} {fz2 : Fz} {m : Bool} {k : Kd} {a : Addr} {vs : List V} (h : HK T H1 fz1 m k a vs) (hk : k = .lst ∨ k = .scr) (ho : m = true → a ∈ Gs) (f : Fr H1 fz1 H2 fz2 Gs) : SqL T.K H2 a vs := by
  have h2 := h.fr f ho
  rcases hk with rfl | rfl
  · exact .inl (.inl (lst_of h2))
  · exact scr_of h2
theorem src_list {m : Bool} {k : Kd} {a : Addr} {vs : List V} (hk : HK T H1 fz1 m k a vs) (kk : k = .lst ∨ k = .scr) (ho : m = true → a ∈ Gs) (hl : RepL T H1 fz1 xs vs []) : Src T H1 fz1 Gs xs (Itl T.K a) (fun H => SqL T.K H a vs) (YAt vs) where
  wk := by rw [hl.len]; exact walk_list
  good := fun H2 fz2 f => HK.sqL hk kk ho f
  item := fun i H2 fz2 v H3 x f hx y => by
    obtain ⟨rfl, hv⟩ := y
    obtain ⟨w, B, e1, r, s⟩ := hl.get hx
    rw [hv] at e1
    cases e1
    have : B = [] := by
      cases B with
      | nil => rfl
      | cons b _ => exact absurd (s b List.mem_cons_self) (by simp)
    subst this
    exact ⟨.refl, r.fr (f.mono (by simp))⟩
theorem src_tup {a : Addr} {vs : List V} (ha : H1 a = some (.tup vs)) (hl : RepL T H1 fz1 xs vs []) : Src T H1 fz1 Gs xs (Itt T.K a) (fun H => SqT T.K H a vs) (YAt vs) where
  wk := by rw [hl.len]; exact walk_tup
  good := fun H2 fz2 f => SqT.fr ha f
  item := fun i H2 fz2 v H3 x f hx y => by
    obtain ⟨rfl, hv⟩ := y
    obtain ⟨w, B, e1, r, s⟩ := hl.get hx
    rw [hv] at e1
    cases e1
    have : B = [] := by
      cases B with
      | nil => rfl
      | cons b _ => exact absurd (s b List.mem_cons_self) (by simp)
    subst this
    exact ⟨.refl, r.fr (f.mono (by simp))⟩
theorem src_range {lo : Int} {k : Nat} : Src T H1 fz1 Gs (rngD lo k) (Itr lo k) (fun _ => True) (YFn fun i => .int (lo + i)) where
  wk := by
    have : (rngD lo k).length = k := by simp [rngD]
    rw [this]; exact walk_range
  good := fun _ _ _ => True.intro
  item := fun i H2 fz2 v H3 x f hx y => by
    obtain ⟨rfl, hv⟩ := y
    have : i < k := by
      have := (List.getElem?_eq_some_iff.mp hx).1
      simpa [rngD] using this
    have hx2 : x = D.int (lo + i) := by
      unfold rngD at hx
      rw [List.getElem?_map, List.getElem?_range this] at hx
      exact (Option.some.inj hx).symm
    subst hx2
    exact ⟨.refl, hv, rfl⟩
theorem repL_get_nil {H : Hp} {fz : Fz} {vs : List V} {i : Nat} {x : D} {w : V} (hl : RepL T H fz xs vs []) (hx : xs[i]? = some x) (hv : vs[i]? = some w) : Rep T H fz x w [] := by
  obtain ⟨w', B, e1, r, s⟩ := hl.get hx
  rw [hv] at e1
  cases e1
  have : B = [] := by
    cases B with
    | nil => rfl
    | cons b _ => exact absurd (s b List.mem_cons_self) (by simp)
  subst this
  exact r
theorem enumD_get : ∀ {xs : List D} {k i : Nat} {x : D}, (enumD k xs)[i]? = some x → ∃ y, xs[i]? = some y ∧ x = D.tup [D.int ((k + i : Nat) : Int), y]
  | [], k, i, x, h => by simp [enumD] at h
  | y :: ys, k, 0, x, h => by
    have : D.tup [D.int k, y] = x := by simpa [enumD] using h
    exact ⟨y, rfl, by rw [← this]; simp⟩
  | y :: ys, k, i + 1, x, h => by
    have h : (enumD (k + 1) ys)[i]? = some x := by simpa [enumD] using h
    obtain ⟨z, h1, h2⟩ := enumD_get h
    exact ⟨z, by simpa using h1, by rw [h2]; congr 4; omega⟩
theorem enumD_len : ∀ {xs : List D} {k : Nat}, (enumD k xs).length = xs.length
  | [], _ => rfl
  | _ :: xs, k => by simp [enumD, enumD_len (xs := xs)]
/-- a new pair -/
theorem pair_rep {H2 H3 : Hp} {fz2 : Fz} {Tp : Addr} {x y : V} {dx dy : D} (h : H2 Tp = none) (e : H3 = upd H2 Tp (.tup [x, y])) (rx : Rep T H2 fz2 dx x []) (ry : Rep T H2 fz2 dy y []) : Alloc H2 H3 [] ∧ Rep T H3 fz2 (D.tup [dx, dy]) (.ref Tp) [] := by
  subst e
  have al : Alloc H2 (upd H2 Tp (.tup [x, y])) [] := .new0 h
  exact ⟨al, rep_tup upd_same ⟨x, [y], [], [], rfl, rfl, rx.fr al.fr, y, [], [], [], rfl, rfl, ry.fr al.fr, rfl, rfl⟩⟩
theorem src_enum {m : Bool} {a : Addr} {vs : List V} (hk : HK T H1 fz1 m .lst a vs) (ho : m = true → a ∈ Gs) (hl : RepL T H1 fz1 xs vs []) : Src T H1 fz1 Gs (enumD 0 xs) (Ite T.K a) (fun H => SqL T.K H a vs) (YPair (fun i => some (.int (i : Nat))) (fun i => vs[i]?)) where
  wk := by rw [enumD_len, hl.len]; exact walk_enum
  good := fun H2 fz2 f => HK.sqL hk (.inl rfl) ho f
  item := fun i H2 fz2 v H3 x f hx y => by
    obtain ⟨Tp, u, w, rfl, h1, h2, h3, h4⟩ := y
    obtain ⟨d, h5, h6⟩ := enumD_get hx
    subst h6
    cases h3
    refine pair_rep h1 h2 ⟨by simp; rfl, rfl⟩ ((repL_get_nil hl h5 h4).fr (f.mono (by simp)))
theorem src_enumT {a : Addr} {vs : List V} (ha : H1 a = some (.tup vs)) (hl : RepL T H1 fz1 xs vs []) : Src T H1 fz1 Gs (enumD 0 xs) (ItT T.K a) (fun H => SqT T.K H a vs) (YPair (fun i => some (.int (i : Nat))) (fun i => vs[i]?)) where
  wk := by rw [enumD_len, hl.len]; exact walk_enumT
  good := fun H2 fz2 f => SqT.fr ha f
  item := fun i H2 fz2 v H3 x f hx y => by
    obtain ⟨Tp, u, w, rfl, h1, h2, h3, h4⟩ := y
    obtain ⟨d, h5, h6⟩ := enumD_get hx
    subst h6
    cases h3
    refine pair_rep h1 h2 ⟨by simp; rfl, rfl⟩ ((repL_get_nil hl h5 h4).fr (f.mono (by simp)))
theorem zipW_get : ∀ {xs ys : List D} {i : Nat} {x : D}, (List.zipWith (fun x y => D.tup [x, y]) xs ys)[i]? = some x → ∃ a b, xs[i]? = some a ∧ ys[i]? = some b ∧ x = D.tup [a, b] := by
  intro xs ys i x h
  rw [List.getElem?_zipWith] at h
  cases h1 : xs[i]? with
  | none => rw [h1] at h; cases h
  | some a =>
    cases h2 : ys[i]? with
    | none => rw [h1, h2] at h; cases h
    | some b => rw [h1, h2] at h; exact ⟨a, b, rfl, rfl, (Option.some.inj h).symm⟩
theorem src_zip {ys : List D} {m1 m2 : Bool} {a b : Addr} {vs ws : List V} (hk : HK T H1 fz1 m1 .lst a vs) (hk2 : HK T H1 fz1 m2 .lst b ws) (ho : m1 = true → a ∈ Gs) (ho2 : m2 = true → b ∈ Gs) (hl : RepL T H1 fz1 xs vs []) (hl2 : RepL T H1 fz1 ys ws []) :
    Src T H1 fz1 Gs (List.zipWith (fun x y => D.tup [x, y]) xs ys) (Itz T.K a b) (fun H => SqL T.K H a vs ∧ SqL T.K H b ws) (YPair (fun i => vs[i]?) (fun i => ws[i]?)) where
  wk := walk_zip (by rw [List.length_zipWith, hl.len, hl2.len])
  good := fun H2 fz2 f => ⟨HK.sqL hk (.inl rfl) ho f, HK.sqL hk2 (.inl rfl) ho2 f⟩
  item := fun i H2 fz2 v H3 x f hx y => by
    obtain ⟨Tp, u, w, rfl, h1, h2, h3, h4⟩ := y
    obtain ⟨d, e, h5, h6, h7⟩ := zipW_get hx
    subst h7
    exact pair_rep h1 h2 ((repL_get_nil hl h5 h3).fr (f.mono (by simp))) ((repL_get_nil hl2 h6 h4).fr (f.mono (by simp)))
theorem src_zipT {ys : List D} {a b : Addr} {vs ws : List V} (ha : H1 a = some (.tup vs)) (hb : H1 b = some (.tup ws)) (hl : RepL T H1 fz1 xs vs []) (hl2 : RepL T H1 fz1 ys ws []) :
    Src T H1 fz1 Gs (List.zipWith (fun x y => D.tup [x, y]) xs ys) (RZ.ItzT T.K a b) (fun H => SqT T.K H a vs ∧ SqT T.K H b ws) (YPair (fun i => vs[i]?) (fun i => ws[i]?)) where
  wk := by
    refine ⟨fun i _ hi q => ?_, fun _ q => ⟨vs, ws, q.1, q.2, ?_⟩, fun i H v H' _ q y => ?_⟩
    · rw [List.length_zipWith, hl.len, hl2.len] at hi
      have h1 : i < vs.length := by omega
      have h2 : i < ws.length := by omega
      exact ⟨vs, ws, vs[i], ws[i], q.1, q.2, by simp [h1], by simp [h2]⟩
    · rw [List.length_zipWith, hl.len, hl2.len]; omega
    · obtain ⟨Tp, x, z, h1, h2, h3, h4, h5⟩ := y
      exact ⟨Tp, x, z, h1, h2, h3, h4 vs q.1, h5 ws q.2⟩
  good := fun H2 fz2 f => ⟨SqT.fr ha f, SqT.fr hb f⟩
  item := fun i H2 fz2 v H3 x f hx y => by
    obtain ⟨Tp, u, w, rfl, h1, h2, h3, h4⟩ := y
    obtain ⟨d, e, h5, h6, h7⟩ := zipW_get hx
    subst h7
    exact pair_rep h1 h2 ((repL_get_nil hl h5 h3).fr (f.mono (by simp))) ((repL_get_nil hl2 h6 h4).fr (f.mono (by simp)))
end
end Ev

set_option Elab.async false
set_option linter.all false
set_option maxRecDepth 100000
set_option maxHeartbeats 4000000
namespace Ev
open PySem PySem.Spec L2

section
variable {T : Tab} {W : WX} {σ : St} {H H1 H2 H' : Hp} {fz fz1 fz2 fz' : Fz} {F F1 F2 G G1 G2 : List Addr} {n p : Bool} {ρ ρ1 ρ2 : Env}
/-- a new object of one's own is written -/
theorem Ext.updNew {F' : List Addr} {a : Addr} {o : HO} (e : Ext H fz F H' fz' F') (h : H a = none) (ha : a ∈ F') (m : Mut (some o)) : Ext H fz F (upd H' a o) fz' F' where
  keep := fun b u hb hn => by
    have : b ≠ a := by rintro rfl; rw [h] at hb; cases hb
    rw [upd_ne this]; exact e.keep b u hb hn
  fsub := e.fsub
  fnew := e.fnew
  pnew := e.pnew
  dom := fun b hb => by
    by_cases q : b = a
    · subst q; rw [upd_same]; simp
    · rw [upd_ne q]; exact e.dom b hb
  amb := ⟨e.amb.nd, fun b hb => by
    by_cases q : b = a
    · subst q; rw [upd_same]; exact m
    · rw [upd_ne q]; exact e.amb.mu b hb, e.amb.sep, fun b hb => by
    by_cases q : b = a
    · subst q; rw [upd_same]; simp
    · rw [upd_ne q]; exact e.amb.there b hb⟩
def WF : WX := fun _ _ _ _ => False
/-- the slots of a block: forgotten ones and others -/
theorem wipe_eq {σ1 : St} {vs : List Nat} (hl : σ1.length = σ.length) (h : ∀ j, j ∉ vs → σ1[j]? = σ[j]?) : L2.wipe σ1 vs = L2.wipe σ vs := by
  have at_ : ∀ (vs : List Nat) (σ : St) (j : Nat), j ∈ vs → (L2.wipe σ vs)[j]? = if j < σ.length then some none else none := by
    intro vs
    induction vs with
    | nil => intro σ j h; cases h
    | cons v vs ih =>
      intro σ j h
      show ((L2.wipe σ vs).set v none)[j]? = _
      by_cases e : v = j
      · subst e
        by_cases hl : v < σ.length
        · rw [if_pos hl, List.getElem?_set_self (by rw [L2.wipe_length]; exact hl)]
        · rw [if_neg hl, List.getElem?_eq_none (by rw [List.length_set, L2.wipe_length]; omega)]
      · rw [List.getElem?_set_ne e]
        rcases List.mem_cons.mp h with q | q
        · exact absurd q.symm e
        · exact ih σ j q
  apply List.ext_getElem?
  intro j
  by_cases hj : j ∈ vs
  · rw [at_ vs σ1 j hj, at_ vs σ j hj, hl]
  · rw [L2.wipe_out hj, L2.wipe_out hj, h j hj]
end

/-! ## lists of things that are looked at -/
section
variable {X : Cx} {T : Tab} {W : WX} {n p : Bool} {pos : Pos}
theorem pa_nilP : PA X [] (TmL T W true n (M.pure [])) := PA.imp pa_nil fun σ H Q h => by
  obtain ⟨fz, F, ρ, c, h⟩ := h.start
  exact h [] H fz F [] c ⟨rfl, [], ⟨rfl, rfl⟩, by simp⟩
theorem pa_consP {e : Expr} {es : List Expr} {ma : M D} {mr : M (List D)} {na nr : Bool} (ha : PE X e (Tm T W true na ma)) (hr : PA X es (TmL T W true nr mr)) (hn : n = true → na = true) (hm : n = true → nr = true)
    (hs : starEach (e :: es) X.env = (false, eval e X.env) :: starEach es X.env) : PA X (e :: es) (TmL T W true n (M.bind ma fun x => M.bind mr fun xs => M.chk (x.clean || nr) (M.pure (x :: xs)))) :=
  PA.imp (pa_cons ha hr hs) fun σ H Q h => by
    obtain ⟨fz, F, ρ, c, h⟩ := h.start
    refine (OutL.bind c hn h).mono ?_
    rintro v H1 ⟨fz1, F1, G1, x, ρ1, c1, ⟨e1, v1⟩, _, h1⟩
    subst e1
    have c01 := c.trans c1 hn
    refine (OutL.bindL c01 hm h1).mono ?_
    rintro vs H2 ⟨fz2, F2, G2, xs, ρ2, c2, ⟨e2, G0, v2, s2⟩, _, h2⟩
    subst e2
    have c02 := c01.trans c2 hm
    cases hk : (x.clean || nr) with
    | false => rw [hk] at h2; exact h2.elim
    | true =>
      rw [hk] at h2
      obtain ⟨Gx, rx, sx⟩ := Seen.step v1 c1.amb c2 hk
      refine h2 (v :: vs) H2 fz2 F2 [] (by simpa using c02) ⟨rfl, Gx ++ G0, ⟨v, vs, Gx, G0, rfl, rfl, rx, v2⟩, fun a ha => ?_⟩
      rcases List.mem_append.mp ha with q | q
      · exact sx a q
      · exact s2 a q

/-! ## what is walked, by the evaluator -/
def OutI (T : Tab) (W : WX) (σ : St) (H : Hp) (fz : Fz) (F : List Addr) (n : Bool) (sk : SK) (r : R (List D)) (Q : It → Hp → Prop) : Prop := match r with
  | .ok ss ρ' => ∃ xs, itemsD sk ss = some xs ∧ D.cleanL xs = true ∧ ∀ J G Y H1 fz1 F1 G0, Cur T σ H fz F n H1 fz1 F1 [] ρ' → Src T H1 fz1 G0 xs J G Y → (∀ a ∈ G0, a ∈ F1) → (D.cleanL ss = true → G0 = []) → Q J H1
  | .ex x ρ' => OutX T W σ H fz F x ρ'
  | .unk => False
def TmI (T : Tab) (W : WX) (n : Bool) (sk : SK) (m : M (List D)) : TI := fun σ H Q => ∃ fz F ρ, Amb H fz F ∧ EnvR T H fz ρ σ F ∧ OutI T W σ H fz F n sk (m ρ) Q
theorem PI.imp {tg iter : Expr} {wi wi' : TI} (h : PI X tg iter wi) (i : ∀ σ H R, wi' σ H R → wi σ H R) : PI X tg iter wi' := ⟨fun pins s σ H R I w => h.run pins s σ H R I (i σ H R w)⟩
theorem TmI.run {sk : SK} {ms : M (List D)} {σ : St} {H : Hp} {R : It → Hp → Prop} {ns : Bool} (hn : n = true → ns = true) (h : TmI T W n sk ms σ H R) : TmL T W true ns ms σ H fun vs H1 => ∃ fz1 F1 G0 ss xs, Amb H1 fz1 F1 ∧ RepL T H1 fz1 ss vs G0 ∧ (∀ a ∈ G0, a ∈ F1) ∧ itemsD sk ss = some xs ∧ D.cleanL xs = true ∧
    ∀ J G Y, (∃ Gs, Src T H1 fz1 Gs xs J G Y ∧ (∀ a ∈ Gs, a ∈ F1) ∧ (D.cleanL ss = true → Gs = [])) → R J H1 := by
  obtain ⟨fz, F, ρ, a, e, h⟩ := h
  refine ⟨fz, F, ρ, a, e, ?_⟩
  unfold OutI at h
  unfold OutL
  cases em : ms ρ with
  | ok ss ρ' =>
    rw [em] at h
    obtain ⟨xs, h1, h2, h3⟩ := h
    rintro vs H1 fz1 F1 G c ⟨eG, G0, r, s⟩
    subst eG
    have c' : Cur T σ H fz F n H1 fz1 F1 [] ρ' := ⟨c.ext, c.env, fun q => c.nm (hn q)⟩
    exact ⟨fz1, F1, G0, ss, xs, c.amb, r, s, h1, h2, fun J G Y ⟨Gs, q1, q2, q3⟩ => h3 J G Y H1 fz1 F1 Gs c' q1 q2 q3⟩
  | ex x ρ' => rw [em] at h; exact h
  | unk => rw [em] at h; exact h
def iSeq (K : PySem.W.Frag) (tl : TE) : TI := fun σ H R => tl σ H fun x H1 => ∃ a, x = .ref a ∧ (((∃ xs, SqL K H1 a xs) ∧ R (Itl K a) H1) ∨ ((∃ xs, SqT K H1 a xs) ∧ R (Itt K a) H1) ∨ ∃ lo hi, H1 a = some (.rng lo hi) ∧ (-(2 ^ 62) ≤ lo ∧ lo < 2 ^ 62 ∧ -(2 ^ 62) ≤ hi ∧ hi < 2 ^ 62) ∧ R (Itr lo (hi - lo).toNat) H1)
open PyProof.Rows in
theorem pi_seq {tg l : Expr} {tl : TE} (hl : PE X l tl) : PI X tg l (iSeq X.K tl) := by
  refine ⟨fun pins s σ H R I h => ?_⟩
  refine thn (hl.run pins s σ H _ I h) fun v s1 ⟨x, H1, I1, r1, q1⟩ => ?_
  obtain ⟨a, e, q⟩ := q1
  subst e
  cases r1
  rcases q with ⟨⟨xs, hq⟩, q⟩ | ⟨⟨xs, hq⟩, q⟩ | ⟨lo, hi, hq, ⟨b1, b2, b3, b4⟩, q⟩
  · obtain ⟨its, rv, p, hz⟩ := I1.list hq
    refine wpAny_pyIter_list p.isList ?_
    refine ⟨s1.heap.objs.size, [s1.heap.objs.size], _, _, H1, rfl, I1.kept (t' := s1.toks) fun b o e => Heap.get?_push_of_some _ e, turn_list a _, ⟨_, Heap.get?_push_size _ rfl, rfl, rfl⟩, fun b hb => ?_, q⟩
    have e : b = s1.heap.objs.size := by simpa using hb
    subst e
    exact I1.fpOk (Nat.le_refl _) (I1.hok.fresh (Nat.le_refl _))
  · obtain ⟨its, rv, p, hz⟩ := I1.tuple hq
    refine wpAny_pyIter_tuple (show s1.heap.IsTuple a its.toArray from p) ?_
    refine ⟨s1.heap.objs.size, [s1.heap.objs.size], _, _, H1, rfl, I1.kept (t' := s1.toks) fun b o e => Heap.get?_push_of_some _ e, turn_tuple a _, ⟨_, Heap.get?_push_size _ rfl, rfl, rfl⟩, fun b hb => ?_, q⟩
    have e : b = s1.heap.objs.size := by simpa using hb
    subst e
    exact I1.fpOk (Nat.le_refl _) (I1.hok.fresh (Nat.le_refl _))
  · obtain ⟨t, u, w, hr⟩ := rng_at I1 hq
    refine wpAny_pyIter_range hr (small_one b1 b2 b3 b4) ?_
    refine ⟨s1.heap.objs.size, [s1.heap.objs.size], _, _, H1, rfl, I1.kept (t' := s1.toks) fun b o e => Heap.get?_push_of_some _ e, turn_range _ lo (hi - lo).toNat, ?_, fun b hb => ?_, q⟩
    · have e1 : lo + ((0 : Nat) : Int) * 1 = lo := by simp
      have e2 : (((hi - lo).toNat : Nat) : Int) - ((0 : Nat) : Int) = Builtin.Range.rangeSize lo hi 1 := by rw [rangeSize_one]; split <;> omega
      show IsRangeIter _ _ (lo + ((0 : Nat) : Int) * 1) ((((hi - lo).toNat : Nat) : Int) - ((0 : Nat) : Int)) 1
      rw [e1, e2]
      exact Heap.get?_push_size _ rfl
    · have e : b = s1.heap.objs.size := by simpa using hb
      subst e
      exact I1.fpOk (Nat.le_refl _) (I1.hok.fresh (Nat.le_refl _))
/-- the single thing of a list -/
theorem TmL.one {ma : M D} {na : Bool} {σ : St} {H : Hp} {Q : List V → Hp → Prop} (h : TmL T W true na (M.bind ma fun x => M.bind (M.pure []) fun xs => M.chk (x.clean || true) (M.pure (x :: xs))) σ H Q) : Tm T W true na ma σ H fun v H1 => Q [v] H1 := by
  obtain ⟨fz, F, ρ, c, h⟩ := h.start
  refine (OutL.bind c (fun h => h) h).mono ?_
  rintro v H1 ⟨fz1, F1, G1, x, ρ1, c1, ⟨e1, G0, v1, s1⟩, _, h1⟩
  subst e1
  have h1 : OutL T W σ H fz F true na ((M.chk (x.clean || true) (M.pure [x])) ρ1) Q := h1
  rw [Bool.or_true] at h1
  exact h1 [v] H1 fz1 F1 [] (by simpa using c.trans c1 (fun h => h)) ⟨rfl, G0, ⟨v, [], G0, [], rfl, by simp, v1, rfl, rfl⟩, s1⟩
/-- where the list that is walked is owned -/
theorem own_of {H1 : Hp} {fz1 : Fz} {F1 G0 : List Addr} {k : Kd} {m : Bool} {xs : List D} {v : V} (r : Rep T H1 fz1 (.nd k m xs) v G0) (c : D.cleanL xs = true) : ∃ a vs, v = .ref a ∧ HK T H1 fz1 m k a vs ∧ RepL T H1 fz1 xs vs [] ∧ (m = true → a ∈ G0) := by
  obtain ⟨a, vs, G1, e, hk, hl, ho⟩ := r
  refine ⟨a, vs, e, hk, hl.cl c, fun q => ?_⟩
  subst q
  exact ho.self
theorem own_gs {G0 : List Addr} {x : D} {H1 : Hp} {fz1 : Fz} {v : V} (r : Rep T H1 fz1 x v G0) (h : D.cleanL [x] = true) : G0 = [] := by
  have h : (x.clean && true) = true := h
  rw [Bool.and_true] at h
  exact clean_nil h r
theorem pi_seqE {tg l : Expr} {ma : M D} {na : Bool} (hK : X.K = T.K) (ha : PE X l (Tm T W true na ma)) (hn : n = true → na = true) :
    PI X tg l (TmI T W n .seq (M.bind ma fun x => M.bind (M.pure []) fun xs => M.chk (x.clean || true) (M.pure (x :: xs)))) :=
  PI.imp (pi_seq ha) fun σ H R h => by
    refine (TmL.one (TmI.run hn h)).mono ?_
    rintro v H1 ⟨fz1, F1, G0, ss, xs, am, r, s, e, cl, k⟩
    obtain ⟨x, rfl⟩ : ∃ x, ss = [x] := by
      cases ss with
      | nil => cases r.1
      | cons x ss => cases ss with
        | nil => exact ⟨x, rfl⟩
        | cons y ss => obtain ⟨_, _, _, _, e1, _, _, _, _, _, _, e2, _⟩ := r; cases e1; cases e2
    obtain ⟨v', w, A1, A2, e1, e2, r1, r2⟩ := r
    obtain ⟨rfl, rfl⟩ := r2
    cases e1
    rw [List.append_nil] at e2
    subst e2
    unfold itemsD at e
    split at e
    · rename_i zs h0
      cases h0; cases e
      obtain ⟨a, vs, ev, ha, hl⟩ := r1.tup
      exact ⟨a, ev, .inr (.inl ⟨⟨vs, .inl (.inl ha)⟩, by rw [hK]; exact k _ _ _ ⟨[], src_tup ha (hl.cl cl), by simp, fun _ => rfl⟩⟩)⟩
    · rename_i m zs h0
      cases h0; cases e
      obtain ⟨a, vs, ev, hk, hl, ho⟩ := own_of (F1 := F1) r1 cl
      exact ⟨a, ev, .inl ⟨⟨vs, .inl (.inl (lst_of hk))⟩, by rw [hK]; exact k _ _ _ ⟨_, src_list hk (.inl rfl) ho hl, s, fun q => own_gs r1 q⟩⟩⟩
    · rename_i m zs h0
      cases h0; cases e
      obtain ⟨a, vs, ev, hk, hl, ho⟩ := own_of (F1 := F1) r1 cl
      exact ⟨a, ev, .inl ⟨⟨vs, by rw [hK]; exact scr_of hk⟩, by rw [hK]; exact k _ _ _ ⟨_, src_list hk (.inr rfl) ho hl, s, fun q => own_gs r1 q⟩⟩⟩
    · rename_i lo hi m zs h00 h0
      cases h0
      split at e
      · rename_i hs
        cases e
        simp only [smallI, Bool.and_eq_true, decide_eq_true_eq] at hs
        obtain ⟨a, vs, G1, ev, hk, hl, ho⟩ := r1
        exact ⟨a, ev, .inr (.inr ⟨lo, hi, (rng_of hk).2, ⟨hs.1.1, hs.1.2, hs.2.1, hs.2.2⟩, k _ _ _ ⟨[], src_range, by simp, fun _ => rfl⟩⟩)⟩
      · cases e
    all_goals first | (rename_i h0 _; cases h0) | (rename_i h0 _ _; cases h0) | (rename_i h0; cases h0) | cases e
end
end Ev

set_option Elab.async false
set_option linter.all false
set_option maxRecDepth 100000
set_option maxHeartbeats 4000000
namespace Ev
open PySem PySem.Spec L2
/-! {k: v} -/
section
variable {X : Cx} {T : Tab} {W : WX} {n p : Bool} {pos : Pos}
theorem pe_disE {k v : Expr} {mk mv : M D} (hk : PE X k (Tm T W false true mk)) (hv : PE X v (Tm T W false true mv)) :
    PE X (.Dict [some k] [v] pos) (Tm T W p n (fin p (M.bind mk fun kd => M.bind mv fun vd => M.lift (disD kd vd)))) := by
  refine PE.fin (PE.imp (pe_disp (pps_cons hk hv pps_nil) rfl rfl (by simp) (by simp)) fun σ H Q h q hq => ?_)
  obtain ⟨fz, F, ρ, c, h⟩ := h.start
  have al : Alloc H (upd H q (.dK [])) [q] := .new hq True.intro
  have c1 := c.alloc al
  refine (Out.bind (pb := false) (nb := true) c1 (fun _ => rfl) h).mono ?_
  rintro x H1 ⟨fz1, F1, G1, kd, ρ1, c2, v2, -, h2⟩
  have c12 := c1.trans c2 (fun _ => rfl)
  refine (Out.bind (pb := false) (nb := true) c12 (fun _ => rfl) h2).mono ?_
  rintro y H2 ⟨fz2, F2, G2, vd, ρ2, c3, v3, -, h3⟩
  have c13 := c12.trans c3 (fun _ => rfl)
  have q1 : H1 q = some (.dK []) := (c2.nm rfl).2 q _ upd_same
  have q2 : H2 q = some (.dK []) := (c3.nm rfl).2 q _ q1
  have v2 : Rep T H1 fz1 kd x G1 := v2
  have v3 : Rep T H2 fz2 vd y G2 := v3
  cases hkey : keyOf kd with
  | none =>
    have : disD kd vd = none := by unfold disD; rw [hkey]
    rw [this] at h3
    exact h3.elim
  | some kk =>
    have e0 : disD kd vd = some (.nd (.dk [kk]) true [vd]) := by unfold disD; rw [hkey]
    rw [e0] at h3
    have ek := Held.key (F := []) (G := G1) ⟨G1, v2, fun a h => .inr h⟩ hkey
    subst ek
    refine ⟨q2, [(kk, y)], rfl, by simp, ?_⟩
    have mq : q ∈ F2 ++ (G2 ++ (G1 ++ ([q] ++ []))) := by simp
    have ex := Ext.updNew (o := .dK [(kk, y)]) c13.ext hq mq True.intro
    have nd := c13.ext.amb.nd
    have qF : q ∉ F2 := fun z => (List.nodup_append.mp nd).2.2 q z q (by simp) rfl
    have nd2 := (List.nodup_append.mp nd).2.1
    have qG : q ∉ G2 := fun z => (List.nodup_append.mp nd2).2.2 q z q (by simp) rfl
    have qz : ¬ fz2 q := c13.ext.amb.sep q mq
    have qm : Mut (H2 q) := by rw [q2]; exact True.intro
    have fr2 : ∀ {G : List Addr}, q ∉ G → Fr H2 fz2 (upd H2 q (.dK [(kk, y)])) fz2 G := fun h => fr_upd h qz qm
    have sub : ∀ a ∈ F2 ++ (q :: G2), a ∈ F2 ++ (G2 ++ (G1 ++ ([q] ++ []))) := fun a ha => by
      rcases List.mem_append.mp ha with ha | ha
      · exact List.mem_append_left _ ha
      · rcases List.mem_cons.mp ha with rfl | ha
        · exact mq
        · exact List.mem_append_right _ (List.mem_append_left _ ha)
    have ndn : (F2 ++ (q :: G2)).Nodup := by
      refine List.nodup_append.mpr ⟨(List.nodup_append.mp nd).1, List.nodup_cons.mpr ⟨qG, (List.nodup_append.mp nd2).1⟩, fun a ha b hb e => ?_⟩
      subst e
      rcases List.mem_cons.mp hb with rfl | hb
      · exact qF ha
      · exact (List.nodup_append.mp nd).2.2 a ha a (List.mem_append_left _ hb) rfl
    have cn : Cur T σ H fz F n (upd H2 q (.dK [(kk, y)])) fz2 F2 (q :: G2) ρ2 :=
      ⟨ex.drop ndn sub, c13.env.fr (fr2 qF), fun z => ⟨(c13.nm z).1, fun a o e => by
        rw [upd_ne (by rintro rfl; rw [hq] at e; cases e)]
        exact (c13.nm z).2 a o e⟩⟩
    exact h3 _ _ fz2 F2 (q :: G2) cn ⟨q, [y], G2, rfl, ⟨by simp, by simp, _, upd_same, rfl, by simp, rfl⟩, ⟨y, [], G2, [], rfl, by simp, v3.fr (fr2 qG), rfl, rfl⟩, rfl⟩
end
end Ev

set_option Elab.async false
set_option linter.all false
set_option maxRecDepth 100000
set_option maxHeartbeats 4000000
namespace Ev
open PySem PySem.Spec L2

section
variable {X : Cx} {T : Tab} {W : WX} {n p : Bool} {pos : Pos}
theorem smallI_ok {i : Int} (h : smallI i = true) : -(2 ^ 62) ≤ i ∧ i < 2 ^ 62 := by
  unfold smallI at h
  rw [Bool.and_eq_true, decide_eq_true_eq, decide_eq_true_eq] at h
  exact h
theorem items_r1 {x : D} {xs : List D} (h : itemsD .range [x] = some xs) : ∃ j, x = D.int j ∧ smallI j = true ∧ xs = rngD 0 j.toNat := by
  cases x with
  | «at» a =>
    cases a with
    | int j =>
      have h : (if smallI j = true then some (rngD 0 j.toNat) else none) = some xs := h
      split at h
      · rename_i q; cases h; exact ⟨j, rfl, q, rfl⟩
      · cases h
    | _ => cases h
  | nd k m ys => cases k <;> cases h
theorem items_r2 {x y : D} {xs : List D} (h : itemsD .range [x, y] = some xs) : ∃ i j, x = D.int i ∧ y = D.int j ∧ smallI i = true ∧ smallI j = true ∧ xs = rngD i (j - i).toNat := by
  cases x with
  | «at» a =>
    cases a with
    | int i =>
      cases y with
      | «at» b =>
        cases b with
        | int j =>
          have h : (if (smallI i && smallI j) = true then some (rngD i (j - i).toNat) else none) = some xs := h
          split at h
          · rename_i q
            cases h
            rw [Bool.and_eq_true] at q
            exact ⟨i, j, rfl, rfl, q.1, q.2, rfl⟩
          · cases h
        | _ => cases h
      | nd k m ys => cases k <;> cases h
    | _ => cases y with
      | «at» b => cases b <;> cases h
      | nd k m ys => cases k <;> cases h
  | nd k m ys => cases y with
    | «at» b => cases b <;> cases k <;> cases h
    | nd k2 m2 zs => cases k <;> cases k2 <;> cases h
theorem len1 {ss : List D} (h : ss.length = 1) : ∃ x, ss = [x] := by
  cases ss with
  | nil => cases h
  | cons x ss => cases ss with
    | nil => exact ⟨x, rfl⟩
    | cons _ _ => cases h
theorem len2 {ss : List D} (h : ss.length = 2) : ∃ x y, ss = [x, y] := by
  cases ss with
  | nil => cases h
  | cons x ss => cases ss with
    | nil => cases h
    | cons y ss => cases ss with
      | nil => exact ⟨x, y, rfl⟩
      | cons _ _ => cases h
/-- the walk's rule, from what the things walked are -/
theorem TmI.L {sk : SK} {ms : M (List D)} {σ : St} {H : Hp} {R : It → Hp → Prop} {ns : Bool} {P : List D → Prop} (hn : n = true → ns = true) (hp : ∀ ρ ss ρ', ms ρ = .ok ss ρ' → P ss) (h : TmI T W n sk ms σ H R) : TmL T W true ns ms σ H fun vs H1 => ∃ (fz1 : Fz) (F1 G0 : List Addr) (ss xs : List D), P ss ∧ RepL T H1 fz1 ss vs G0 ∧ (∀ a ∈ G0, a ∈ F1) ∧ itemsD sk ss = some xs ∧ D.cleanL xs = true ∧
    ∀ J G Y, (∃ Gs, Src T H1 fz1 Gs xs J G Y ∧ (∀ a ∈ Gs, a ∈ F1) ∧ (D.cleanL ss = true → Gs = [])) → R J H1 := by
  obtain ⟨fz, F, ρ, a, e, h⟩ := h
  refine ⟨fz, F, ρ, a, e, ?_⟩
  unfold OutI at h
  unfold OutL
  cases em : ms ρ with
  | ok ss ρ' =>
    rw [em] at h
    obtain ⟨xs, h1, h2, h3⟩ := h
    rintro vs H1 fz1 F1 G c ⟨eG, G0, r, s⟩
    subst eG
    have c' : Cur T σ H fz F n H1 fz1 F1 [] ρ' := ⟨c.ext, c.env, fun q => c.nm (hn q)⟩
    exact ⟨fz1, F1, G0, ss, xs, hp _ _ _ em, r, s, h1, h2, fun J G Y ⟨Gs, q1, q2, q3⟩ => h3 J G Y H1 fz1 F1 Gs c' q1 q2 q3⟩
  | ex x ρ' => rw [em] at h; exact h
  | unk => rw [em] at h; exact h
theorem pi_rng1 {tg a : Expr} {ms : M (List D)} {ns : Bool} {q : Pos} (hg : Gl X "range") (hm : X.mg "range" = none) (ha : PA X [a] (TmL T W true ns ms)) (hs : starEach [a] X.env = [(false, eval a X.env)]) (hn : n = true → ns = true)
    (one : ∀ ρ ss ρ', ms ρ = .ok ss ρ' → ss.length = 1) : PI X tg (.Call (.Name "range" q) [a] [] pos) (TmI T W n .range ms) :=
  PI.imp (pi_range1 hg hm ha hs) fun σ H R h => (TmI.L hn one h).mono fun vs H1 ⟨fz1, F1, G0, ss, xs, l1, r, s, e, cl, k⟩ => by
    obtain ⟨x, rfl⟩ := len1 l1
    obtain ⟨j, rfl, sm, rfl⟩ := items_r1 e
    obtain ⟨v', w, A1, A2, e1, e2, r1, r2⟩ := r
    obtain ⟨rfl, rfl⟩ := r2
    obtain ⟨b1, b2⟩ := smallI_ok sm
    have hv : v' = .int j := r1.1
    subst hv
    exact ⟨j, e1, b1, b2, k (Itr 0 j.toNat) _ _ ⟨[], src_range, by simp, fun _ => rfl⟩⟩
theorem pi_rng2 {tg a b : Expr} {ms : M (List D)} {ns : Bool} {q : Pos} (hg : Gl X "range") (hm : X.mg "range" = none) (ha : PA X [a, b] (TmL T W true ns ms)) (hs : starEach [a, b] X.env = [(false, eval a X.env), (false, eval b X.env)]) (hs2 : starEach [b] X.env = [(false, eval b X.env)]) (hn : n = true → ns = true)
    (two : ∀ ρ ss ρ', ms ρ = .ok ss ρ' → ss.length = 2) : PI X tg (.Call (.Name "range" q) [a, b] [] pos) (TmI T W n .range ms) :=
  PI.imp (pi_range2 hg hm ha hs hs2) fun σ H R h => (TmI.L hn two h).mono fun vs H1 ⟨fz1, F1, G0, ss, xs, l1, r, s, e, cl, k⟩ => by
    obtain ⟨x, y, rfl⟩ := len2 l1
    obtain ⟨i, j, rfl, rfl, sm, sm2, rfl⟩ := items_r2 e
    obtain ⟨v', w, A1, A2, e1, e2, r1, r2⟩ := r
    obtain ⟨v2, w2, A3, A4, e3, e4, r3, r4⟩ := r2
    obtain ⟨rfl, rfl⟩ := r4
    obtain ⟨b1, b2⟩ := smallI_ok sm
    obtain ⟨b3, b4⟩ := smallI_ok sm2
    have hv : v' = .int i := r1.1
    have hv2 : v2 = .int j := r3.1
    subst hv; subst hv2
    exact ⟨i, j, by rw [e1, e3], ⟨b1, b2, b3, b4⟩, k (Itr i (j - i).toNat) _ _ ⟨[], src_range, by simp, fun _ => rfl⟩⟩
theorem items_en {x : D} {xs : List D} (h : itemsD .enum [x] = some xs) : ∃ ys, xs = enumD 0 ys ∧ ((∃ m, x = .nd .lst m ys) ∨ ∃ m, x = .nd .tup m ys) := by
  cases x with
  | «at» a => cases a <;> cases h
  | nd k m ys =>
    cases k with
    | lst =>
      have h : some (enumD 0 ys) = some xs := h
      cases h; exact ⟨ys, rfl, .inl ⟨m, rfl⟩⟩
    | tup =>
      have h : some (enumD 0 ys) = some xs := h
      cases h; exact ⟨ys, rfl, .inr ⟨m, rfl⟩⟩
    | _ => cases h
theorem enumD_cl : ∀ {xs : List D} {k : Nat}, D.cleanL (enumD k xs) = true → D.cleanL xs = true
  | [], _, _ => rfl
  | x :: xs, k, h => by
    have h : (D.clean (D.tup [D.int k, x]) && D.cleanL (enumD (k + 1) xs)) = true := h
    rw [Bool.and_eq_true] at h
    have h1 : (true && (D.clean x && true)) = true := h.1
    rw [Bool.true_and, Bool.and_true] at h1
    show (D.clean x && D.cleanL xs) = true
    rw [h1, enumD_cl h.2]; rfl
theorem pi_en {a : Expr} {ms : M (List D)} {ns : Bool} {q tpos : Pos} {elts : List Expr} {kk : Nat} (hK : X.K = T.K) (hg : Gl X "enumerate") (hm : X.mg "enumerate" = none) (ha : PA X [a] (TmL T W true ns ms)) (hs : starEach [a] X.env = [(false, eval a X.env)]) (hn : n = true → ns = true)
    (one : ∀ ρ ss ρ', ms ρ = .ok ss ρ' → ss.length = 1) : PI X (.Tuple elts kk tpos) (.Call (.Name "enumerate" q) [a] [] pos) (TmI T W n .enum ms) :=
  PI.imp (pi_enumA hg hm ha hs) fun σ H R h => (TmI.L hn one h).mono fun vs H1 ⟨fz1, F1, G0, ss, xs, l1, r, s, e, cl, k⟩ => by
    obtain ⟨x, rfl⟩ := len1 l1
    obtain ⟨ys, rfl, he⟩ := items_en e
    obtain ⟨v', w, A1, A2, e1, e2, r1, r2⟩ := r
    obtain ⟨rfl, rfl⟩ := r2
    rw [List.append_nil] at e2
    subst e2
    rcases he with ⟨m, rfl⟩ | ⟨m, rfl⟩
    · obtain ⟨b, ws, ev, hk, hl, ho⟩ := own_of (F1 := F1) r1 (enumD_cl cl)
      subst ev
      exact ⟨b, ws, e1, .inl ⟨.inl (.inl (lst_of hk)), by rw [hK]; exact k _ _ _ ⟨_, src_enum hk ho hl, s, fun q => own_gs r1 q⟩⟩⟩
    · obtain ⟨b, ws, ev, hb, hl⟩ := r1.tup
      subst ev
      exact ⟨b, ws, e1, .inr ⟨.inl (.inl hb), by rw [hK]; exact k _ _ _ ⟨[], src_enumT hb (hl.cl (enumD_cl cl)), by simp, fun _ => rfl⟩⟩⟩
theorem items_zp {x y : D} {xs : List D} (h : itemsD .zip [x, y] = some xs) : ∃ k m ys k' m' zs, x = .nd k m ys ∧ y = .nd k' m' zs ∧ xs = List.zipWith (fun x y => D.tup [x, y]) ys zs ∧ ((k = .lst ∧ k' = .lst) ∨ (k = .tup ∧ k' = .tup)) ∧ D.cleanL ys = true ∧ D.cleanL zs = true := by
  cases x with
  | «at» a => cases y with
    | «at» b => cases a <;> cases b <;> cases h
    | nd k' m' zs => cases k' <;> cases a <;> cases h
  | nd k m ys =>
    cases y with
    | «at» b => cases k <;> cases b <;> cases h
    | nd k' m' zs =>
      cases k <;> cases k' <;> first
        | cases h
        | (have h : (if (D.cleanL ys && D.cleanL zs) = true then some (List.zipWith (fun x y => D.tup [x, y]) ys zs) else none) = some xs := h
           split at h
           · rename_i q
             cases h
             rw [Bool.and_eq_true] at q
             exact ⟨_, m, ys, _, m', zs, rfl, rfl, rfl, by simp, q.1, q.2⟩
           · cases h)
theorem own_gs2 {G0 G1 : List Addr} {x y : D} {H1 : Hp} {fz1 : Fz} {v w : V} (r : Rep T H1 fz1 x v G0) (r2 : Rep T H1 fz1 y w G1) (h : D.cleanL [x, y] = true) : G0 ++ G1 = [] := by
  have h : (x.clean && (y.clean && true)) = true := h
  rw [Bool.and_true, Bool.and_eq_true] at h
  rw [clean_nil h.1 r, clean_nil h.2 r2]; rfl
theorem pi_zp {a b : Expr} {ms : M (List D)} {ns : Bool} {q tpos : Pos} {elts : List Expr} {kk : Nat} (hK : X.K = T.K) (hg : Gl X "zip") (hm : X.mg "zip" = none) (ha : PA X [a, b] (TmL T W true ns ms)) (hs : starEach [a, b] X.env = (false, eval a X.env) :: starEach [b] X.env) (hpl : (backTo pos (starEach [b] X.env)).any (·.1) = false) (hn : n = true → ns = true)
    (two : ∀ ρ ss ρ', ms ρ = .ok ss ρ' → ss.length = 2) : PI X (.Tuple elts kk tpos) (.Call (.Name "zip" q) [a, b] [] pos) (TmI T W n .zip ms) :=
  PI.imp (RZ.pi_zipA hg hm ha hs hpl) fun σ H R h => (TmI.L hn two h).mono fun vs H1 ⟨fz1, F1, G0, ss, xs, l1, r, s, e, cl, k⟩ => by
    obtain ⟨x, y, rfl⟩ := len2 l1
    obtain ⟨kk, m, ys, kk', m', zs, rfl, rfl, rfl, hkk, cy, cz⟩ := items_zp e
    obtain ⟨v', w, A1, A2, e1, e2, r1, r2⟩ := r
    obtain ⟨v2, w2, A3, A4, e3, e4, r3, r4⟩ := r2
    obtain ⟨rfl, rfl⟩ := r4
    rw [List.append_nil] at e4
    subst e4; subst e2; subst e3
    rcases hkk with ⟨rfl, rfl⟩ | ⟨rfl, rfl⟩
    · obtain ⟨b1, ws, ev, hk, hl, ho⟩ := own_of (F1 := F1) r1 cy
      obtain ⟨b2, ws2, ev2, hk2, hl2, ho2⟩ := own_of (F1 := F1) r3 cz
      subst ev; subst ev2
      exact ⟨b1, b2, ws, ws2, e1, .inl ⟨.inl (.inl (lst_of hk)), .inl (.inl (lst_of hk2)), by rw [hK]; exact k _ _ _ ⟨A1 ++ A2, src_zip hk hk2 (fun q => List.mem_append_left _ (ho q)) (fun q => List.mem_append_right _ (ho2 q)) hl hl2, s, fun q => own_gs2 r1 r3 q⟩⟩⟩
    · obtain ⟨b1, ws, ev, hb1, hl⟩ := r1.tup
      obtain ⟨b2, ws2, ev2, hb2, hl2⟩ := r3.tup
      subst ev; subst ev2
      exact ⟨b1, b2, ws, ws2, e1, .inr ⟨.inl (.inl hb1), .inl (.inl hb2), by rw [hK]; exact k _ _ _ ⟨[], src_zipT hb1 hb2 (hl.cl cy) (hl2.cl cz), by simp, fun _ => rfl⟩⟩⟩
end

/-! ## comprehensions -/
section
variable {T : Tab} {W : WX} {σ : St} {n : Bool}
theorem TmI.of {sk : SK} {m : M (List D)} {H : Hp} {R : It → Hp → Prop} {fz : Fz} {F : List Addr} {ρ : Env} (a : Amb H fz F) (e : EnvR T H fz ρ σ F) (h : OutI T W σ H fz F n sk (m ρ) R) : TmI T W n sk m σ H R := ⟨fz, F, ρ, a, e, h⟩
theorem lcL_step {turn : D → M (Option D)} {x : D} {xs : List D} {ρ ρe : Env} {ds : List D} (h : lcL turn (x :: xs) ρ = .ok ds ρe) : ∃ r ρ1 rs, turn x ρ = .ok r ρ1 ∧ lcL turn xs ρ1 = .ok rs ρe ∧ ds = consO r rs := by
  have h : M.bind (turn x) (fun r => M.bind (lcL turn xs) fun rs => M.pure (consO r rs)) ρ = .ok ds ρe := h
  unfold M.bind at h
  cases e : turn x ρ with
  | unk => rw [e] at h; cases h
  | ex _ _ => rw [e] at h; cases h
  | ok r ρ1 =>
    rw [e] at h
    cases e2 : lcL turn xs ρ1 with
    | unk => simp only [e2] at h; cases h
    | ex _ _ => simp only [e2] at h; cases h
    | ok rs ρ2 =>
      simp only [e2] at h
      have h : R.ok (consO r rs) ρ2 = R.ok ds ρe := h
      cases h
      exact ⟨r, ρ1, rs, rfl, e2, rfl⟩
theorem lcT_inv {own tg : List Nat} {one : Bool} {mc : M Bool} {me : M D} {nn : Bool} {x : D} {ρ ρ3 : Env} {r : Option D} (h : lcT own tg one mc me nn x ρ = .ok r ρ3) : ∃ ρ1, asnD tg one x ρ = some ρ1 ∧
    ((∃ ρ2 d ρ4, mc ρ1 = .ok true ρ2 ∧ me ρ2 = .ok d ρ4 ∧ r = some d ∧ ρ3 = sel nn ρ (wipeE ρ4 own)) ∨ ∃ ρ2, mc ρ1 = .ok false ρ2 ∧ r = none ∧ ρ3 = sel nn ρ (wipeE ρ2 own)) := by
  unfold lcT at h
  cases e : asnD tg one x ρ with
  | none => rw [e] at h; cases h
  | some ρ1 =>
    simp only [e] at h
    refine ⟨ρ1, rfl, ?_⟩
    cases e2 : mc ρ1 with
    | unk => rw [e2] at h; cases h
    | ex _ _ => rw [e2] at h; cases h
    | ok b ρ2 =>
      cases b with
      | true =>
        simp only [e2] at h
        cases e3 : me ρ2 with
        | unk => rw [e3] at h; cases h
        | ex _ _ => rw [e3] at h; cases h
        | ok d ρ4 =>
          simp only [e3] at h
          cases h
          exact .inl ⟨ρ2, d, ρ4, rfl, e3, rfl, rfl⟩
      | false =>
        simp only [e2] at h
        cases h
        exact .inr ⟨ρ2, rfl, rfl, rfl⟩
/-- what stands while a comprehension runs: the walked part is done, the rest gives what is still lacking -/
structure LcI (T : Tab) (σ : St) (H1 : Hp) (fz1 : Fz) (F0 : List Addr) (ρw : Env) (own : List Nat) (nn : Bool) (turn : D → M (Option D)) (todo : List D) (all : List D) (ρe : Env) (D : Addr) (H2 : Hp) : Prop where
  run : ∃ fz2 F2 ds rest Gacc acc ρ2, lcL turn todo ρ2 = .ok rest ρe ∧ all = ds ++ rest ∧ H2 D = some (.lst acc) ∧ RepL T H2 fz2 ds acc Gacc ∧ Ext H1 fz1 F0 H2 fz2 (F2 ++ (D :: Gacc)) ∧ EnvR T H2 fz2 ρ2 (L2.wipe σ own) F2 ∧
    (nn = true → ρ2 = ρw ∧ F2 = F0 ∧ ∀ a o, H1 a = some o → H2 a = some o)
theorem Fr.of_keep {H H' : Hp} {fz fz' : Fz} {G : List Addr} (h : ∀ a o, H a = some o → H' a = some o) (s : ∀ a, fz a → fz' a) : Fr H fz H' fz' G := ⟨fun a o e _ => h a o e, s⟩
theorem Fr.comp {H H1 H2 : Hp} {fz fz1 fz2 : Fz} {G : List Addr} (a : Fr H fz H1 fz1 G) (b : Fr H1 fz1 H2 fz2 G) : Fr H fz H2 fz2 G :=
  ⟨fun x o e q => b.old x o (a.old x o e q) (q.imp_right (Or.imp_left (a.fsub x))), fun x h => b.fsub x (a.fsub x h)⟩
/-- one turn of a comprehension -/
theorem lc_turn {H1 : Hp} {fz1 : Fz} {F0 : List Addr} {ρw : Env} {own tg : List Nat} {one nn nc ne : Bool} {mc : M Bool} {me : M D} {x : D} {xs all : List D} {ρe : Env} {D : Addr} {H2 H' : Hp} {v : V} (hD : H1 D = none) (hsz : lineB all.length = true) (nd : own.Nodup) (htg : ∀ i ∈ tg, i ∈ own) (hnc : nn = true → nc = true) (hne : nn = true → ne = true)
    (I : LcI T σ H1 fz1 F0 ρw own nn (lcT own tg one mc me nn) (x :: xs) all ρe D H2) (item : ∀ fz2, Fr H1 fz1 H2 fz2 [] → Alloc H2 H' [] ∧ Rep T H' fz2 x v []) (am0 : Amb H1 fz1 F0) :
    gT T.K one tg v (L2.wipe σ own) H' fun σ2 H2 => L2.wipe σ2 own = L2.wipe σ own ∧ TmB T WF nc mc σ2 H2 fun b H3 =>
      if b = true then Tm T WF false ne me σ2 H3 fun y H4 => ∃ acc, H4 D = some (.lst acc) ∧ acc.length < sizeLine ∧ LcI T σ H1 fz1 F0 ρw own nn (lcT own tg one mc me nn) xs all ρe D (upd H4 D (.lst (acc ++ [y])))
      else LcI T σ H1 fz1 F0 ρw own nn (lcT own tg one mc me nn) xs all ρe D H3 := by
  obtain ⟨fz2, F2, ds, rest, Gacc, acc, ρ2, hrun, hall, hH2, racc, ext, env, hnn⟩ := I.run
  obtain ⟨r, ρ3, rs, ht, hrun2, hrest⟩ := lcL_step hrun
  obtain ⟨ρa, hasn, hcase⟩ := lcT_inv ht
  have fr0 : Fr H1 fz1 H2 fz2 [] := ext.fr am0 (by simp)
  obtain ⟨al, rx⟩ := item fz2 fr0
  have ext1 : Ext H1 fz1 F0 H' fz2 (F2 ++ (D :: Gacc)) := ext.trans0 (by have := al.ext ext.amb; simpa using this)
  have env1 : EnvR T H' fz2 ρ2 (L2.wipe σ own) F2 := env.fr al.fr
  have hH1 : H' D = some (.lst acc) := al.keep D _ hH2
  have racc1 : RepL T H' fz2 ds acc Gacc := racc.fr al.fr
  refine one_asn hasn env1 rx fun σ1 Fa R pR ea hl hj => ?_
  have hw : L2.wipe σ1 own = L2.wipe σ own := by
    have h1 : L2.wipe σ1 own = L2.wipe (L2.wipe σ own) own := wipe_eq hl fun j hjn => hj j fun z => hjn (htg j z)
    have h2 : L2.wipe (L2.wipe σ own) own = L2.wipe σ own := wipe_eq (L2.wipe_length _ _) fun j hjn => L2.wipe_out hjn
    rw [h1, h2]
  refine ⟨hw, ?_⟩
  -- the places: Fa (slots), R (let go), D and the list's items
  have pA : (F2 ++ (D :: Gacc)).Perm (Fa ++ (R ++ (D :: Gacc))) := by
    rw [← List.append_assoc]; exact pR.append_right _
  have extA : Ext H1 fz1 F0 H' fz2 (Fa ++ (R ++ (D :: Gacc))) := ext1.perm pA
  have amA := extA.amb
  have dFa : ∀ a ∈ (R ++ (D :: Gacc)), a ∉ Fa := fun a h1 h2 => amA.disj h2 h1
  refine ⟨fz2, Fa, ρa, amA.left, ea, ?_⟩
  -- the end of a turn
  have fin : ∀ {H3 : Hp} {fz3 : Fz} {F3 G3 : List Addr} {ρ3' : Env} {nb : Bool}, (nn = true → nb = true) → Cur T σ1 H' fz2 Fa nb H3 fz3 F3 G3 ρ3' → ρ3 = sel nn ρ2 (wipeE ρ3' own) → ∀ (acc' : List V) (ds' : List Ev.D) (Gn : List Addr) (H5 : Hp), H5 = upd H3 D (.lst acc') → (Gn.Nodup ∧ ∀ a ∈ Gn, a ∈ G3) →
      RepL T H5 fz3 ds' acc' (Gacc ++ Gn) → all = ds' ++ rs → LcI T σ H1 fz1 F0 ρw own nn (lcT own tg one mc me nn) xs all ρe D H5 := by
    intro H3 fz3 F3 G3 ρ3' nb hnb c hρ acc' ds' Gn H5 hH5 hG rl ha
    have extB : Ext H1 fz1 F0 H3 fz3 ((F3 ++ G3) ++ (R ++ (D :: Gacc))) := extA.trans0 (c.ext.frame amA)
    have extC : Ext H1 fz1 F0 H5 fz3 ((F3 ++ G3) ++ (R ++ (D :: Gacc))) := by
      subst hH5
      exact extB.updNew hD (by simp) True.intro
    have nd0 := extC.amb.nd
    have dF3 : D ∉ F3 := fun z => (List.nodup_append.mp nd0).2.2 D (List.mem_append_left _ z) D (by simp) rfl
    have nD : ¬ fz3 D := extC.amb.sep D (by simp)
    have mD : Mut (H3 D) := extB.amb.mu D (by simp)
    cases nn with
    | false =>
      obtain ⟨Fw, F5, p5, e5, _⟩ := EnvR.wipe own nd c.env
      rw [hw] at e5
      refine ⟨fz3, F5, ds', rs, Gacc ++ Gn, acc', wipeE ρ3' own, by rw [hρ] at hrun2; exact hrun2, ha, by rw [hH5, upd_same], rl, ?_, ?_, fun z => by cases z⟩
      · refine extC.drop ?_ fun a h => ?_
        · have q1 : (F5 ++ (D :: (Gacc ++ Gn))).Sublist (F5 ++ (D :: (Gacc ++ Gn))) := List.Sublist.refl _
          have n3 : F3.Nodup := (List.nodup_append.mp (List.nodup_append.mp nd0).1).1
          have n5 : F5.Nodup := (List.nodup_append.mp (p5.nodup_iff.mp n3)).2.1
          have ng : (R ++ (D :: Gacc)).Nodup := (List.nodup_append.mp nd0).2.1
          have ng2 := (List.nodup_append.mp ng).2.1
          obtain ⟨ng3, ng4⟩ := List.nodup_cons.mp ng2
          have hdisj := (List.nodup_append.mp nd0).2.2
          refine List.nodup_append.mpr ⟨n5, List.nodup_cons.mpr ⟨fun z => ?_, List.nodup_append.mpr ⟨ng4, hG.1, fun a h1 b h2 e => ?_⟩⟩, fun a h1 b h2 e => ?_⟩
          · rcases List.mem_append.mp z with z | z
            · exact ng3 z
            · exact hdisj D (List.mem_append_right _ (hG.2 D z)) D (by simp) rfl
          · exact hdisj b (List.mem_append_right _ (hG.2 b h2)) a (by simp [h1]) e.symm
          · have a3 : a ∈ F3 := p5.mem_iff.mpr (List.mem_append_right _ h1)
            rcases List.mem_cons.mp h2 with q | q
            · exact hdisj a (List.mem_append_left _ a3) b (by simp [q]) e
            · rcases List.mem_append.mp q with q | q
              · exact hdisj a (List.mem_append_left _ a3) b (by simp [q]) e
              · exact (List.nodup_append.mp (List.nodup_append.mp nd0).1).2.2 a a3 b (hG.2 b q) e
        · rcases List.mem_append.mp h with q | q
          · exact List.mem_append_left _ (List.mem_append_left _ (p5.mem_iff.mpr (List.mem_append_right _ q)))
          · rcases List.mem_cons.mp q with q | q
            · subst q; simp
            · rcases List.mem_append.mp q with q | q
              · simp [q]
              · exact List.mem_append_left _ (List.mem_append_right _ (hG.2 a q))
      · rw [hH5]
        refine e5.fr (fr_upd (fun z => dF3 (p5.mem_iff.mpr (List.mem_append_right _ z))) nD mD)
    | true =>
      obtain ⟨e1, e2, kp⟩ := hnn rfl
      have hb := hnb rfl
      subst hb
      obtain ⟨e3, kp3⟩ := c.nm rfl
      subst e3
      have hρ : ρ3 = ρ2 := hρ
      have kp5 : ∀ a o, H1 a = some o → H5 a = some o := fun a o h => by
        have hne : a ≠ D := by rintro rfl; rw [hD] at h; cases h
        rw [hH5, upd_ne hne]
        exact kp3 a o (al.keep a o (kp a o h))
      refine ⟨fz3, F2, ds', rs, Gacc ++ Gn, acc', ρ2, by rw [hρ] at hrun2; exact hrun2, ha, by rw [hH5, upd_same], rl, ?_, ?_, fun _ => ⟨e1, e2, kp5⟩⟩
      · have q : ((F3 ++ G3) ++ (R ++ (D :: Gacc))).Perm ((F2 ++ (D :: Gacc)) ++ G3) := by
          have q1 : ((F3 ++ G3) ++ (R ++ (D :: Gacc))).Perm ((F3 ++ (R ++ (D :: Gacc))) ++ G3) := by
            rw [List.append_assoc, List.append_assoc]
            exact List.perm_append_comm.append_left _
          exact q1.trans (pA.symm.append_right G3)
        have extD := extC.perm q
        refine extD.drop ?_ fun a h => ?_
        · have nn2 := extD.amb.nd
          have hdisj := (List.nodup_append.mp nn2).2.2
          have n1 := (List.nodup_append.mp nn2).1
          have : (F2 ++ (D :: (Gacc ++ Gn))) = (F2 ++ (D :: Gacc)) ++ Gn := by simp
          rw [this]
          exact List.nodup_append.mpr ⟨n1, hG.1, fun a h1 b h2 e => hdisj a h1 b (hG.2 b h2) e⟩
        · have : (F2 ++ (D :: (Gacc ++ Gn))) = (F2 ++ (D :: Gacc)) ++ Gn := by simp
          rw [this] at h
          rcases List.mem_append.mp h with q | q
          · exact List.mem_append_left _ q
          · exact List.mem_append_right _ (hG.2 a q)
      · refine env1.fr ?_
        have f1 : Fr H' fz2 H3 fz3 F2 := Fr.of_keep kp3 c.ext.fsub
        rw [hH5]
        refine f1.comp (fr_upd ?_ nD mD)
        exact fun z => ext1.amb.disj z (by simp)
  rcases hcase with ⟨ρb, d, ρd, hc, he, hr, hρ⟩ | ⟨ρb, hc, hr, hρ⟩
  · rw [hc]
    intro H3 fz3 F3 G3 c3
    rw [if_pos rfl]
    refine ⟨fz3, F3, ρb, c3.amb, c3.env, ?_⟩
    rw [he]
    intro y H4 fz4 F4 G4 c4 ry
    have c34 : Cur T σ1 H' fz2 Fa (nc && ne) H4 fz4 F4 (G4 ++ G3) ρd := (c3.weak (n' := nc && ne) fun q => ((Bool.and_eq_true _ _).mp q).1).trans c4 fun q => ((Bool.and_eq_true _ _).mp q).2
    have extB : Ext H1 fz1 F0 H4 fz4 ((F4 ++ (G4 ++ G3)) ++ (R ++ (D :: Gacc))) := extA.trans0 (c34.ext.frame amA)
    have nd0 := extB.amb.nd
    have dD : D ∉ Fa := dFa D (by simp)
    have hH4 : H4 D = some (.lst acc) := c34.ext.keep D _ hH1 dD
    have nD : ¬ fz4 D := extB.amb.sep D (by simp)
    have mD : Mut (H4 D) := extB.amb.mu D (by simp)
    have hdisj := (List.nodup_append.mp nd0).2.2
    have ngD : D ∉ Gacc := fun z => (List.nodup_cons.mp (List.nodup_append.mp (List.nodup_append.mp nd0).2.1).2.1).1 z
    have nG4 : D ∉ G4 := fun z => hdisj D (by simp [z]) D (by simp) rfl
    have rA : RepL T (upd H4 D (.lst (acc ++ [y]))) fz4 ds acc Gacc := by
      have f1 : Fr H' fz2 H4 fz4 Gacc := c34.ext.fr amA.left fun a h => dFa a (by simp [h])
      exact racc1.fr (f1.comp (fr_upd ngD nD mD))
    have rB : Rep T (upd H4 D (.lst (acc ++ [y]))) fz4 d y G4 := Rep.fr ry (fr_upd nG4 nD mD)
    refine ⟨acc, hH4, ?_, fin (nb := nc && ne) (fun q => by rw [hnc q, hne q]; rfl) c34 hρ (acc ++ [y]) (ds ++ [d]) G4 _ rfl ⟨?_, fun a h => List.mem_append_left _ h⟩ ?_ ?_⟩
    · have h1 := lineB_ok hsz
      have h2 := racc.len
      rw [hall, hrest, hr] at h1
      simp only [consO, List.length_append, List.length_cons] at h1
      omega
    · have := (List.nodup_append.mp (List.nodup_append.mp nd0).1).2.1
      exact (List.nodup_append.mp this).1
    · exact rA.append ⟨y, [], G4, [], rfl, by simp, rB, rfl, rfl⟩
    · rw [hall, hrest, hr]; simp [consO]
  · rw [hc]
    intro H3 fz3 F3 G3 c3
    rw [if_neg Bool.false_ne_true]
    have extB : Ext H1 fz1 F0 H3 fz3 ((F3 ++ G3) ++ (R ++ (D :: Gacc))) := extA.trans0 (c3.ext.frame amA)
    have dD : D ∉ Fa := dFa D (by simp)
    have hH3 : H3 D = some (.lst acc) := c3.ext.keep D _ hH1 dD
    have e5 : H3 = upd H3 D (.lst acc) := by
      funext b
      by_cases q : b = D
      · subst q; rw [upd_same]; exact hH3
      · rw [upd_ne q]
    refine fin (nb := nc) hnc c3 hρ acc ds [] H3 e5 ⟨List.nodup_nil, by simp⟩ ?_ ?_
    · have f1 : Fr H' fz2 H3 fz3 Gacc := c3.ext.fr amA.left fun a h => dFa a (by simp [h])
      rw [List.append_nil]
      exact racc1.fr f1
    · rw [hall, hrest, hr]; rfl
end
end Ev

set_option Elab.async false
set_option linter.all false
set_option maxRecDepth 100000
set_option maxHeartbeats 4000000
namespace Ev
open PySem PySem.Spec L2

section
variable {T : Tab} {W : WX} {σ : St} {n : Bool}
theorem lc_main {H : Hp} {Q : VK} {own tg : List Nat} {one nn nc ne ns : Bool} {sk : SK} {ms : M (List D)} {mc : M Bool} {me : M D} (nd : own.Nodup) (htg : ∀ i ∈ tg, i ∈ own) (hn1 : n = true → ns = true) (hn2 : n = true → nn = true) (hnc : nn = true → nc = true) (hne : nn = true → ne = true)
    (h : Tm T W false n (lcE own tg one sk ms mc me nn) σ H Q) : tLc (TmI T W ns sk ms) (gT T.K one tg) (TmB T WF nc mc) (Tm T WF false ne me) own σ H Q := by
  obtain ⟨fz, F, ρ, c, h⟩ := h.start
  unfold tLc
  refine TmI.of c.amb c.env ?_
  unfold lcE M.bind at h
  unfold OutI
  cases em : ms ρ with
  | unk => rw [em] at h; exact h
  | ex x ρ' => rw [em] at h; exact h
  | ok ss ρ1 =>
    simp only [em] at h
    cases ei : itemsD sk ss with
    | none => rw [ei] at h; exact h.elim
    | some xs =>
      simp only [ei] at h
      cases ec : (D.cleanL xs && (D.cleanL ss || nn)) with
      | false => rw [ec] at h; exact h.elim
      | true =>
        simp only [ec] at h
        rw [Bool.and_eq_true] at ec
        cases el : lcL (lcT own tg one mc me nn) xs (wipeE ρ1 own) with
        | unk => rw [el] at h; exact h.elim
        | ex _ _ => rw [el] at h; exact h.elim
        | ok all ρe =>
          simp only [el] at h
          by_cases hsz : lineB all.length = true
          rotate_left
          · rw [if_neg hsz] at h; exact h.elim
          rw [if_pos hsz] at h
          refine ⟨xs, ei, ec.1, fun J G Y H1 fz1 F1 G0 c1 src s0 cl0 D hD => ?_⟩
          obtain ⟨Fv, F0, pF, e0, restore⟩ := EnvR.wipe own nd c1.env
          have am1 : Amb H1 fz1 (Fv ++ F0) := c1.amb.perm pF
          have am0 : Amb H1 fz1 F0 := am1.right
          have frI : ∀ {H2 : Hp} {fz2 : Fz} {F2' : List Addr}, Ext H1 fz1 F0 H2 fz2 F2' → (nn = true → ∀ a o, H1 a = some o → H2 a = some o) → Fr H1 fz1 H2 fz2 G0 := fun {H2 fz2 F2'} x k => by
            have ec2 := ec.2
            rw [Bool.or_eq_true] at ec2
            rcases ec2 with q | q
            · rw [cl0 q]; exact x.fr am0 (by simp)
            · exact Fr.of_keep (k q) x.fsub
          let Pv : Nat → Hp → Prop := fun i H2 => LcI T σ H1 fz1 F0 (wipeE ρ1 own) own nn (lcT own tg one mc me nn) (xs.drop i) all ρe D H2
          have hstart : Pv 0 (upd H1 D (.lst [])) := by
            have al : Alloc H1 (upd H1 D (.lst [])) [D] := .new hD True.intro
            refine ⟨fz1, F0, [], all, [], [], wipeE ρ1 own, by simpa using el, rfl, upd_same, ⟨rfl, rfl⟩, al.ext am0, e0.fr al.fr, fun _ => ⟨rfl, rfl, al.keep⟩⟩
          refine lc_it src.wk Pv hstart (fun i H2 _ p => ?_) (fun i x H2 H' hi p y => ?_) (fun H2 p => ?_)
          · obtain ⟨fz2, F2, ds, rest, Gacc, acc, ρ2, _, _, _, _, x, _, k⟩ := p.run
            exact src.good H2 fz2 (frI x fun q => (k q).2.2)
          · have hx : xs[i]? = some xs[i] := List.getElem?_eq_getElem hi
            have hd : xs.drop i = xs[i] :: xs.drop (i + 1) := List.drop_eq_getElem_cons hi
            have p' : LcI T σ H1 fz1 F0 (wipeE ρ1 own) own nn (lcT own tg one mc me nn) (xs[i] :: xs.drop (i + 1)) all ρe D H2 := by rw [← hd]; exact p
            refine lc_turn (nc := nc) (ne := ne) hD hsz nd htg hnc hne p' (fun fz2 fr => ?_) am0
            obtain ⟨fz3, F2, ds, rest, Gacc, acc, ρ2, _, _, _, _, x3, _, k⟩ := p.run
            have fr2 : Fr H1 fz1 H2 fz2 G0 := by
              have ec2 := ec.2
              rw [Bool.or_eq_true] at ec2
              rcases ec2 with q | q
              · rw [cl0 q]; exact fr
              · exact Fr.of_keep (k q).2.2 fr.fsub
            exact src.item i H2 fz2 x H' xs[i] fr2 hx y
          · obtain ⟨fz2, F2, ds, rest, Gacc, acc, ρ2, hrun, hall, hH2, racc, x, env, k⟩ := p.run
            rw [List.drop_length] at hrun
            have hrun : R.ok ([] : List Ev.D) ρ2 = R.ok rest ρe := hrun
            cases hrun
            rw [List.append_nil] at hall
            subst hall
            have rl : Rep T H2 fz2 (Ev.D.lst true all) (.ref D) (D :: Gacc) := rep_lst hH2 racc
            have xf := Ext.frame (R := Fv) x (am1.perm List.perm_append_comm)
            have e1 : Ext H1 fz1 F1 H2 fz2 ((F2 ++ (D :: Gacc)) ++ Fv) := by
              have : Ext H1 fz1 F1 H1 fz1 (F0 ++ Fv) := (Ext.refl c1.amb).perm (pF.trans List.perm_append_comm)
              exact this.trans0 xf
            have c1e := c1.ext
            rw [List.append_nil] at c1e
            cases nn with
            | true =>
              obtain ⟨e2, e3, kp⟩ := k rfl
              subst e3
              have q : ((F2 ++ (D :: Gacc)) ++ Fv).Perm (F1 ++ (D :: Gacc)) := by
                have q1 : ((F2 ++ (D :: Gacc)) ++ Fv).Perm ((F2 ++ Fv) ++ (D :: Gacc)) := by
                  rw [List.append_assoc, List.append_assoc]
                  exact List.perm_append_comm.append_left _
                exact q1.trans ((List.perm_append_comm.trans pF.symm).append_right _)
              refine h (.ref D) H2 fz2 F1 (D :: Gacc) ⟨c1e.trans0 (e1.perm q), c1.env.fr (Fr.of_keep kp x.fsub), fun hn => ⟨(c1.nm (hn1 hn)).1, fun a o ha => kp a o ((c1.nm (hn1 hn)).2 a o ha)⟩⟩ rl
            | false =>
              obtain ⟨F3, e3, s3, n3⟩ := restore H2 fz2 _ F2 (x.fr am0 fun a h1 h2 => am1.disj h1 h2) env
              have nd4 := e1.amb.nd
              have hd4 := (List.nodup_append.mp nd4).2.2
              have nd5 := List.nodup_append.mp (List.nodup_append.mp nd4).1
              have ndF : (Fv ++ F2).Nodup := List.nodup_append.mpr ⟨(List.nodup_append.mp nd4).2.1, nd5.1, fun a h1 b h2 e => hd4 b (List.mem_append_left _ h2) a h1 e.symm⟩
              refine h (.ref D) H2 fz2 F3 (D :: Gacc) ⟨c1e.trans0 (e1.drop ?_ fun a ha => ?_), e3, fun hn => by cases hn2 hn⟩ rl
              · refine List.nodup_append.mpr ⟨n3 ndF, nd5.2.1, fun a h1 b h2 e => ?_⟩
                rcases List.mem_append.mp (s3 a h1) with q | q
                · exact hd4 b (List.mem_append_right _ h2) a q e.symm
                · exact nd5.2.2 a q b h2 e
              · rcases List.mem_append.mp ha with q | q
                · rcases List.mem_append.mp (s3 a q) with q | q
                  · exact List.mem_append_right _ q
                  · exact List.mem_append_left _ (List.mem_append_left _ q)
                · exact List.mem_append_left _ (List.mem_append_right _ q)
end
section
variable {X : Cx} {T : Tab} {W : WX} {n p : Bool} {pos : Pos}
/-- what a comprehension's parts are to show, in its own block -/
structure LcP (X : Cx) (T : Tab) (sc : Scope) (tgE elt : Expr) (ifs : List Expr) (tg : List Nat) (one nc ne : Bool) (mc : M Bool) (me : M D) : Prop where
  hg : ∀ (s : Shared) (H : Hp) (C : Addr) (cl : List (Str × Addr)) (fp : List Addr), PG (X.blk s H sc (compEnvC sc cl C X.env) fp) tgE (gT T.K one tg)
  ht : ∀ (s : Shared) (H : Hp) (C : Addr) (cl : List (Str × Addr)) (fp : List Addr), PTs (X.blk s H sc (compEnvC sc cl C X.env) fp) ifs (TmB T WF nc mc)
  he : ∀ (s : Shared) (H : Hp) (C : Addr) (cl : List (Str × Addr)) (fp : List Addr), PE (X.blk s H sc (compEnvC sc cl C X.env) fp) elt (Tm T WF false ne me)
theorem pe_lcE {elt tgE iter : Expr} {ifs : List Expr} {sc : Scope} {own : List (Str × Nat)} {tg : List Nat} {one nn nc ne ns : Bool} {sk : SK} {ms : M (List D)} {mc : M Bool} {me : M D} (hc : X.calm = true) (hN : X.N.Nodup) (hi : PI X tgE iter (TmI T W ns sk ms)) (ok : BlkOk X.N X.env.scope sc own)
    (lp : LcP X T sc tgE elt ifs tg one nc ne mc me) (hs : ∀ x, foldedSetIterable iter X.env x = pure x) (nd : (own.map (·.2)).Nodup) (htg : ∀ i ∈ tg, i ∈ own.map (·.2)) (hn1 : n = true → ns = true) (hn2 : n = true → nn = true) (hnc : nn = true → nc = true) (hne : nn = true → ne = true) :
    PE X (.ListComp elt [⟨tgE, iter, ifs, 0⟩] sc pos) (Tm T W p n (fin p (lcE (own.map (·.2)) tg one sk ms mc me nn))) :=
  PE.fin (PE.imp (pe_lc hc hN hi ok lp.hg lp.ht lp.he hs) fun σ H Q h => lc_main nd htg hn1 hn2 hnc hne h)
theorem PTs.imp {ifs : List Expr} {t u : TT} (h : PTs X ifs t) (i : ∀ σ H Q, u σ H Q → t σ H Q) : PTs X ifs u := ⟨fun pins s σ H Q I w => h.run pins s σ H Q I (i σ H Q w)⟩
theorem pts_nilE : PTs X [] (TmB T W n (M.pure true)) := PTs.imp pts_nil fun σ H Q h => by
  obtain ⟨fz, F, ρ, c, h⟩ := h.start
  exact h H fz F [] c
end
end Ev

set_option Elab.async false
set_option linter.all false
set_option maxRecDepth 100000
set_option maxHeartbeats 4000000
namespace Ev
open PySem PySem.Spec L2

/-! ## statements: the evaluator -/
def stS {α : Type} (m : M α) (k : α → Env → Fl) : Env → Fl := fun ρ => match m ρ with
  | .ok d ρ' => k d ρ'
  | .ex x ρ' => .ex x ρ'
  | .unk => .unk
def optS (o : Option Env) : Fl := match o with
  | some ρ => .nx ρ
  | none => .unk
def seqS (r : Fl) (k : Env → Fl) : Fl := match r with
  | .nx ρ => k ρ
  | .rt d ρ => .rt d ρ
  | .bk ρ => .bk ρ
  | .ct ρ => .ct ρ
  | .ex x ρ => .ex x ρ
  | .unk => .unk
/-- behind a loop's body -/
def loopS (r : Fl) (k : Env → Fl) : Fl := match r with
  | .nx ρ => k ρ
  | .ct ρ => k ρ
  | .bk ρ => .nx ρ
  | .rt d ρ => .rt d ρ
  | .ex x ρ => .ex x ρ
  | .unk => .unk
def whlF (t : M Bool) (b : Env → Fl) : Nat → Env → Fl
  | 0, _ => .unk
  | n + 1, ρ => stS t (fun c ρ1 => match c with
    | true => loopS (b ρ1) (whlF t b n)
    | false => .nx ρ1) ρ
def forF (a : D → Env → Option Env) (b : Env → Fl) : List D → Env → Fl
  | [], ρ => .nx ρ
  | x :: xs, ρ => match a x ρ with
    | some ρ1 => loopS (b ρ1) (forF a b xs)
    | none => .unk
/-- over the list of the slot i, as it stands at each turn -/
def forO (i : Nat) (a : D → Env → Option Env) (b : Env → Fl) : Nat → Nat → Env → Fl
  | 0, _, _ => .unk
  | n + 1, k, ρ => match ρ[i]? with
    | some (some (.nd .lst _ xs)) => match xs[k]? with
      | some x => match x.clean, a x ρ with
        | true, some ρ1 => loopS (b ρ1) (forO i a b n (k + 1))
        | _, _ => .unk
      | none => .nx ρ
    | _ => .unk
def setS (A : List Nat) (i : Nat) (d : D) (ρ : Env) : Fl := if decide (i ∈ A) && decide (i < ρ.length) then .nx (ρ.set i (some d)) else .unk
def augI : BO → Int → Int → Option Int
  | .add, i, j => some (i + j)
  | .sub, i, j => some (i - j)
  | .band, i, j => some (Builtin.bitAnd i j)
  | .bor, i, j => some (Builtin.bitOr i j)
  | _, _, _ => none
/-- o[i] = v at a place -/
def stoM (i : Nat) (js : List Nat) (k v : D) (ρ : Env) : Fl := match ρ[i]? with
  | some (some d) => match D.get js d with
    | some x => match stoD k v x with
      | some x' => match D.mod (fun _ => some x') js d with
        | some d' => .nx (ρ.set i (some d'))
        | none => .unk
      | none => .unk
    | none => .unk
  | _ => .unk
def stfM (i : Nat) (js : List Nat) (f : Nat) (v : D) (ρ : Env) : Fl := match ρ[i]? with
  | some (some d) => match D.get js d with
    | some x => match stfD f v x with
      | some x' => match D.mod (fun _ => some x') js d with
        | some d' => .nx (ρ.set i (some d'))
        | none => .unk
      | none => .unk
    | none => .unk
  | _ => .unk

/-! ## what a statement tells -/
def Keep (A : List Nat) (σ σ' : St) : Prop := σ'.length = σ.length ∧ ∀ j, j ∉ A → σ'[j]? = σ[j]?
theorem Keep.refl {A : List Nat} {σ : St} : Keep A σ σ := ⟨rfl, fun _ _ => rfl⟩
theorem Keep.trans {A : List Nat} {σ σ1 σ2 : St} (a : Keep A σ σ1) (b : Keep A σ1 σ2) : Keep A σ σ2 := ⟨b.1.trans a.1, fun j h => (b.2 j h).trans (a.2 j h)⟩
theorem Keep.set {A : List Nat} {σ : St} {i : Nat} {v : Option V} (h : i ∈ A) : Keep A σ (σ.set i v) := ⟨List.length_set, fun j hj => List.getElem?_set_ne (fun e => hj (by rw [← e]; exact h))⟩
def OutS (T : Tab) (W : WX) (A : List Nat) (σ : St) (H : Hp) (fz : Fz) (F : List Addr) (r : Fl) (D : Ends) : Prop := match r with
  | .nx ρ' => ∀ σ' H' fz' F', Ext H fz F H' fz' F' → EnvR T H' fz' ρ' σ' F' → Keep A σ σ' → D.nx σ' H'
  | .bk ρ' => ∀ σ' H' fz' F', Ext H fz F H' fz' F' → EnvR T H' fz' ρ' σ' F' → Keep A σ σ' → D.bk σ' H'
  | .ct ρ' => ∀ σ' H' fz' F', Ext H fz F H' fz' F' → EnvR T H' fz' ρ' σ' F' → Keep A σ σ' → D.ct σ' H'
  | .rt d ρ' => ∀ v σ' H' fz' F' G, Ext H fz F H' fz' (F' ++ G) → EnvR T H' fz' ρ' σ' F' → Keep A σ σ' → Rep T H' fz' d v G → D.rt v H'
  | .ex x ρ' => ∀ cls dd σ' H' fz' F', Ext H fz F H' fz' F' → EnvR T H' fz' ρ' σ' F' → Keep A σ σ' → RepX T H' fz' x cls dd → W cls dd σ' H'
  | .unk => False
def TmS (T : Tab) (W : WX) (A : List Nat) (m : Env → Fl) : TS := fun D σ H => ∃ fz F ρ, Amb H fz F ∧ EnvR T H fz ρ σ F ∧ OutS T W A σ H fz F (m ρ) D
section
variable {T : Tab} {W : WX} {A : List Nat} {σ σ1 : St} {H H1 : Hp} {fz fz1 : Fz} {F F1 : List Addr} {r : Fl} {D D' : Ends}
theorem OutS.rebase (h : OutS T W A σ H fz F r D) (e : Ext H fz F H1 fz1 F1) (k : Keep A σ σ1) : OutS T W A σ1 H1 fz1 F1 r D := by
  cases r with
  | nx ρ => exact fun σ' H' fz' F' x r q => h σ' H' fz' F' (e.trans0 x) r (k.trans q)
  | bk ρ => exact fun σ' H' fz' F' x r q => h σ' H' fz' F' (e.trans0 x) r (k.trans q)
  | ct ρ => exact fun σ' H' fz' F' x r q => h σ' H' fz' F' (e.trans0 x) r (k.trans q)
  | rt d ρ => exact fun v σ' H' fz' F' G x r q => h v σ' H' fz' F' G (e.trans0 x) r (k.trans q)
  | ex y ρ => exact fun cls dd σ' H' fz' F' x r q => h cls dd σ' H' fz' F' (e.trans0 x) r (k.trans q)
  | unk => exact h
/-- ends that are alike -/
theorem OutS.seq {k : Env → Fl} (h : OutS T W A σ H fz F (seqS r k) D) : OutS T W A σ H fz F r { D with nx := fun σ' H' => TmS T W A k D σ' H' } := by
  cases r with
  | nx ρ =>
    have h : OutS T W A σ H fz F (k ρ) D := h
    exact fun σ' H' fz' F' x e q => ⟨fz', F', ρ, x.amb, e, h.rebase x q⟩
  | bk ρ => exact h
  | ct ρ => exact h
  | rt d ρ => exact h
  | ex y ρ => exact h
  | unk => exact h
theorem OutS.loop {k : Env → Fl} {N : St → Hp → Prop} (h : OutS T W A σ H fz F (loopS r k) D) (hN : ∀ σ' H' fz' F' ρ', Ext H fz F H' fz' F' → EnvR T H' fz' ρ' σ' F' → Keep A σ σ' → OutS T W A σ' H' fz' F' (k ρ') D → N σ' H') : OutS T W A σ H fz F r { D with nx := N, ct := N, bk := D.nx } := by
  cases r with
  | nx ρ =>
    have h : OutS T W A σ H fz F (k ρ) D := h
    exact fun σ' H' fz' F' x e q => hN σ' H' fz' F' ρ x e q (h.rebase x q)
  | ct ρ =>
    have h : OutS T W A σ H fz F (k ρ) D := h
    exact fun σ' H' fz' F' x e q => hN σ' H' fz' F' ρ x e q (h.rebase x q)
  | bk ρ => exact h
  | rt d ρ => exact h
  | ex y ρ => exact h
  | unk => exact h
theorem TmS.start {m : Env → Fl} (h : TmS T W A m D σ H) : ∃ fz F ρ, Cur T σ H fz F false H fz F [] ρ ∧ OutS T W A σ H fz F (m ρ) D := by
  obtain ⟨fz, F, ρ, a, e, h⟩ := h
  exact ⟨fz, F, ρ, Cur.refl a e, h⟩
theorem OutX.ofS {x : Exn} {ρ' : Env} (h : OutS T W A σ H fz F (.ex x ρ') D) : OutX T W σ H fz F x ρ' := fun cls dd H' fz' F' e r q => h cls dd σ H' fz' F' e r Keep.refl q
theorem OutS.bind {m : M Ev.D} {k : Ev.D → Env → Fl} {pb nb : Bool} {G1 : List Addr} {ρ1 : Env} (c : Cur T σ H fz F false H1 fz1 F1 G1 ρ1) (h : OutS T W A σ H fz F (stS m k ρ1) D) :
    Tm T W pb nb m σ H1 fun w H2 => ∃ fz2 F2 G2 y ρ2, Cur T σ H1 fz1 F1 nb H2 fz2 F2 G2 ρ2 ∧ Val T pb H2 fz2 F2 G2 y w ∧ m ρ1 = .ok y ρ2 ∧ OutS T W A σ H fz F (k y ρ2) D := by
  refine ⟨fz1, F1, ρ1, c.amb, c.env, ?_⟩
  unfold stS at h
  cases e : m ρ1 with
  | ok y ρ2 =>
    rw [e] at h
    exact fun w H2 fz2 F2 G2 c2 v2 => ⟨fz2, F2, G2, y, ρ2, c2, v2, rfl, h⟩
  | ex x ρ' =>
    rw [e] at h
    exact OutX.step c (OutX.ofS h)
  | unk =>
    rw [e] at h
    exact h.elim
theorem OutS.bindL {m : M (List Ev.D)} {k : List Ev.D → Env → Fl} {pb nb : Bool} {G1 : List Addr} {ρ1 : Env} (c : Cur T σ H fz F false H1 fz1 F1 G1 ρ1) (h : OutS T W A σ H fz F (stS m k ρ1) D) :
    TmL T W pb nb m σ H1 fun w H2 => ∃ fz2 F2 G2 y ρ2, Cur T σ H1 fz1 F1 nb H2 fz2 F2 G2 ρ2 ∧ ValL T pb H2 fz2 F2 G2 y w ∧ m ρ1 = .ok y ρ2 ∧ OutS T W A σ H fz F (k y ρ2) D := by
  refine ⟨fz1, F1, ρ1, c.amb, c.env, ?_⟩
  unfold stS at h
  cases e : m ρ1 with
  | ok y ρ2 =>
    rw [e] at h
    exact fun w H2 fz2 F2 G2 c2 v2 => ⟨fz2, F2, G2, y, ρ2, c2, v2, rfl, h⟩
  | ex x ρ' =>
    rw [e] at h
    exact OutX.step c (OutX.ofS h)
  | unk =>
    rw [e] at h
    exact h.elim
theorem OutS.bindB {m : M Bool} {k : Bool → Env → Fl} {nb : Bool} {G1 : List Addr} {ρ1 : Env} (c : Cur T σ H fz F false H1 fz1 F1 G1 ρ1) (h : OutS T W A σ H fz F (stS m k ρ1) D) :
    TmB T W nb m σ H1 fun b H2 => ∃ fz2 F2 G2 ρ2, Cur T σ H1 fz1 F1 nb H2 fz2 F2 G2 ρ2 ∧ m ρ1 = .ok b ρ2 ∧ OutS T W A σ H fz F (k b ρ2) D := by
  refine ⟨fz1, F1, ρ1, c.amb, c.env, ?_⟩
  unfold stS at h
  cases e : m ρ1 with
  | ok y ρ2 =>
    rw [e] at h
    exact fun H2 fz2 F2 G2 c2 => ⟨fz2, F2, G2, ρ2, c2, rfl, h⟩
  | ex x ρ' =>
    rw [e] at h
    exact OutX.step c (OutX.ofS h)
  | unk =>
    rw [e] at h
    exact h.elim
theorem TmB.mono {m : M Bool} {Q Q' : Bool → Hp → Prop} {n : Bool} {H : Hp} (h : TmB T W n m σ H Q) (i : ∀ b H', Q b H' → Q' b H') : TmB T W n m σ H Q' := by
  obtain ⟨fz, F, ρ, a, e, h⟩ := h
  refine ⟨fz, F, ρ, a, e, ?_⟩
  revert h
  unfold OutB
  cases m ρ with
  | ok d ρ' => exact fun h H' fz' F' G c => i _ _ (h H' fz' F' G c)
  | ex x ρ' => exact fun h => h
  | unk => exact fun h => h
/-- a slot is given a value -/
theorem OutS.set {i : Nat} {d : Ev.D} {v : V} {G1 : List Addr} {ρ1 : Env} (c : Cur T σ H fz F false H1 fz1 F1 G1 ρ1) (r : Rep T H1 fz1 d v G1) (h : OutS T W A σ H fz F (setS A i d ρ1) D) : D.nx (σ.set i (some v)) H1 := by
  unfold setS at h
  split at h
  · rename_i hc
    rw [Bool.and_eq_true, decide_eq_true_eq, decide_eq_true_eq] at hc
    obtain ⟨F', B, p, F'', e', p'⟩ := c.env.putP hc.2 r
    refine h _ H1 fz1 F'' (c.ext.drop ?_ fun a ha => ?_) e' (Keep.set hc.1)
    · have nd := c.ext.amb.nd
      have q : (F1 ++ G1).Perm ((F' ++ G1) ++ B) := by
        have q1 : (F1 ++ G1).Perm ((F' ++ B) ++ G1) := p.append_right G1
        refine q1.trans ?_
        rw [List.append_assoc, List.append_assoc]
        exact List.perm_append_comm.append_left F'
      exact p'.nodup_iff.mpr (List.nodup_append.mp (q.nodup_iff.mp nd)).1
    · rcases List.mem_append.mp (p'.mem_iff.mp ha) with q | q
      · exact List.mem_append_left _ (p.mem_iff.mpr (List.mem_append_left _ q))
      · exact List.mem_append_right _ q
  · exact h.elim
end

/-! ## statements: the rules -/
section
variable {X : Cx} {T : Tab} {W : WX} {A : List Nat} {pos : Pos}
theorem PS.imp {s : Stmt} {t u : TS} (h : PS X s t) (i : ∀ D σ H, u D σ H → t D σ H) : PS X s u := ⟨fun pins s σ H D I w => h.run pins s σ H D I (i D σ H w)⟩
theorem PSs.imp {s : List Stmt} {t u : TS} (h : PSs X s t) (i : ∀ D σ H, u D σ H → t D σ H) : PSs X s u := ⟨fun pins s σ H D I w => h.run pins s σ H D I (i D σ H w)⟩
theorem pss_nilS : PSs X [] (TmS T W A fun ρ => .nx ρ) := PSs.imp pss_nil fun D σ H h => by
  obtain ⟨fz, F, ρ, c, h⟩ := h.start
  exact h σ H fz F (Ext.refl c.amb) c.env Keep.refl
theorem pss_consS {s : Stmt} {ss : List Stmt} {m k : Env → Fl} (h1 : PS X s (TmS T W A m)) (h2 : PSs X ss (TmS T W A k)) : PSs X (s :: ss) (TmS T W A fun ρ => seqS (m ρ) k) :=
  PSs.imp (pss_cons h1 h2) fun D σ H h => by
    obtain ⟨fz, F, ρ, c, h⟩ := h.start
    exact ⟨fz, F, ρ, c.amb, c.env, h.seq⟩
theorem ps_eS {e : Expr} {m : M D} {ne : Bool} (he : PE X e (Tm T W false ne m)) (hs : swapsWith e none pos.line X.env = pure false) : PS X (.Expr e pos) (TmS T W A (stS m fun _ ρ => .nx ρ)) :=
  PS.imp (ps_expr he hs) fun D σ H h => by
    obtain ⟨fz, F, ρ, c, h⟩ := h.start
    refine (OutS.bind c h).mono ?_
    rintro v H1 ⟨fz1, F1, G1, d, ρ1, c1, v1, _, h1⟩
    have c01 := (c.trans c1 (n := false) fun q => by cases q).drop0
    have e := c01.ext
    rw [List.append_nil] at e
    exact h1 σ H1 fz1 F1 e c1.env Keep.refl
theorem ps_docS {x : Str} {j : Nat} {p p' : Pos} : PS X (.Expr (.Constant (.str x) j p) p') (TmS T W A fun ρ => .nx ρ) := PS.imp ps_doc fun D σ H h => by
  obtain ⟨fz, F, ρ, c, h⟩ := h.start
  exact h σ H fz F (Ext.refl c.amb) c.env Keep.refl
theorem ps_pasS : PS X (.Pass pos) (TmS T W A fun ρ => .nx ρ) := PS.imp ps_pass fun D σ H h => by
  obtain ⟨fz, F, ρ, c, h⟩ := h.start
  exact h σ H fz F (Ext.refl c.amb) c.env Keep.refl
theorem ps_brkS : PS X (.Break pos) (TmS T W A fun ρ => .bk ρ) := PS.imp ps_break fun D σ H h => by
  obtain ⟨fz, F, ρ, c, h⟩ := h.start
  exact h σ H fz F (Ext.refl c.amb) c.env Keep.refl
theorem ps_cntS : PS X (.Continue pos) (TmS T W A fun ρ => .ct ρ) := PS.imp ps_continue fun D σ H h => by
  obtain ⟨fz, F, ρ, c, h⟩ := h.start
  exact h σ H fz F (Ext.refl c.amb) c.env Keep.refl
theorem ps_nevS {s : Stmt} : PS X s (TmS T W A fun _ => .unk) := PS.imp ps_never fun D σ H h => by
  obtain ⟨fz, F, ρ, c, h⟩ := h.start
  exact h
theorem ps_retS {e : Expr} {m : M D} {ne : Bool} (he : PE X e (Tm T W false ne m)) : PS X (.Return (some e) pos) (TmS T W A (stS m fun d ρ => .rt d ρ)) :=
  PS.imp (ps_ret he) fun D σ H h => by
    obtain ⟨fz, F, ρ, c, h⟩ := h.start
    refine (OutS.bind c h).mono ?_
    rintro v H1 ⟨fz1, F1, G1, d, ρ1, c1, v1, _, h1⟩
    have c01 := c.trans c1 (n := false) fun q => by cases q
    rw [List.append_nil] at c01
    exact h1 v σ H1 fz1 F1 G1 c01.ext c1.env Keep.refl v1
theorem ps_rtnS : PS X (.Return none pos) (TmS T W A fun ρ => .rt D.non ρ) := PS.imp ps_retN fun D σ H h => by
  obtain ⟨fz, F, ρ, c, h⟩ := h.start
  exact h .non σ H fz F [] (by simpa using Ext.refl c.amb) c.env Keep.refl ⟨rfl, rfl⟩
theorem ps_setS {i : Nat} {x : Str} {e : Expr} {m : M D} {ne : Bool} {pos' : Pos} (hN : X.N.Nodup) (hi : X.N[i]? = some x) (hx : L2.Loc X.env.scope x) (he : PE X e (Tm T W false ne m)) (hs : swapsWith e (some (.Name x pos')) pos.line X.env = pure false) (hf : X.fn x = true ∨ X.env.scope.names.lookup x = some .local) :
    PS X (.Assign [.Name x pos'] e pos) (TmS T W A (stS m fun d ρ => setS A i d ρ)) :=
  PS.imp (ps_set hN hi hx he hs hf) fun D σ H h => by
    obtain ⟨fz, F, ρ, c, h⟩ := h.start
    refine (OutS.bind c h).mono ?_
    rintro v H1 ⟨fz1, F1, G1, d, ρ1, c1, v1, _, h1⟩
    have c01 := c.trans c1 (n := false) fun q => by cases q
    rw [List.append_nil] at c01
    exact OutS.set c01 v1 h1
theorem ps_setFS {i : Nat} {x : Str} {e : Expr} {m : M D} {ne : Bool} {pos' : Pos} (hN : X.N.Nodup) (hi : X.N[i]? = some x) (hx : L2.Loc X.env.scope x) (he : PE X e (Tm T W false ne m)) (hs : swapsWith e (some (.Name x pos')) pos.line X.env = pure false) (hf : X.fn x = true ∨ X.env.scope.names.lookup x = some .local) :
    PS X (.Assign [.Name x pos'] e pos) (TmS T W A (stS m fun d ρ => setS A i d.frz ρ)) :=
  PS.imp (ps_set hN hi hx he hs hf) fun D σ H h => by
    obtain ⟨fz, F, ρ, c, h⟩ := h.start
    refine (OutS.bind c h).mono ?_
    rintro v H1 ⟨fz1, F1, G1, d, ρ1, c1, v1, _, h1⟩
    have c01 := (c.trans c1 (n := false) fun q => by cases q)
    rw [List.append_nil] at c01
    exact OutS.set c01.frz (Rep.frz v1 fun a h => h) h1
theorem ps_ifS {c : Expr} {a b : List Stmt} {mc : M Bool} {ma mb : Env → Fl} {nc : Bool} (hc : PT X c (TmB T W nc mc)) (ha : PSs X a (TmS T W A ma)) (hb : PSs X b (TmS T W A mb)) : PS X (.If c a b pos) (TmS T W A (stS mc fun k ρ => match k with | true => ma ρ | false => mb ρ)) :=
  PS.imp (ps_if hc ha hb) fun D σ H h => by
    obtain ⟨fz, F, ρ, cu, h⟩ := h.start
    refine (OutS.bindB cu h).mono ?_
    rintro k H1 ⟨fz1, F1, G1, ρ1, c1, _, h1⟩
    have c01 := (cu.trans c1 (n := false) fun q => by cases q).drop0
    have e := c01.ext
    rw [List.append_nil] at e
    cases k with
    | true => rw [if_pos rfl]; exact ⟨fz1, F1, ρ1, e.amb, c1.env, h1.rebase e Keep.refl⟩
    | false => rw [if_neg Bool.false_ne_true]; exact ⟨fz1, F1, ρ1, e.amb, c1.env, h1.rebase e Keep.refl⟩
theorem ps_whlS {c : Expr} {body : List Stmt} {mc : M Bool} {mb : Env → Fl} {nc : Bool} {fu : Nat} (hp : PassesOwn (model X.prog X.w) X.A X.env X.xe) (hc : PT X c (TmB T W nc mc)) (hb : PSs X body (TmS T W A mb)) : PS X (.While c body [] pos) (TmS T W A (whlF mc mb fu)) :=
  PS.imp (ps_while hp hc hb) fun D σ H h => by
    refine ⟨fun m σ H => TmS T W A (whlF mc mb m) D σ H, ⟨fu, h⟩, ?_⟩
    rintro m σ1 H1 h1
    obtain ⟨fz, F, ρ, cu, h1⟩ := h1.start
    cases m with
    | zero => exact h1.elim
    | succ m =>
      refine (OutS.bindB cu h1).mono ?_
      rintro k H2 ⟨fz1, F1, G1, ρ1, c1, _, h2⟩
      have c01 := (cu.trans c1 (n := false) fun q => by cases q).drop0
      have e := c01.ext
      rw [List.append_nil] at e
      have h2 := h2.rebase e Keep.refl
      cases k with
      | false => rw [if_neg Bool.false_ne_true]; exact h2 σ1 H2 fz1 F1 (Ext.refl e.amb) c1.env Keep.refl
      | true =>
        rw [if_pos rfl]
        refine ⟨fun σ' H' => TmS T W A (whlF mc mb m) D σ' H', fun σ' H' q => ⟨m, Nat.lt_succ_self m, q⟩, fz1, F1, ρ1, e.amb, c1.env, ?_⟩
        exact OutS.loop h2 fun σ' H' fz' F' ρ' x r q o => ⟨fz', F', ρ', x.amb, r, o⟩
end
end Ev

set_option Elab.async false
set_option linter.all false
set_option maxRecDepth 100000
set_option maxHeartbeats 4000000
/-! t += u for tuples -/
namespace Ev
open PySem PySem.Spec L2 PyProof.Rows
section
variable {prog : Program} {w : World} {A : Around} {E : Value → Shared → Prop} {s : Shared}
theorem noI_tuple_add : typeLookup (.type "tuple") (dunderI "add") = pure none := by rw [typeLookup_type, builtinLookup_eq_fast]; kernel_rfl
theorem icat_tup {t b : Addr} {vs ws : List Value} {Q : Value → Shared → Prop} (ht : IsTup s.heap t vs.toArray) (hb : IsTup s.heap b ws.toArray) 
    (h0 : vs = [] → Q (.ref b) s) (h1 : vs ≠ [] → ws = [] → Q (.ref t) s) (h2 : vs ≠ [] → ws ≠ [] → Q (.ref s.heap.objs.size) { s with heap := s.heap.push { cls := .type "tuple", data := .seq (vs ++ ws).toArray } })
    (hsz : vs.length + ws.length ≤ sizeLine) : wpAny (model prog w) A (inplaceOp .Add (.ref t) (.ref b)) Q E s := by
  obtain ⟨⟨cls, dd, data, sl⟩, ho, hc, n, hd⟩ := id ht
  obtain ⟨⟨cls2, dd2, data2, sl2⟩, ho2, hc2, n2, hd2⟩ := id hb
  simp only at hc hd hc2 hd2
  subst hc hd hc2 hd2
  have e : vs.toArray ++ ws.toArray = (vs ++ ws).toArray := by simp
  refine inplaceOp_concat (T := "tuple") ⟨_, ho, rfl⟩ ⟨_, ho2, rfl⟩ noI_tuple_add noFill_tuple_add seq_tuple_add ?_
  by_cases hv : vs = []
  · exact call_meets PySem.F.slot_tuple_add ⟨_, ho, rfl⟩ PySem.F.entry_tuple_add (PySem.F.args_tuple_add_2 _ _)
      (tuple_addW0 t b vs.toArray ws.toArray n n2 dd dd2 sl sl2 (by simp [hv])) ⟨ho, ho2, h0 hv⟩
  · by_cases hw : ws = []
    · exact call_meets PySem.F.slot_tuple_add ⟨_, ho, rfl⟩ PySem.F.entry_tuple_add (PySem.F.args_tuple_add_2 _ _)
        (tuple_addW1 t b vs.toArray ws.toArray n n2 dd dd2 sl sl2 (by simpa using hv) (by simp [hw])) ⟨ho, ho2, h1 hv hw⟩
    · refine call_meets PySem.F.slot_tuple_add ⟨_, ho, rfl⟩ PySem.F.entry_tuple_add (PySem.F.args_tuple_add_2 _ _)
        (tuple_addW2 t b vs.toArray ws.toArray n n2 dd dd2 sl sl2 (by simpa using hv) (by simpa using hw) (by rw [List.size_toArray, List.size_toArray]; exact hsz)) ⟨ho, ho2, ?_⟩
      rw [e]
      exact h2 hv hw
end
section
variable {X : Cx}
theorem iop_catA : OpR X (inplaceOp .Add) (rCatA X.K) := by
  intro pins s σ H x y v u Q I rx ry h
  obtain ⟨a, b, xs, ys, rfl, rfl, ha, hb, hz, q0, q1, q2⟩ := h
  cases rx
  cases ry
  obtain ⟨its, r1, p1, _⟩ := I.tuple ha
  obtain ⟨its2, r2, p2, _⟩ := I.tuple hb
  refine icat_tup p1 p2 (fun z => ⟨.ref b, H, I, rfl, q0 (r1.nil_iff.mp z)⟩) (fun z0 z => ⟨.ref a, H, I, rfl, q1 (fun w => z0 (r1.nil_iff.mpr w)) (r2.nil_iff.mp z)⟩) (fun z0 z => ?_) (by rw [← r1.length, ← r2.length]; exact hz)
  refine ⟨.ref s.heap.objs.size, _, I.laid (t' := s.toks) (o := .tup (xs ++ ys)) (fun b ob q => Heap.get?_push_of_some _ q) (Nat.le_refl _) ?_, rfl, q2 (fun w => z0 (r1.nil_iff.mpr w)) (fun w => z (r2.nil_iff.mpr w)) _ (I.hok.fresh (Nat.le_refl _))⟩
  exact ⟨by rw [List.length_append]; exact hz, _, r1.append r2, IsTup.new _ _⟩
end
end Ev

set_option Elab.async false
set_option linter.all false
set_option maxRecDepth 100000
set_option maxHeartbeats 4000000
namespace Ev
open PySem PySem.Spec L2

section
variable {X : Cx} {T : Tab} {W : WX} {A : List Nat} {pos : Pos}
/-! ## more of assignments -/
theorem ps_setLcS {i : Nat} {y : Str} {py spos : Pos} {elt tgE iter : Expr} {ifs : List Expr} {sc : Scope} {own : List (Str × Nat)} {tg : List Nat} {one nn nc ne ns n : Bool} {sk : SK} {ms : M (List D)} {mc : M Bool} {me : M D} (hc : X.calm = true) (hN : X.N.Nodup) (hy : X.N[i]? = some y) (hyl : X.env.scope.names.lookup y = some .local)
    (hsw : swapsWith (.ListComp elt [⟨tgE, iter, ifs, 0⟩] sc pos) (some (.Name y py)) spos.line X.env = pure true) (hi : PI X tgE iter (TmI T W ns sk ms)) (ok : BlkOk X.N X.env.scope sc own)
    (lp : LcP X T sc tgE elt ifs tg one nc ne mc me) (hs : ∀ x, foldedSetIterable iter X.env x = pure x) (nd : (own.map (·.2)).Nodup) (htg : ∀ i ∈ tg, i ∈ own.map (·.2)) (hn1 : n = true → ns = true) (hn2 : n = true → nn = true) (hnc : nn = true → nc = true) (hne : nn = true → ne = true) :
    PS X (.Assign [.Name y py] (.ListComp elt [⟨tgE, iter, ifs, 0⟩] sc pos) spos) (TmS T W A (stS (fin false (lcE (own.map (·.2)) tg one sk ms mc me nn)) fun d ρ => setS A i d ρ)) :=
  PS.imp (ps_setLc hc hN hy hyl hsw hi ok lp.hg lp.ht lp.he hs) fun D σ H h => by
    obtain ⟨fz, F, ρ, c, h⟩ := h.start
    have w := OutS.bind (pb := false) (nb := n) c h
    have w2 := w.fin
    refine lc_main nd htg hn1 hn2 hnc hne (w2.mono ?_)
    rintro v H1 ⟨fz1, F1, G1, d, ρ1, c1, v1, _, h1⟩
    have c01 := c.trans c1 (n := false) fun q => by cases q
    rw [List.append_nil] at c01
    exact OutS.set c01 v1 h1
def unpS (A is : List Nat) (d : D) (ρ : Env) : Fl := if is.all (fun i => decide (i ∈ A)) && d.clean then optS (asnD is false d ρ) else .unk
theorem asn_nx {σ : St} {H H1 : Hp} {fz fz1 : Fz} {F F1 : List Addr} {ρ2 : Env} {D : Ends} {tg : List Nat} (c : Ext H fz F H1 fz1 F1) (hA : ∀ i ∈ tg, i ∈ A) (h : OutS T W A σ H fz F (.nx ρ2) D) : AsnTo T H1 fz1 F1 tg σ ρ2 D.nx :=
  fun σ1 F2 R p e hl hj => h σ1 H1 fz1 F2 (c.drop (List.nodup_append.mp (p.nodup_iff.mp c.amb.nd)).1 fun a ha => p.mem_iff.mpr (List.mem_append_left _ ha)) e ⟨hl, fun j hjn => hj j fun z => hjn (hA j z)⟩
theorem ps_unpS {tgE e : Expr} {m : M D} {ne : Bool} {is : List Nat} (he : PE X e (Tm T W false ne m)) (hg : PG X tgE (gT T.K false is)) (hs : swapsWithSole [tgE] e pos.line X.env = pure false) (hw : swappedStores [tgE] e X.env = pure none) (h1 : (assignEach [tgE] X.env).map (·.2) = [assign tgE X.env]) :
    PS X (.Assign [tgE] e pos) (TmS T W A (stS m fun d ρ => unpS A is d ρ)) :=
  PS.imp (ps_asg he hg hs hw h1) fun D σ H h => by
    obtain ⟨fz, F, ρ, c, h⟩ := h.start
    refine (OutS.bind c h).mono ?_
    rintro v H1 ⟨fz1, F1, G1, d, ρ1, c1, v1, _, h1⟩
    unfold unpS at h1
    split at h1
    · rename_i hc
      rw [Bool.and_eq_true, List.all_eq_true] at hc
      have v1 : Rep T H1 fz1 d v G1 := v1
      have e := clean_nil hc.2 v1
      subst e
      have c01 := (c.trans c1 (n := false) fun q => by cases q).drop0
      have ee := c01.ext
      rw [List.append_nil] at ee
      cases ho : asnD is false d ρ1 with
      | none => rw [ho] at h1; exact h1.elim
      | some ρ2 =>
        rw [ho] at h1
        exact one_asn ho c1.env v1 (asn_nx ee (fun i hi => of_decide_eq_true (hc.1 i hi)) h1)
    · exact h1.elim
def parS (A : List Nat) (i j : Nat) (ds : List D) (ρ : Env) : Fl := match ds with
  | [a, b] => if (decide (i ∈ A) && decide (j ∈ A)) && (decide (i < ρ.length) && decide (j < ρ.length)) then .nx ((ρ.set i (some a)).set j (some b)) else .unk
  | _ => .unk
theorem ps_parS {i j : Nat} {x y : Str} {a b : Expr} {ml : M (List D)} {nl : Bool} {px py pt : Pos} {kt k2 pt2} (hc : X.calm = true) (hN : X.N.Nodup) (hi : X.N[i]? = some x) (hj : X.N[j]? = some y) (hij : i ≠ j)
    (hx : X.env.scope.names.lookup x = some .local) (hy : X.env.scope.names.lookup y = some .local) (ha : PA X [a, b] (TmL T W false nl ml))
    (hw : swappedStores [.Tuple [.Name x px, .Name y py] kt pt] (.Tuple [a, b] k2 pt2) X.env = pure (some [x, y]))
    (hs : swapsWithSole [.Tuple [.Name x px, .Name y py] kt pt] (.Tuple [a, b] k2 pt2) pos.line X.env = pure false) :
    PS X (.Assign [.Tuple [.Name x px, .Name y py] kt pt] (.Tuple [a, b] k2 pt2) pos) (TmS T W A (stS ml fun ds ρ => parS A i j ds ρ)) :=
  PS.imp (ps_par hc hN hi hj hij hx hy ha hw hs) fun D σ H h => by
    obtain ⟨fz, F, ρ, c, h⟩ := h.start
    refine (OutS.bindL (pb := false) c h).mono ?_
    rintro vs H1 ⟨fz1, F1, G1, ds, ρ1, c1, v1, _, h1⟩
    unfold parS at h1
    split at h1
    · rename_i d1 d2
      split at h1
      · rename_i hc
        simp only [Bool.and_eq_true, decide_eq_true_eq] at hc
        obtain ⟨v, r, A1, A2, e1, e2, r1, r2⟩ := v1
        obtain ⟨w, r', A3, A4, e3, e4, r3, r4⟩ := r2
        obtain ⟨rfl, rfl⟩ := r4
        subst e1; subst e3; subst e4; subst e2
        refine ⟨v, w, rfl, ?_⟩
        have c01 := c.trans c1 (n := false) fun q => by cases q
        rw [List.append_nil, List.append_nil] at c01
        obtain ⟨Fa, B, p, Fb, e', p'⟩ := c01.env.putP hc.2.1 r1
        obtain ⟨Fc, B2, p2, Fd, e'', p''⟩ := e'.putP (by rw [List.length_set]; exact hc.2.2) r3
        refine h1 _ H1 fz1 Fd (c01.ext.drop ?_ fun b hb => ?_) e'' ((Keep.set hc.1.1).trans (Keep.set hc.1.2))
        · have nd := c01.ext.amb.nd
          -- F1 ++ (A1 ++ A3) ~ Fd ++ garbage
          have q1 : (F1 ++ (A1 ++ A3)).Perm ((Fd) ++ (B2 ++ B)) := by
            have s1 : (F1 ++ (A1 ++ A3)).Perm ((Fa ++ B) ++ (A1 ++ A3)) := p.append_right _
            have s2 : ((Fa ++ B) ++ (A1 ++ A3)).Perm ((Fa ++ A1) ++ (A3 ++ B)) := by
              rw [List.append_assoc, List.append_assoc]
              refine List.Perm.append_left Fa ?_
              rw [← List.append_assoc]
              refine (List.perm_append_comm.append_right A3).trans ?_
              rw [List.append_assoc]
              exact List.perm_append_comm.append_left A1
            have s3 : ((Fa ++ A1) ++ (A3 ++ B)).Perm ((Fc ++ B2) ++ (A3 ++ B)) := (p'.symm.trans p2).append_right _
            have s4 : ((Fc ++ B2) ++ (A3 ++ B)).Perm ((Fc ++ A3) ++ (B2 ++ B)) := by
              rw [List.append_assoc, List.append_assoc]
              exact (List.perm_append_comm_assoc B2 A3 B).append_left Fc
            exact s1.trans (s2.trans (s3.trans (s4.trans (p''.symm.append_right _))))
          exact (List.nodup_append.mp (q1.nodup_iff.mp nd)).1
        · rcases List.mem_append.mp (p''.mem_iff.mp hb) with q | q
          · rcases List.mem_append.mp (p'.mem_iff.mp (p2.mem_iff.mpr (List.mem_append_left _ q))) with q | q
            · exact List.mem_append_left _ (p.mem_iff.mpr (List.mem_append_left _ q))
            · simp [q]
          · simp [q]
      · exact h1.elim
    · exact h1.elim
/-- name op= thing, by what is there already -/
def augI2 (o : BO) (xs : List D) (d : D) : Option D := match o, d with
  | .add, .nd .tup false ys => if lineB (xs.length + ys.length) && (D.cleanL xs && D.cleanL ys) then some (D.tup (xs ++ ys)) else none
  | _, _ => none
theorem augI2_inv {o : BO} {xs : List Ev.D} {d c : Ev.D} (h : augI2 o xs d = some c) : ∃ ys, o = .add ∧ d = Ev.D.nd .tup false ys ∧ (lineB (xs.length + ys.length) && (Ev.D.cleanL xs && Ev.D.cleanL ys)) = true ∧ c = Ev.D.tup (xs ++ ys) := by
  unfold augI2 at h
  split at h
  · rename_i ys
    split at h
    · rename_i hc
      cases h
      exact ⟨ys, rfl, rfl, hc, rfl⟩
    · cases h
  · cases h
def augS (A : List Nat) (i : Nat) (o : BO) (m : M D) : Env → Fl := fun ρ => match ρ[i]? with
  | some (some (.at (.int a))) => stS m (fun d ρ1 => match d with
    | .at (.int b) => match augI o a b with
      | some c => setS A i (D.int c) ρ1
      | none => .unk
    | _ => .unk) ρ
  | some (some (.nd .tup false xs)) => stS m (fun d ρ1 => match augI2 o xs d with
    | some c => setS A i c ρ1
    | none => .unk) ρ
  | _ => .unk
theorem pip_aug (o : BO) : PIp X (opO o) (fun x y H Q => (∃ i j k, x = .int i ∧ y = .int j ∧ augI o i j = some k ∧ Q (.int k) H) ∨ (o = .add ∧ rCatA X.K x y H Q)) := by
  intro pins s σ H x y v u Q I r1 r2 h
  rcases h with ⟨i, j, k, e1, e2, e3, q⟩ | ⟨rfl, q⟩
  · cases o with
    | add => cases e3; exact ip_add pins s σ H x y v u Q I r1 r2 ⟨i, j, e1, e2, q⟩
    | sub => cases e3; exact ip_sub pins s σ H x y v u Q I r1 r2 ⟨i, j, e1, e2, q⟩
    | band => cases e3; exact iop_and pins s σ H x y v u Q I r1 r2 ⟨i, j, e1, e2, q⟩
    | bor => cases e3; exact iop_or pins s σ H x y v u Q I r1 r2 ⟨i, j, e1, e2, q⟩
    | _ => cases e3
  · exact iop_catA pins s σ H x y v u Q I r1 r2 q
theorem ps_augS {i : Nat} {x : Str} {e : Expr} {m : M D} {ne : Bool} {o : BO} {pos' : Pos} (hK : X.K = T.K) (hN : X.N.Nodup) (hi : X.N[i]? = some x) (hx : L2.Loc X.env.scope x) (he : PE X e (Tm T W false ne m)) (hf : X.fn x = true ∨ X.env.scope.names.lookup x = some .local) :
    PS X (.AugAssign (.Name x pos') (opO o) e pos) (TmS T W A (augS A i o m)) :=
  PS.imp (ps_aug hN hi hx he (pip_aug o) hf) fun D σ H h => by
    obtain ⟨fz, F, ρ, c, h⟩ := h.start
    unfold augS at h
    split at h
    · rename_i a ha
      obtain ⟨v, A', B, C', eF, eσ, r, _⟩ := c.env.split ha
      have ev : v = .int a := r.1
      subst ev
      refine ⟨_, eσ, (OutS.bind c h).mono ?_⟩
      rintro w H1 ⟨fz1, F1, G1, d, ρ1, c1, v1, -, h1⟩
      split at h1
      · rename_i b
        split at h1
        · rename_i k hk
          have e2 : w = .int b := (show Rep T H1 fz1 (Ev.D.int b) w G1 from v1).1
          have c01 := (c.trans c1 (n := false) fun q => by cases q).drop0
          exact .inl ⟨a, b, k, rfl, e2, hk, OutS.set (d := Ev.D.int k) (v := .int k) c01 ⟨rfl, rfl⟩ h1⟩
        · exact h1.elim
      · exact h1.elim
    · rename_i xs ha
      obtain ⟨v, A', B, C', eF, eσ, r, _⟩ := c.env.split ha
      refine ⟨_, eσ, (OutS.bind c h).mono ?_⟩
      rintro w H1 ⟨fz1, F1, G1, d, ρ1, c1, v1, -, h1⟩
      split at h1
      · rename_i c' hk
        have v1 : Rep T H1 fz1 d w G1 := v1
        obtain ⟨ys, rfl, rfl, hc, rfl⟩ := augI2_inv hk
        rw [Bool.and_eq_true, Bool.and_eq_true] at hc
        have cx : (Ev.D.nd .tup false xs).clean = true := by show (!false && Ev.D.cleanL xs) = true; rw [hc.2.1]; rfl
        have cy : (Ev.D.nd .tup false ys).clean = true := by show (!false && Ev.D.cleanL ys) = true; rw [hc.2.2]; rfl
        have eB := clean_nil cx r
        subst eB
        have eG := clean_nil cy v1
        subst eG
        have rx : Rep T H1 fz1 (.nd .tup false xs) v [] := r.fr (c1.ext.fr c.amb fun _ h => nomatch h)
        have c01 := (c.trans c1 (n := false) fun q => by cases q).drop0
        obtain ⟨a, vs, e1, s1, k1, r1⟩ := Held.tupC (F := []) (G := []) ⟨[], rx, fun _ h => nomatch h⟩ hc.2.1
        obtain ⟨b, ws, e2, s2, k2, r2⟩ := Held.tupC (F := []) (G := []) ⟨[], v1, fun _ h => nomatch h⟩ hc.2.2
        subst e1; subst e2
        refine .inr ⟨rfl, a, b, vs, ws, rfl, rfl, by rw [hK]; exact s1, by rw [hK]; exact s2, by rw [← r1.len, ← r2.len]; exact lineB_ok hc.1, fun z => ?_, fun z z2 => ?_, fun z z2 q hq => ?_⟩
        · subst z
          have : xs = [] := List.eq_nil_of_length_eq_zero r1.len
          subst this
          exact OutS.set (d := Ev.D.tup ys) (v := .ref b) c01 ⟨b, ws, [], rfl, k2, r2, rfl⟩ h1
        · subst z2
          have : ys = [] := List.eq_nil_of_length_eq_zero r2.len
          subst this
          rw [List.append_nil] at h1
          exact OutS.set (d := Ev.D.tup xs) (v := .ref a) c01 ⟨a, vs, [], rfl, k1, r1, rfl⟩ h1
        · have c2 := (c01.alloc (.new0 (o := .tup (vs ++ ws)) hq))
          exact OutS.set c2 (rep_tup upd_same ((by simpa using r1.append r2 : RepL T H1 fz1 (xs ++ ys) (vs ++ ws) []).fr (Alloc.fr (.new0 hq)))) h1
      · exact h1.elim
    · exact h.elim
end
section
variable {X : Cx} {T : Tab} {W : WX} {A : List Nat} {pos : Pos}
/-! ## loops -/
def forS (A tg : List Nat) (one : Bool) (sk : SK) (ms : M (List D)) (b : Env → Fl) : Env → Fl := stS ms fun ss ρ => match itemsD sk ss with
  | some xs => if (D.cleanL xs && D.cleanL ss) && tg.all (fun i => decide (i ∈ A)) then forF (fun x ρ => asnD tg one x ρ) b xs ρ else .unk
  | none => .unk
theorem ps_forS {iter tgE : Expr} {body : List Stmt} {tg : List Nat} {one ns : Bool} {sk : SK} {ms : M (List D)} {mb : Env → Fl} (hp : PassesOwn (model X.prog X.w) X.A X.env X.xe) (hc : X.calm = true) (hi : PI X tgE iter (TmI T W ns sk ms)) (hg : PG X tgE (gT T.K one tg)) (hb : PSs X body (TmS T W A mb))
    (hs : ∀ x, foldedSetIterable iter X.env x = pure x) : PS X (.For tgE iter body [] pos) (TmS T W A (forS A tg one sk ms mb)) :=
  PS.imp (ps_for hp hc hi hg hb hs) fun D σ H h => by
    obtain ⟨fz, F, ρ, c, h⟩ := h.start
    unfold tFor
    refine TmI.of c.amb c.env ?_
    unfold forS stS at h
    unfold OutI
    cases em : ms ρ with
    | unk => rw [em] at h; exact h.elim
    | ex x ρ' => rw [em] at h; exact OutX.ofS h
    | ok ss ρ1 =>
      simp only [em] at h
      cases ei : itemsD sk ss with
      | none => rw [ei] at h; exact h.elim
      | some xs =>
        simp only [ei] at h
        split at h
        · rename_i hcc
          rw [Bool.and_eq_true, Bool.and_eq_true, List.all_eq_true] at hcc
          obtain ⟨⟨cx, cs⟩, htg⟩ := hcc
          refine ⟨xs, ei, cx, fun J G Y H1 fz1 F1 G0 c1 src s0 cl0 => ?_⟩
          have e0 := cl0 cs
          subst e0
          have e1 := c1.ext
          rw [List.append_nil] at e1
          have h1 := h.rebase e1 (Keep.refl)
          refine for_it src.wk (fun i σ2 H2 => ∃ fz2 F2 ρ2, Ext H1 fz1 F1 H2 fz2 F2 ∧ EnvR T H2 fz2 ρ2 σ2 F2 ∧ OutS T W A σ2 H2 fz2 F2 (forF (fun x ρ => asnD tg one x ρ) mb (xs.drop i) ρ2) D) ⟨fz1, F1, ρ1, Ext.refl e1.amb, c1.env, by simpa using h1⟩ (fun i σ2 H2 _ p => ?_) (fun i x σ2 H2 H' hi p y => ?_) (fun σ2 H2 p => ?_)
          · obtain ⟨fz2, F2, ρ2, x, _, _⟩ := p
            exact src.good H2 fz2 (x.fr e1.amb (by simp))
          · obtain ⟨fz2, F2, ρ2, x2, e2, o2⟩ := p
            have hx : xs[i]? = some xs[i] := List.getElem?_eq_getElem hi
            rw [List.drop_eq_getElem_cons hi] at o2
            obtain ⟨al, rx⟩ := src.item i H2 fz2 x H' xs[i] (x2.fr e1.amb (by simp)) hx y
            have xal : Ext H2 fz2 F2 H' fz2 F2 := by have := al.ext x2.amb; simpa using this
            have o3 : OutS T W A σ2 H2 fz2 F2 (match asnD tg one xs[i] ρ2 with | some ρ3 => loopS (mb ρ3) (forF (fun x ρ => asnD tg one x ρ) mb (xs.drop (i + 1))) | none => .unk) D := o2
            cases ha : asnD tg one xs[i] ρ2 with
            | none => rw [ha] at o3; exact o3.elim
            | some ρ3 =>
              rw [ha] at o3
              refine one_asn ha (e2.fr al.fr) rx fun σ3 F3 R p3 e3 hl hj => ?_
              have xd : Ext H2 fz2 F2 H' fz2 F3 := xal.drop (List.nodup_append.mp (p3.nodup_iff.mp xal.amb.nd)).1 fun a ha => p3.mem_iff.mpr (List.mem_append_left _ ha)
              have o4 := o3.rebase xd (⟨hl, fun j hjn => hj j fun z => hjn (of_decide_eq_true (htg j z))⟩ : Keep A σ2 σ3)
              refine ⟨fz2, F3, ρ3, xd.amb, e3, OutS.loop o4 fun σ' H'' fz' F' ρ' x5 r5 _ o5 => ⟨fz', F', ρ', (x2.trans0 xd).trans0 x5, r5, o5⟩⟩
          · obtain ⟨fz2, F2, ρ2, x2, e2, o2⟩ := p
            rw [List.drop_length] at o2
            exact o2 σ2 H2 fz2 F2 (Ext.refl x2.amb) e2 Keep.refl
        · exact h.elim
def forOS (A tg : List Nat) (one : Bool) (i fu : Nat) (b : Env → Fl) : Env → Fl := fun ρ => if decide (i ∉ A) && tg.all (fun j => decide (j ∈ A)) then forO i (fun x ρ => asnD tg one x ρ) b fu 0 ρ else .unk
theorem ps_forOS {x : Str} {q : Pos} {tgE : Expr} {body : List Stmt} {tg : List Nat} {one : Bool} {i fu : Nat} {mb : Env → Fl} (hK : X.K = T.K) (hp : PassesOwn (model X.prog X.w) X.A X.env X.xe) (hc : X.calm = true) (hN : X.N[i]? = some x) (hv : Vis X.env.scope x) (hd : (x == ("__debug__" : Str)) = false) (hcd : (x == ("__classdict__" : Str)) = false)
    (hg : PG X tgE (gT T.K one tg)) (hb : PSs X body (TmS T W A mb)) (hs : ∀ y, foldedSetIterable (.Name x q) X.env y = pure y) : PS X (.For tgE (.Name x q) body [] pos) (TmS T W A (forOS A tg one i fu mb)) :=
  PS.imp (ps_for hp hc (pi_list (pe_var hN hv hd hcd)) hg hb hs) fun D σ H h => by
    obtain ⟨fz, F, ρ, c, h⟩ := h.start
    unfold forOS at h
    split at h
    rotate_left
    · exact h.elim
    rename_i hcc
    rw [Bool.and_eq_true, List.all_eq_true, decide_eq_true_eq] at hcc
    obtain ⟨hiA, htg⟩ := hcc
    have first : ∃ k m xs, fu = k + 1 ∧ ρ[i]? = some (some (.nd .lst m xs)) := by
      cases fu with
      | zero => exact h.elim
      | succ k =>
        unfold forO at h
        split at h
        · rename_i m xs he; exact ⟨k, m, xs, rfl, he⟩
        · exact h.elim
    obtain ⟨k0, m, xs, _, he⟩ := first
    obtain ⟨v, A', B, C', eF, eσ, r, _⟩ := c.env.split he
    obtain ⟨a, vs, G1, ev, ha, hl, _⟩ := r.lst
    subst ev
    refine ⟨.ref a, eσ, a, rfl, ⟨vs, .inl (.inl ha)⟩, ?_⟩
    refine ⟨fun k m σ2 H2 => σ2[i]? = some (some (.ref a)) ∧ ∃ fz2 F2 ρ2, Amb H2 fz2 F2 ∧ EnvR T H2 fz2 ρ2 σ2 F2 ∧ OutS T W A σ2 H2 fz2 F2 (forO i (fun x ρ => asnD tg one x ρ) mb m k ρ2) D, ⟨fu, eσ, fz, F, ρ, c.amb, c.env, h⟩, ?_⟩
    rintro k m2 σ2 H2 ⟨es, fz2, F2, ρ2, am2, e2, o2⟩
    cases m2 with
    | zero => exact o2.elim
    | succ m2 =>
      unfold forO at o2
      split at o2
      rotate_left
      · exact o2.elim
      rename_i mm ys hy
      obtain ⟨w, A2, B2, C2, eF2, eσ2, r2, _⟩ := e2.split hy
      rw [es] at eσ2
      cases eσ2
      obtain ⟨b, ws, G2, ev2, hb2, hl2, _⟩ := r2.lst
      cases ev2
      have sq : SqL X.K H2 a ws := .inl (.inl hb2)
      split at o2
      · rename_i x0 hx0
        refine .inr ⟨?_, ?_⟩
        · obtain ⟨u, B3, hu, _⟩ := hl2.get hx0
          exact ⟨ws, u, sq, hu⟩
        · split at o2
          rotate_left
          · exact o2.elim
          rename_i ρ3 hcl hasn
          refine ⟨fun σ' H' => ∃ m', m' < m2 + 1 ∧ (σ'[i]? = some (some (.ref a)) ∧ ∃ fz2 F2 ρ2, Amb H' fz2 F2 ∧ EnvR T H' fz2 ρ2 σ' F2 ∧ OutS T W A σ' H' fz2 F2 (forO i (fun x ρ => asnD tg one x ρ) mb m' (k + 1) ρ2) D), fun σ' H' q => q, fun x H' y => ?_⟩
          obtain ⟨eH, hyx⟩ := y
          subst eH
          have hx1 := hyx ws sq
          obtain ⟨u, B3, hu, ru, su⟩ := hl2.get hx0
          rw [hx1] at hu
          cases hu
          have eB := clean_nil hcl ru
          subst eB
          refine one_asn hasn e2 ru fun σ3 F3 R p3 e3 hl3 hj => ?_
          have xd : Ext H' fz2 F2 H' fz2 F3 := (Ext.refl am2).drop (List.nodup_append.mp (p3.nodup_iff.mp am2.nd)).1 fun a ha => p3.mem_iff.mpr (List.mem_append_left _ ha)
          have kp : Keep A σ2 σ3 := ⟨hl3, fun j hjn => hj j fun z => hjn (of_decide_eq_true (htg j z))⟩
          have o4 := o2.rebase xd kp
          refine ⟨fz2, F3, ρ3, xd.amb, e3, OutS.loop o4 fun σ' H'' fz' F' ρ' x5 r5 q5 o5 => ⟨m2, Nat.lt_succ_self _, ?_, fz', F', ρ', x5.amb, r5, o5⟩⟩
          rw [(kp.trans q5).2 i hiA]; exact es
      · rename_i hx0
        refine .inl ⟨⟨ws, sq, ?_⟩, o2 σ2 H2 fz2 F2 (Ext.refl am2) e2 Keep.refl⟩
        rw [← hl2.len]
        exact List.getElem?_eq_none_iff.mp hx0
end
end Ev

set_option Elab.async false
set_option linter.all false
set_option maxRecDepth 100000
set_option maxHeartbeats 4000000
namespace Ev
open PySem PySem.Spec L2

/-! ## stores -/
theorem putK_zip {κ : Type} [DecidableEq κ] {k : κ} {x : V} : ∀ {ks : List κ} {vs : List V}, ks.length = vs.length → ks.Nodup → putK (ks.zip vs) k x = match posK k ks with
    | some j => ks.zip (vs.set j x)
    | none => (ks ++ [k]).zip (vs ++ [x]) := by
  intro ks vs hl nd
  have any_ : ∀ {ks : List κ} {vs : List V}, ks.length = vs.length → ((ks.zip vs).any fun kv => decide (kv.1 = k)) = (posK k ks).isSome := by
    intro ks
    induction ks with
    | nil => intro vs _; cases vs <;> rfl
    | cons q ks ih =>
      intro vs hl
      cases vs with
      | nil => cases hl
      | cons v vs =>
        unfold posK
        rw [List.zip_cons_cons, List.any_cons, ih (by simpa using hl)]
        by_cases hq : q = k
        · simp [hq]
        · simp [hq]
  have map_ : ∀ {ks : List κ} {vs : List V} {j : Nat}, ks.length = vs.length → ks.Nodup → posK k ks = some j → (ks.zip vs).map (fun kv => if kv.1 = k then (kv.1, x) else kv) = ks.zip (vs.set j x) := by
    intro ks
    induction ks with
    | nil => intro vs j _ _ h; cases h
    | cons q ks ih =>
      intro vs j hl nd h
      cases vs with
      | nil => cases hl
      | cons v vs =>
        obtain ⟨n1, n2⟩ := List.nodup_cons.mp nd
        unfold posK at h
        rw [List.zip_cons_cons, List.map_cons]
        by_cases hq : q = k
        · rw [if_pos hq] at h
          cases h
          subst hq
          rw [List.set_cons_zero, List.zip_cons_cons]
          congr 1
          · simp
          · have : ∀ kv ∈ ks.zip vs, (if kv.1 = q then (kv.1, x) else kv) = kv := fun kv hkv => by
              have := (List.of_mem_zip hkv).1
              rw [if_neg]
              rintro rfl
              exact n1 this
            rw [List.map_congr_left this, List.map_id']
        · rw [if_neg hq] at h
          obtain ⟨j', h1, h2⟩ := Option.map_eq_some_iff.mp h
          subst h2
          rw [List.set_cons_succ, List.zip_cons_cons, ih (by simpa using hl) n2 h1]
          simp [hq]
  unfold putK
  rw [any_ hl]
  cases e : posK k ks with
  | some j =>
    rw [if_pos (by rfl)]
    exact map_ hl nd e
  | none =>
    rw [if_neg (by simp)]
    show ks.zip vs ++ [(k, x)] = (ks ++ [k]).zip (vs ++ [x])
    rw [List.zip_append hl]; rfl
theorem posK_none {κ : Type} [DecidableEq κ] {k : κ} : ∀ {ks : List κ}, posK k ks = none → k ∉ ks
  | [], _ => by simp
  | q :: ks, h => by
    unfold posK at h
    by_cases hq : q = k
    · rw [if_pos hq] at h; cases h
    · rw [if_neg hq] at h
      have : posK k ks = none := by
        cases e : posK k ks with
        | none => rfl
        | some j => rw [e] at h; cases h
      intro z
      rcases List.mem_cons.mp z with z | z
      · exact hq z.symm
      · exact posK_none this z
theorem posK_lt {κ : Type} [DecidableEq κ] {k : κ} : ∀ {ks : List κ} {j : Nat}, posK k ks = some j → j < ks.length
  | [], _, h => by cases h
  | q :: ks, j, h => by
    unfold posK at h
    by_cases hq : q = k
    · rw [if_pos hq] at h; cases h; simp
    · rw [if_neg hq] at h
      obtain ⟨j', h1, h2⟩ := Option.map_eq_some_iff.mp h
      subst h2
      have := posK_lt h1
      simpa using this
def rSetE (T : Tab) : TSet := fun o i v H Q => rSetL o i v H Q ∨ rSetD o i v H Q
section
variable {X : Cx} {T : Tab} {W : WX} {A : List Nat} {pos : Pos}
theorem set_ev (hu : X.A.units + 200 < cLine) : PSet X (rSetE T) := by
  intro pins s σ H o i v ov iv u Q I ro ri rv h
  rcases h with h | h
  · exact set_list pins s σ H o i v ov iv u Q I ro ri rv h
  · exact set_dict (by omega) pins s σ H o i v ov iv u Q I ro ri rv h
def stoS (pa : Env → Option (Nat × List Nat)) (mk me : M D) : Env → Fl := stS me fun v ρ1 => match pa ρ1 with
  | some (i, js) => stS mk (fun k _ => stoM i js k v ρ1) ρ1
  | none => .unk
/-- a child that is exchanged, or a new one -/
theorem kids_set {H : Hp} {fz : Fz} {xs : List D} {vs : List V} {G0 G1 : List Addr} {j : Nat} {d : D} {x : V} {a : Addr} {o' : HO} (r : RepL T H fz xs vs G0) (hj : j < xs.length) (rx : Rep T H fz d x G1) (nd : (a :: (G0 ++ G1)).Nodup) (hz : ¬ fz a) (hm : Mut (H a)) :
    ∃ Bn, RepL T (upd H a o') fz (xs.set j d) (vs.set j x) Bn ∧ Bn.Nodup ∧ ∀ b ∈ Bn, b ∈ G0 ∨ b ∈ G1 := by
  obtain ⟨na, nd⟩ := List.nodup_cons.mp nd
  obtain ⟨n0, n1, hd⟩ := List.nodup_append.mp nd
  have f0 : Fr H fz (upd H a o') fz G0 := fr_upd (fun h => na (List.mem_append_left _ h)) hz hm
  have f1 : Fr H fz (upd H a o') fz G1 := fr_upd (fun h => na (List.mem_append_right _ h)) hz hm
  have main : ∀ {xs : List D} {vs : List V} {G0 : List Addr} {j : Nat}, RepL T (upd H a o') fz xs vs G0 → j < xs.length → ∃ g1 B g2, G0 = g1 ++ B ++ g2 ∧ RepL T (upd H a o') fz (xs.set j d) (vs.set j x) (g1 ++ G1 ++ g2) := by
    intro xs
    induction xs with
    | nil => intro vs G0 j _ h; cases h
    | cons y ys ih =>
      intro vs G0 j r hj
      obtain ⟨v, w, A1, A2, e1, e2, r1, r2⟩ := r
      subst e1; subst e2
      cases j with
      | zero => exact ⟨[], A1, A2, rfl, x, w, G1, A2, rfl, rfl, rx.fr f1, r2⟩
      | succ j =>
        obtain ⟨g1, B, g2, e3, r3⟩ := ih r2 (by simpa using hj)
        exact ⟨A1 ++ g1, B, g2, by rw [e3]; simp, v, _, A1, g1 ++ G1 ++ g2, rfl, by simp, r1, r3⟩
  obtain ⟨g1, B, g2, e, r'⟩ := main (r.fr f0) hj
  refine ⟨g1 ++ G1 ++ g2, r', ?_, fun b hb => ?_⟩
  · subst e
    have q : ((g1 ++ B ++ g2) ++ G1).Perm ((g1 ++ G1 ++ g2) ++ B) := by
      rw [List.append_assoc, List.append_assoc, List.append_assoc, List.append_assoc]
      refine List.Perm.append_left g1 ?_
      have : (B ++ (g2 ++ G1)).Perm ((g2 ++ G1) ++ B) := List.perm_append_comm
      refine this.trans ?_
      rw [← List.append_assoc]
      exact (List.perm_append_comm.append_right B)
    exact (List.nodup_append.mp (q.nodup_iff.mp nd)).1
  · rw [e]
    simp only [List.mem_append] at hb ⊢
    rcases hb with (hb | hb) | hb <;> simp [hb]
theorem kids_add {H : Hp} {fz : Fz} {xs : List D} {vs : List V} {G0 G1 : List Addr} {d : D} {x : V} {a : Addr} {o' : HO} (r : RepL T H fz xs vs G0) (rx : Rep T H fz d x G1) (nd : (a :: (G0 ++ G1)).Nodup) (hz : ¬ fz a) (hm : Mut (H a)) :
    RepL T (upd H a o') fz (xs ++ [d]) (vs ++ [x]) (G0 ++ G1) := by
  obtain ⟨na, nd⟩ := List.nodup_cons.mp nd
  have f0 : Fr H fz (upd H a o') fz G0 := fr_upd (fun h => na (List.mem_append_left _ h)) hz hm
  have f1 : Fr H fz (upd H a o') fz G1 := fr_upd (fun h => na (List.mem_append_right _ h)) hz hm
  exact (r.fr f0).append ⟨x, [], G1, [], rfl, by simp, rx.fr f1, rfl, rfl⟩
theorem sto_core {σ : St} {H H1 : Hp} {fz fz1 : Fz} {F F1 G1 : List Addr} {ρ1 ρs : Env} {D : Ends} {i : Nat} {js : List Nat} {kd dv xn : Ev.D} {w kv x : V} {Gk : List Addr} (c : Cur T σ H fz F false H1 fz1 F1 G1 ρ1) (l : Loc T H1 fz1 F1 ρs σ i js xn w) (rx : Rep T H1 fz1 dv x G1) (rk : Rep T H1 fz1 kd kv Gk)
    (h : OutS T W A σ H fz F (stoM i js kd dv ρs) D) : rSetE T w kv x H1 fun H4 => D.nx σ H4 := by
  unfold stoM at h
  have l2 := l
  obtain ⟨B, R, d, pm, r, hd, hg, hs, rec⟩ := l2
  simp only [hd, hg] at h
  cases hm : stoD kd dv xn with
  | none => rw [hm] at h; exact h.elim
  | some x' =>
    simp only [hm] at h
    cases hmod : Ev.D.mod (fun _ => some x') js d with
    | none => rw [hmod] at h; exact h.elim
    | some d' =>
      simp only [hmod] at h
      cases xn with
      | «at» _ => cases hm
      | nd kk m xs =>
        have fin : ∀ (a : Addr) (o' : HO), (∃ F', Cur T σ H fz F false (upd H1 a o') fz1 F' [] (ρs.set i (some d'))) → D.nx σ (upd H1 a o') := fun a o' ⟨F', cu⟩ => by
          have e := cu.ext
          rw [List.append_nil] at e
          exact h σ _ fz1 F' e cu.env Keep.refl
        cases kk with
        | lst =>
          cases m with
          | false => cases hm
          | true =>
            obtain ⟨a, vs, G0, ew, hk, hl, nd, hz, hmu, k2⟩ := Loc.commit (d := d) c l
            cases kd with
            | «at» ka =>
              cases ka with
              | int ii =>
                have hm : (ixN xs.length ii).map (fun j => Ev.D.lst true (xs.set j dv)) = some x' := hm
                obtain ⟨j, e1, e2⟩ := Option.map_eq_some_iff.mp hm
                subst e2
                have hj := (ixN_seq e1).2.1
                obtain ⟨Bn, rB, nB, sB⟩ := kids_set (o' := .lst (vs.set j x)) hl hj rx nd hz hmu
                refine .inl ⟨a, vs, ii, j, ew, rk.1, lst_of hk, by rw [← hl.len]; exact e1, ?_⟩
                exact fin a _ (k2 (.lst (vs.set j x)) _ d d' Bn [] Ev.D.non .non hd hmod True.intro (rep_lst upd_same rB) ⟨rfl, rfl⟩ (by simpa using nB) (by simpa using sB))
              | _ => cases hm
            | nd _ _ _ => cases hm
        | dk ks =>
          cases m with
          | false => cases hm
          | true =>
            obtain ⟨a, vs, G0, ew, hk, hl, nd, hz, hmu, k2⟩ := Loc.commit (d := d) c l
            obtain ⟨hlen, ha⟩ := dk_of hk
            have hnd := dk_nd hk
            cases hkey : keyOf kd with
            | none =>
              have hm : (match keyOf kd with
                | some k => if lineB (ks.length + 1) then some (match posK k ks with
                  | some j => Ev.D.nd (.dk ks) true (xs.set j dv)
                  | none => .nd (.dk (ks ++ [k])) true (xs ++ [dv])) else none
                | none => none) = some x' := hm
              rw [hkey] at hm; cases hm
            | some k =>
              have hm : (match keyOf kd with
                | some k => if lineB (ks.length + 1) then some (match posK k ks with
                  | some j => Ev.D.nd (.dk ks) true (xs.set j dv)
                  | none => .nd (.dk (ks ++ [k])) true (xs ++ [dv])) else none
                | none => none) = some x' := hm
              rw [hkey] at hm
              simp only at hm
              split at hm
              rotate_left
              · cases hm
              rename_i hln
              have hlt : (ks.zip vs).length < sizeLine := by
                rw [List.length_zip, ← hlen, Nat.min_self]
                exact lineB_ok hln
              have ekv := Held.key (F := []) (G := Gk) ⟨Gk, rk, fun a h => .inr h⟩ hkey
              subst ekv
              refine .inr ⟨a, _, ew, DPut.k ha hlt, ?_⟩
              rw [putK_zip hlen hnd]
              cases hp : posK k ks with
              | some j =>
                rw [hp] at hm
                cases hm
                obtain ⟨Bn, rB, nB, sB⟩ := kids_set (o' := .dK (ks.zip (vs.set j x))) hl (by rw [hl.len, ← hlen]; exact posK_lt hp) rx nd hz hmu
                exact fin a _ (k2 _ _ d d' Bn [] Ev.D.non .non hd hmod True.intro ⟨a, _, Bn, rfl, ⟨by simp, by simp, _, upd_same, by rw [List.length_set]; exact hlen, hnd, rfl⟩, rB, rfl⟩ ⟨rfl, rfl⟩ (by simpa using nB) (by simpa using sB))
              | none =>
                rw [hp] at hm
                cases hm
                have rB := kids_add (o' := .dK ((ks ++ [k]).zip (vs ++ [x]))) hl rx nd hz hmu
                exact fin a _ (k2 _ _ d d' (G0 ++ G1) [] Ev.D.non .non hd hmod True.intro ⟨a, _, _, rfl, ⟨by simp, by simp, _, upd_same, by simp [hlen], List.nodup_append.mpr ⟨hnd, by simp, fun a h b hb e => posK_none hp (by rw [List.mem_singleton.mp hb] at e; rw [← e]; exact h)⟩, rfl⟩, rB, rfl⟩ ⟨rfl, rfl⟩ (by simpa using (List.nodup_cons.mp nd).2) (by simp))
        | dt ks =>
          cases m with
          | false => cases hm
          | true =>
            obtain ⟨a, vs, G0, ew, hk, hl, nd, hz, hmu, k2⟩ := Loc.commit (d := d) c l
            obtain ⟨hlen, ha⟩ := dt_of hk
            have hnd := dt_nd hk
            cases kd with
            | «at» _ => cases hm
            | nd k3 m3 zs =>
              cases k3 with
              | tup =>
                cases m3 with
                | true => cases hm
                | false =>
                  have hm : (match keysOf zs with
                    | some k => if lineB (ks.length + 1) then some (match posK k ks with
                      | some j => Ev.D.nd (.dt ks) true (xs.set j dv)
                      | none => .nd (.dt (ks ++ [k])) true (xs ++ [dv])) else none
                    | none => none) = some x' := hm
                  cases hkey : keysOf zs with
                  | none => rw [hkey] at hm; cases hm
                  | some k =>
                    rw [hkey] at hm
                    simp only at hm
                    split at hm
                    rotate_left
                    · cases hm
                    rename_i hln
                    have hlt : (ks.zip vs).length < sizeLine := by
                      rw [List.length_zip, ← hlen, Nat.min_self]
                      exact lineB_ok hln
                    obtain ⟨b, ekv, hb⟩ := Held.keyT (F := []) (G := Gk) ⟨Gk, rk, fun a h => .inr h⟩ hkey
                    subst ekv
                    refine .inr ⟨a, _, ew, DPut.t ha hb hlt, ?_⟩
                    rw [putK_zip hlen hnd]
                    cases hp : posK k ks with
                    | some j =>
                      rw [hp] at hm
                      cases hm
                      obtain ⟨Bn, rB, nB, sB⟩ := kids_set (o' := .dT (ks.zip (vs.set j x))) hl (by rw [hl.len, ← hlen]; exact posK_lt hp) rx nd hz hmu
                      exact fin a _ (k2 _ _ d d' Bn [] Ev.D.non .non hd hmod True.intro ⟨a, _, Bn, rfl, ⟨by simp, by simp, _, upd_same, by rw [List.length_set]; exact hlen, hnd, rfl⟩, rB, rfl⟩ ⟨rfl, rfl⟩ (by simpa using nB) (by simpa using sB))
                    | none =>
                      rw [hp] at hm
                      cases hm
                      have rB := kids_add (o' := .dT ((ks ++ [k]).zip (vs ++ [x]))) hl rx nd hz hmu
                      exact fin a _ (k2 _ _ d d' (G0 ++ G1) [] Ev.D.non .non hd hmod True.intro ⟨a, _, _, rfl, ⟨by simp, by simp, _, upd_same, by simp [hlen], List.nodup_append.mpr ⟨hnd, by simp, fun a h b hb e => posK_none hp (by rw [List.mem_singleton.mp hb] at e; rw [← e]; exact h)⟩, rfl⟩, rB, rfl⟩ ⟨rfl, rfl⟩ (by simpa using (List.nodup_cons.mp nd).2) (by simp))
              | _ => cases hm
        | _ => cases hm
end
end Ev

set_option Elab.async false
set_option linter.all false
set_option maxRecDepth 100000
set_option maxHeartbeats 4000000
namespace Ev
open PySem PySem.Spec L2

section
variable {X : Cx} {T : Tab} {W : WX} {A : List Nat} {pos : Pos}
theorem ps_stoS {a b e : Expr} {pa : Env → Option (Nat × List Nat)} {mk me : M D} {ne : Bool} {tpos : Pos} (hu : X.A.units + 200 < cLine) (he : PE X e (Tm T W false ne me)) (ha : PE X a (TmP T pa)) (hb : PE X b (Tm T W true true mk))
    (hg : ∀ v, assign (.Subscript a b tpos) X.env v = (do
      let ov ← holding [v] (eval a X.env)
      let iv ← holding [v, ov] (eval b X.env)
      standAt tpos
      holding [v, ov, iv] (setItem ov iv v)
      release [v, ov, iv] []))
    (hs : swapsWithSole [.Subscript a b tpos] e pos.line X.env = pure false) (hw : swappedStores [.Subscript a b tpos] e X.env = pure none) (h1 : (assignEach [.Subscript a b tpos] X.env).map (·.2) = [assign (.Subscript a b tpos) X.env]) :
    PS X (.Assign [.Subscript a b tpos] e pos) (TmS T W A (stoS pa mk me)) :=
  PS.imp (ps_asg he (pg_sub ha hb (set_ev (T := T) hu) hg) hs hw h1) fun D σ H h => by
    obtain ⟨fz, F, ρ, c, h⟩ := h.start
    refine (OutS.bind c h).mono ?_
    rintro v H1 ⟨fz1, F1, G1, dv, ρ1, c1, v1, -, h1⟩
    have c01 := c.trans c1 (n := false) fun q => by cases q
    rw [List.append_nil] at c01
    cases hp : pa ρ1 with
    | none => rw [hp] at h1; exact h1.elim
    | some q =>
      obtain ⟨i, js⟩ := q
      simp only [hp] at h1
      refine ⟨fz1, F1, ρ1, c01.amb, c01.env, i, js, hp, fun w H2 fz2 x cu l => ?_⟩
      have v1 : Rep T H1 fz1 dv v G1 := v1
      have c02 : Cur T σ H fz F false H2 fz2 F1 G1 ρ1 := by
        have := c01.trans cu (n := false) fun q => by cases q
        simpa using this
      have rv2 : Rep T H2 fz2 dv v G1 := v1.fr cu.frN
      refine (OutS.bind (pb := true) (nb := true) c02 h1).mono ?_
      rintro kv H3 ⟨fz3, F3, G3, kd, ρ3, c3, ⟨eG, Gk, rk, sk⟩, -, h3⟩
      subst eG
      have c03 : Cur T σ H fz F false H3 fz3 F3 G1 ρ3 := by
        have := c02.trans c3 (n := false) fun q => by cases q
        simpa using this
      have l3 := l.keep c3
      rw [← (c3.nm rfl).1] at l3
      exact sto_core c03 l3 (rv2.fr c3.frN) rk h3
/-! o[i] op= e -/
def augG (x k : Ev.D) : Option Int := match x with
  | .nd .lst _ xs => match k with
    | .at (.int i) => if decide (0 ≤ i) then (match atI xs i with
      | some (.at (.int a)) => some a
      | _ => none) else none
    | _ => none
  | .nd (.dk ks) m vs => match idxD (.nd (.dk ks) m vs) k with
    | some (.at (.int a)) => some a
    | _ => none
  | .nd (.dt ks) m vs => match idxD (.nd (.dt ks) m vs) k with
    | some (.at (.int a)) => some a
    | _ => none
  | _ => none
def rGetE (T : Tab) : V → V → Hp → VK → Prop := fun v w H Q => ∃ fz F x y a, Seen T H fz F x v ∧ Seen T H fz F y w ∧ augG x y = some a ∧ Q (.int a) H
theorem get_ev (hu : X.A.units + 200 < cLine) : PGet X (rGetE T) := by
  intro pins s σ H x0 y0 v u Q I rx ry h
  obtain ⟨fz, F, x, y, a, hx, hy, e, q⟩ := h
  unfold augG at e
  split at e
  · rename_i m xs
    split at e
    · rename_i i
      split at e
      · rename_i h0
        have h0 := of_decide_eq_true h0
        split at e
        · rename_i a' ha
          cases e
          obtain ⟨p, vs, G1, e1, hk, hl, s1⟩ := hx.kid
          have e2 := (hy.held (G := [])).at
          obtain ⟨w, e3, sw⟩ := hl.atI s1 ha
          have ew : w = .int a := (sw.held (G := [])).at
          subst ew
          subst e1; subst e2
          cases rx
          obtain ⟨t, rfl⟩ := ry
          obtain ⟨its, r, pl, hz⟩ := I.list (.inl (.inl (lst_of hk)))
          obtain ⟨j, h1, h2, h3, h4, h5⟩ := atI_get e3
          obtain ⟨w, ew, rw'⟩ := r.get h2
          have hl' := r.length
          have hn := line63
          have hj : i.toNat = j := by
            rw [seqIndex_of h0 h5] at h1
            exact Option.some.inj h1
          exact wpAny_getItem_list pl.isList h0 (by omega) (by rw [hj]; simpa using ew) ⟨.int a, H, I, rw', q⟩
        · cases e
      · cases e
    · cases e
  · rename_i ks m vs0
    split at e
    · rename_i a' ha
      cases e
      have ha : (match keyOf y with
        | some k => atK k ks vs0
        | none => none) = some (Ev.D.int a) := ha
      cases ek : keyOf y with
      | none => rw [ek] at ha; cases ha
      | some k =>
        rw [ek] at ha
        obtain ⟨p, vs, G1, e1, hk, hl, s1⟩ := hx.kid
        have e2 := (hy.held (G := [])).key ek
        obtain ⟨w, e3, sw⟩ := atK_seen k hl s1 ha
        have ew : w = .int a := (sw.held (G := [])).at
        subst ew
        subst e1; subst e2
        cases rx
        exact d_getItem (by omega) I (by rw [← e3]; exact DGet.k (dk_of hk).2) ry fun w' s' I' r' => ⟨.int a, H, I', r', q⟩
    · cases e
  · rename_i ks m vs0
    split at e
    · rename_i a' ha
      cases e
      cases y with
      | «at» b => cases b <;> cases ha
      | nd k3 m3 zs =>
        cases k3 with
        | tup =>
          cases m3 with
          | true => cases ha
          | false =>
            have ha : (match keysOf zs with
              | some k => atK k ks vs0
              | none => none) = some (Ev.D.int a) := ha
            cases ek : keysOf zs with
            | none => rw [ek] at ha; cases ha
            | some k =>
              rw [ek] at ha
              obtain ⟨p, vs, G1, e1, hk, hl, s1⟩ := hx.kid
              obtain ⟨b, e2, hb⟩ := (hy.held (G := [])).keyT ek
              obtain ⟨w, e3, sw⟩ := atK_seen k hl s1 ha
              have ew : w = .int a := (sw.held (G := [])).at
              subst ew
              subst e1; subst e2
              cases rx
              exact d_getItem (by omega) I (by rw [← e3]; exact DGet.t (dt_of hk).2 hb) ry fun w' s' I' r' => ⟨.int a, H, I', r', q⟩
        | _ => cases ha
    · cases e
  · cases e
def augsS (pa : Env → Option (Nat × List Nat)) (mk me : M Ev.D) (o : BO) : Env → Fl := fun ρ => match pa ρ with
  | some (i, js) => match ρ[i]? with
    | some (some d) => match Ev.D.get js d with
      | some x => stS mk (fun k _ => match augG x k with
          | some a => stS me (fun e _ => match e with
             | .at (.int b) => match augI o a b with
                | some c => stoM i js k (Ev.D.int c) ρ
                | none => .unk
             | _ => .unk) ρ
          | none => .unk) ρ
      | none => .unk
    | _ => .unk
  | none => .unk
theorem ps_augsS {a b e : Expr} {pa : Env → Option (Nat × List Nat)} {mk me : M Ev.D} {o : BO} {tpos : Pos} (hK : X.K = T.K) (hu : X.A.units + 200 < cLine) (he : PE X e (Tm T W true true me)) (ha : PE X a (TmP T pa)) (hb : PE X b (Tm T W true true mk))
    (hst : ∀ ov iv new, augStore b ov iv new = (do holding [new, ov, iv] (setItem ov iv new); release [new, ov, iv] []; pure .next)) :
    PS X (.AugAssign (.Subscript a b tpos) (opO o) e pos) (TmS T W A (augsS pa mk me o)) :=
  PS.imp (L2.ps_augS ha hb (get_ev (T := T) hu) he (pip_aug o) (set_ev (T := T) hu) hst) fun D σ H h => by
    obtain ⟨fz, F, ρ, c, h⟩ := h.start
    unfold augsS at h
    cases hp : pa ρ with
    | none => rw [hp] at h; exact h.elim
    | some q =>
      obtain ⟨i, js⟩ := q
      simp only [hp] at h
      refine ⟨fz, F, ρ, c.amb, c.env, i, js, hp, fun w H1 fz1 x cu l => ?_⟩
      have l2 := l
      obtain ⟨B, R, d, pm, r, hd, hg, hs, rec⟩ := l2
      simp only [hd, hg] at h
      have c01 : Cur T σ H fz F false H1 fz1 F [] ρ := by
        have := c.trans cu (n := false) fun q => by cases q
        simpa using this
      refine (OutS.bind (pb := true) (nb := true) c01 h).mono ?_
      rintro kv H2 ⟨fz2, F2, G2, kd, ρ2, c2, ⟨eG, Gk, rk, sk⟩, -, h2⟩
      subst eG
      have e2 := (c2.nm rfl).1
      subst e2
      have c02 : Cur T σ H fz F2 false H2 fz2 F2 [] ρ2 := by
        have := c01.trans c2 (n := false) fun q => by cases q
        simpa using this
      have l3 := l.keep c2
      have l4 := l3
      obtain ⟨B2, R2, d2, pm2, r2, hd2, hg2, hs2, rec2⟩ := l4
      cases hga : augG x kd with
      | none => simp only [hga] at h2; exact h2.elim
      | some a0 =>
        simp only [hga] at h2
        refine ⟨fz2, F2, x, kd, a0, ⟨B2, r2, fun z hz => pm2.mem_iff.mpr (List.mem_append_left _ hz)⟩, ⟨Gk, rk, sk⟩, hga, ?_⟩
        have c02' : Cur T σ H fz F2 false H2 fz2 F2 [] ρ := ⟨c02.ext, c01.env.fr c2.frN, c02.nm⟩
        refine (OutS.bind (pb := true) (nb := true) c02' h2).mono ?_
        rintro ev H3 ⟨fz3, F3, G3, ed, ρ3, c3, ⟨eG, Ge, re, se⟩, -, h3⟩
        subst eG
        have e3 := (c3.nm rfl).1
        subst e3
        cases ed with
        | nd _ _ _ => exact h3.elim
        | «at» ba =>
          cases ba with
          | int b0 =>
            simp only at h3
            cases hc0 : augI o a0 b0 with
            | none => rw [hc0] at h3; exact h3.elim
            | some c0 =>
              rw [hc0] at h3
              have e4 : ev = .int b0 := re.1
              have c03 : Cur T σ H fz F3 false H3 fz3 F3 [] ρ := ⟨by have := (c02'.trans c3 (n := false) fun q => by cases q).ext; simpa using this, c02'.env.fr c3.frN, fun z => by cases z⟩
              have l5 := l3.keep c3
              refine .inl ⟨a0, b0, c0, rfl, e4, hc0, ?_⟩
              exact sto_core c03 l5 (dv := Ev.D.int c0) (x := .int c0) ⟨rfl, rfl⟩ (rk.fr c3.frN) h3
          | _ => exact h3.elim
theorem putF_zip {T : Tab} {f : Nat} {x : V} (hf : f < T.nf) (inj : ∀ f g, f < T.nf → g < T.nf → T.f f = T.f g → f = g) : ∀ {fs : List Nat} {vs : List V}, fs.length = vs.length → (∀ g ∈ fs, g < T.nf) → putF (T.f f) x ((fs.map T.f).zip vs) = match posK f fs with
    | some j => (fs.map T.f).zip (vs.set j x)
    | none => ((fs ++ [f]).map T.f).zip (vs ++ [x])
  | [], [], _, _ => rfl
  | [], _ :: _, h, _ => by cases h
  | _ :: _, [], h, _ => by cases h
  | g :: fs, v :: vs, hl, hg => by
    unfold posK
    show (if T.f g = T.f f then (T.f g, x) :: (fs.map T.f).zip vs else (T.f g, v) :: putF (T.f f) x ((fs.map T.f).zip vs)) = _
    by_cases hq : g = f
    · subst hq
      rw [if_pos rfl, if_pos rfl]
      rfl
    · rw [if_neg hq, if_neg fun z => hq (inj g f (hg g List.mem_cons_self) hf z), putF_zip hf inj (by simpa using hl) fun z hz => hg z (List.mem_cons_of_mem _ hz)]
      cases posK f fs <;> rfl
def stfS (f : Nat) (pa : Env → Option (Nat × List Nat)) (me : M D) : Env → Fl := stS me fun v ρ1 => match pa ρ1 with
  | some (i, js) => stfM i js f v ρ1
  | none => .unk
theorem ps_stfS {o e : Expr} {f : Nat} {pa : Env → Option (Nat × List Nat)} {me : M D} {ne : Bool} {pos' : Pos} (hK : X.K = T.K) (ok : TabOk T) (hf : f < T.nf) (he : PE X e (Tm T W false ne me)) (ha : PE X o (TmP T pa)) (hs : swapsWith e (some (.Attribute o (T.f f) pos')) pos.line X.env = pure false) :
    PS X (.Assign [.Attribute o (T.f f) pos'] e pos) (TmS T W A (stfS f pa me)) :=
  PS.imp (ps_fld ha he hs) fun D σ H h => by
    obtain ⟨fz, F, ρ, c, h⟩ := h.start
    refine (OutS.bind c h).mono ?_
    rintro v H1 ⟨fz1, F1, G1, dv, ρ1, c1, v1, -, h1⟩
    have c01 := c.trans c1 (n := false) fun q => by cases q
    rw [List.append_nil] at c01
    cases hp : pa ρ1 with
    | none => rw [hp] at h1; exact h1.elim
    | some q =>
      obtain ⟨i, js⟩ := q
      simp only [hp] at h1
      refine ⟨fz1, F1, ρ1, c01.amb, c01.env, i, js, hp, fun w H2 fz2 x cu l => ?_⟩
      have v1 : Rep T H1 fz1 dv v G1 := v1
      have c02 : Cur T σ H fz F false H2 fz2 F1 G1 ρ1 := by
        have := c01.trans cu (n := false) fun q => by cases q
        simpa using this
      have rv2 : Rep T H2 fz2 dv v G1 := v1.fr cu.frN
      unfold stfM at h1
      have l2 := l
      obtain ⟨B, R, d, pm, r, hd, hg, hs, rec⟩ := l2
      simp only [hd, hg] at h1
      cases hm : stfD f dv x with
      | none => rw [hm] at h1; exact h1.elim
      | some x' =>
        simp only [hm] at h1
        cases hmod : Ev.D.mod (fun _ => some x') js d with
        | none => rw [hmod] at h1; exact h1.elim
        | some d' =>
          simp only [hmod] at h1
          cases x with
          | «at» _ => cases hm
          | nd kk m xs =>
            cases kk with
            | obj cc fs =>
              cases m with
              | false => cases hm
              | true =>
                obtain ⟨a, vs, G0, ew, hk, hl, nd, hz, hmu, k2⟩ := Loc.commit (d := d) c02 l
                obtain ⟨q1, q2, dx, q3⟩ := obj_of hk
                have hm : (if decide (fs.length < 1000) = true then some (match posK f fs with
                  | some j => Ev.D.nd (.obj cc fs) true (xs.set j dv)
                  | none => .nd (.obj cc (fs ++ [f])) true (xs ++ [dv])) else none) = some x' := hm
                split at hm
                rotate_left
                · cases hm
                rename_i hlt
                have hlt := of_decide_eq_true hlt
                refine ⟨a, _, dx, _, ew, q3, by rw [hK]; exact ok.cls cc, by rw [hK]; exact ok.na cc f hf, by rw [List.length_zip, List.length_map, ← q1, Nat.min_self]; exact hlt, ?_⟩
                rw [putF_zip hf ok.inj q1 q2]
                have fin : ∀ (o' : HO), (∃ F', Cur T σ H fz F false (upd H2 a o') fz2 F' [] (ρ1.set i (some d'))) → D.nx σ (upd H2 a o') := fun o' ⟨F', cu⟩ => by
                  have e := cu.ext
                  rw [List.append_nil] at e
                  exact h1 σ _ fz2 F' e cu.env Keep.refl
                cases hp : posK f fs with
                | some j =>
                  rw [hp] at hm
                  cases hm
                  obtain ⟨Bn, rB, nB, sB⟩ := kids_set (o' := .ins (T.C cc) dx ((fs.map T.f).zip (vs.set j v))) hl (by rw [hl.len, ← q1]; exact posK_lt hp) rv2 nd hz hmu
                  exact fin _ (k2 _ _ d d' Bn [] Ev.D.non .non hd hmod True.intro ⟨a, _, Bn, rfl, ⟨by simp, by simp, _, upd_same, by rw [List.length_set]; exact q1, q2, dx, rfl⟩, rB, rfl⟩ ⟨rfl, rfl⟩ (by simpa using nB) (by simpa using sB))
                | none =>
                  rw [hp] at hm
                  cases hm
                  have rB := kids_add (o' := .ins (T.C cc) dx (((fs ++ [f]).map T.f).zip (vs ++ [v]))) hl rv2 nd hz hmu
                  exact fin _ (k2 _ _ d d' (G0 ++ G1) [] Ev.D.non .non hd hmod True.intro ⟨a, _, _, rfl, ⟨by simp, by simp, _, upd_same, by simp [q1], fun g hg => by
                    rcases List.mem_append.mp hg with q | q
                    · exact q2 g q
                    · rw [List.mem_singleton.mp q]; exact hf, dx, rfl⟩, rB, rfl⟩ ⟨rfl, rfl⟩ (by simpa using (List.nodup_cons.mp nd).2) (by simp))
            | _ => cases hm
/-! ## slots that are looked at for good -/
end
end Ev

set_option Elab.async false
set_option linter.all false
set_option maxRecDepth 100000
set_option maxHeartbeats 4000000
namespace Ev
open PySem PySem.Spec L2
/-! d.update(l) of a list of pairs, at a place -/
def pairD : D → Option (Key × D)
  | .nd .tup false [k, v] => match keyOf k with
    | some q => if v.clean then some (q, v) else none
    | none => none
  | _ => none
def pairsD : List D → Option (List (Key × D))
  | [] => some []
  | y :: ys => match pairD y, pairsD ys with
    | some p, some ps => some (p :: ps)
    | _, _ => none
def putP (k : Key) (d : D) (p : List Key × List D) : List Key × List D := match posK k p.1 with
  | some j => (p.1, p.2.set j d)
  | none => (p.1 ++ [k], p.2 ++ [d])
def mergeD : List (Key × D) → List Key × List D → List Key × List D
  | [], p => p
  | q :: r, p => mergeD r (putP q.1 q.2 p)
def updD (x y : D) : Option D := match x, y with
  | .nd (.dk ks) true vs, .nd .lst _ ys => match pairsD ys with
    | some ps => if lineB (ks.length + ps.length) && D.cleanL vs then some (.nd (.dk (mergeD ps (ks, vs)).1) true (mergeD ps (ks, vs)).2) else none
    | none => none
  | _, _ => none
theorem updD_inv {ks : List Key} {vs : List D} {y x' : D} (h : updD (.nd (.dk ks) true vs) y = some x') : ∃ m ys ps, y = .nd .lst m ys ∧ pairsD ys = some ps ∧ (lineB (ks.length + ps.length) && D.cleanL vs) = true ∧ x' = .nd (.dk (mergeD ps (ks, vs)).1) true (mergeD ps (ks, vs)).2 := by
  cases y with
  | «at» _ => cases h
  | nd k m ys =>
    cases k with
    | lst =>
      have h : (match pairsD ys with
        | some ps => if lineB (ks.length + ps.length) && D.cleanL vs then some (D.nd (.dk (mergeD ps (ks, vs)).1) true (mergeD ps (ks, vs)).2) else none
        | none => none) = some x' := h
      cases hp : pairsD ys with
      | none => rw [hp] at h; cases h
      | some ps =>
        rw [hp] at h
        simp only at h
        split at h
        · rename_i hc
          cases h
          exact ⟨m, ys, ps, rfl, hp, hc, rfl⟩
        · cases h
    | _ => cases h
section
variable {T : Tab} {H : Hp} {fz : Fz}
theorem clean_repl {xs : List D} {vs : List V} {G : List Addr} (c : D.cleanL xs = true) (r : RepL T H fz xs vs G) : G = [] := clean_nil.cleanL_nil c r
/-- the pairs, by values -/
theorem pairs_rep : ∀ {ys : List D} {ps : List (Key × D)} {vs : List V} {G : List Addr}, pairsD ys = some ps → RepL T H fz ys vs G →
    ∃ (as : List Addr) (kvs : List (Key × V)), vs = as.map V.ref ∧ Paired (fun p kv => SqT T.K H p [kV kv.1, kv.2]) as kvs ∧ kvs.map (·.1) = ps.map (·.1) ∧ RepL T H fz (ps.map (·.2)) (kvs.map (·.2)) [] ∧ (∀ p ∈ ps, p.2.clean = true) ∧ (∀ a ∈ as, ¬ Mut (H a))
  | [], ps, vs, G, e, h => by
    cases e
    obtain ⟨rfl, rfl⟩ := h
    exact ⟨[], [], rfl, .nil, rfl, ⟨rfl, rfl⟩, by simp, by simp⟩
  | y :: ys, ps, vs, G, e, h => by
    obtain ⟨v, r, F1, F2, e1, e2, h1, h2⟩ := h
    subst e1
    have e : (match pairD y, pairsD ys with
      | some p, some ps => some (p :: ps)
      | _, _ => none) = some ps := e
    cases hy : pairD y with
    | none => rw [hy] at e; cases e
    | some p =>
      cases hys : pairsD ys with
      | none => rw [hy, hys] at e; cases e
      | some ps' =>
        rw [hy, hys] at e
        cases e
        obtain ⟨as, kvs, rfl, hp, hk, hr, hc, hm⟩ := pairs_rep hys h2
        unfold pairD at hy
        split at hy
        · rename_i k d
          split at hy
          · rename_i q hq
            split at hy
            · rename_i hcl
              cases hy
              obtain ⟨a, vs1, G1, e3, hk1, hl1, ho1⟩ := h1
              subst e3
              obtain ⟨kv, r1, A1, A2, e4, e5, k1, k2⟩ := hl1
              obtain ⟨dv, r2, B1, B2, e6, e7, d1, d2⟩ := k2
              obtain ⟨rfl, rfl⟩ := d2
              subst e4; subst e6
              have ek := Held.key (F := []) (G := A1) ⟨A1, k1, fun a h => .inr h⟩ hq
              subst ek
              have eB := clean_nil hcl d1
              subst eB
              have sq : SqT T.K H a [kV q, dv] := sqT_of hk1
              refine ⟨a :: as, (q, dv) :: kvs, rfl, .cons sq hp, by simp [hk], ⟨dv, _, [], [], rfl, rfl, d1, hr⟩, ?_, ?_⟩
              · intro p hp
                rcases List.mem_cons.mp hp with rfl | hp
                · exact hcl
                · exact hc p hp
              · intro b hb
                rcases List.mem_cons.mp hb with rfl | hb
                · intro hmu
                  rcases hk1 with ⟨_, o, eo, qo⟩ | ⟨z, _⟩ | hk1
                  · have qo : o = .tup [kV q, dv] := qo
                    subst qo
                    rw [eo] at hmu
                    exact hmu
                  · cases z
                  · exact hk1.elim
                · exact hm b hb
            · cases hy
          · cases hy
        · cases hy
theorem set_repl {H : Hp} : ∀ {xs : List D} {vs : List V} {j : Nat} {d : D} {x : V}, RepL T H fz xs vs [] → Rep T H fz d x [] → RepL T H fz (xs.set j d) (vs.set j x) []
  | [], vs, j, d, x, h, r => by
    obtain ⟨rfl, _⟩ := h
    exact ⟨rfl, rfl⟩
  | y :: ys, vs, 0, d, x, h, r => by
    obtain ⟨v, w, F1, F2, e1, e2, h1, h2⟩ := h
    obtain ⟨rfl, rfl⟩ := List.append_eq_nil_iff.mp e2.symm
    subst e1
    exact ⟨x, w, [], [], rfl, rfl, r, h2⟩
  | y :: ys, vs, j + 1, d, x, h, r => by
    obtain ⟨v, w, F1, F2, e1, e2, h1, h2⟩ := h
    obtain ⟨rfl, rfl⟩ := List.append_eq_nil_iff.mp e2.symm
    subst e1
    exact ⟨v, _, [], [], rfl, rfl, h1, set_repl h2 r⟩
/-- the merged dict -/
theorem merge_rep {H : Hp} : ∀ {ps : List (Key × D)} {kvs : List (Key × V)} {ks : List Key} {ds : List D} {vs : List V}, kvs.map (·.1) = ps.map (·.1) → RepL T H fz (ps.map (·.2)) (kvs.map (·.2)) [] → ks.length = vs.length → ks.Nodup → RepL T H fz ds vs [] →
    ∃ vs', mergeK (ks.zip vs) kvs = (mergeD ps (ks, ds)).1.zip vs' ∧ (mergeD ps (ks, ds)).1.length = vs'.length ∧ (mergeD ps (ks, ds)).1.Nodup ∧ RepL T H fz (mergeD ps (ks, ds)).2 vs' []
  | [], [], ks, ds, vs, _, _, hl, nd, r => ⟨vs, rfl, hl, nd, r⟩
  | [], _ :: _, _, _, _, e, _, _, _, _ => by simp at e
  | _ :: _, [], _, _, _, e, _, _, _, _ => by simp at e
  | p :: ps, kv :: kvs, ks, ds, vs, e, hr, hl, nd, r => by
    rw [List.map_cons, List.map_cons] at e hr
    obtain ⟨e1, e2⟩ := List.cons.inj e
    obtain ⟨v, w, F1, F2, e3, e4, h1, h2⟩ := hr
    obtain ⟨rfl, rfl⟩ := List.append_eq_nil_iff.mp e4.symm
    obtain ⟨e5, e6⟩ := List.cons.inj e3
    rw [← e6] at h2
    have hmk : mergeK (ks.zip vs) (kv :: kvs) = mergeK (putK (ks.zip vs) kv.1 kv.2) kvs := rfl
    rw [hmk, putK_zip hl nd]
    have hme : mergeD (p :: ps) (ks, ds) = mergeD ps (putP p.1 p.2 (ks, ds)) := rfl
    rw [hme]
    rw [← e5] at h1
    cases hp : posK kv.1 ks with
    | some j =>
      have hput : putP p.1 p.2 (ks, ds) = (ks, ds.set j p.2) := by
        unfold putP
        rw [← e1]
        simp only [hp]
      rw [hput]
      exact merge_rep (vs := vs.set j kv.2) (ds := ds.set j p.2) e2 h2 (by rw [List.length_set]; exact hl) nd (set_repl r h1)
    | none =>
      have hput : putP p.1 p.2 (ks, ds) = (ks ++ [kv.1], ds ++ [p.2]) := by
        unfold putP
        rw [← e1]
        simp only [hp]
      rw [hput]
      refine merge_rep (vs := vs ++ [kv.2]) (ds := ds ++ [p.2]) e2 h2 (by rw [List.length_append, List.length_append, hl]; rfl) (List.nodup_append.mpr ⟨nd, by simp, fun a h b hb e => posK_none hp (by rw [List.mem_singleton.mp hb] at e; rw [← e]; exact h)⟩) ?_
      have := RepL.append r (show RepL T H fz [p.2] [kv.2] [] from ⟨kv.2, [], [], [], rfl, rfl, h1, rfl, rfl⟩)
      simpa using this
end
def dupK (i : Nat) (js : List Nat) (d x : D) (ρ : Env) (ys : List D) : Fl := match ys with
  | [y] => match updD x y with
    | some x' => match D.mod (fun _ => some x') js d with
      | some d' => .nx (ρ.set i (some d'))
      | none => .unk
    | none => .unk
  | _ => .unk
def isDk : D → Bool
  | .nd (.dk _) true _ => true
  | _ => false
def dupS (pa : Env → Option (Nat × List Nat)) (me : M (List D)) : Env → Fl := fun ρ => match pa ρ with
  | some (i, js) => match ρ[i]? with
    | some (some d) => match D.get js d with
      | some x => match isDk x with
        | true => stS me (fun ys _ => dupK i js d x ρ ys) ρ
        | false => .unk
      | none => .unk
    | _ => .unk
  | none => .unk
section
variable {X : Cx} {T : Tab} {W : WX} {A : List Nat} {pos : Pos}
theorem ps_dupS {a e1 : Expr} {pa : Env → Option (Nat × List Nat)} {me : M (List D)} {apos cpos : Pos} (hK : X.K = T.K) (hc : X.calm = true) (ha : PE X a (TmP T pa)) (hl : PA X [e1] (TmL T W false true me))
    (hbase : attributeBase a "update" X.env (eval a X.env) = eval a X.env)
    (hfew : ((backTo cpos (starEach [e1] X.env)).all (fun x => !x.1) && (backToKw cpos (keywordEach [] X.env)).all (fun x => x.1.isSome)
      && decide (([e1] : List Expr).length + ([] : List Keyword).length + (if ([] : List Keyword).isEmpty then 0 else 1) < 30)) = true)
    (hline : (apos.endLine == cpos.line) = true) (hs : starEach [e1] X.env = (false, eval e1 X.env) :: starEach [] X.env) (hplain : (backTo cpos (starEach [] X.env)).any (·.1) = false)
    (hsw : swapsWith (.Call (.Attribute a "update" apos) [e1] [] cpos) none pos.line X.env = pure false) :
    PS X (.Expr (.Call (.Attribute a "update" apos) [e1] [] cpos) pos) (TmS T W A (dupS pa me)) := by
  have main : PE X (.Call (.Attribute a "update" apos) [e1] [] cpos) (tBM X.K "dict" (rUp X.K) (TmP T pa) (TmL T W false true me)) :=
    pe_bm PySem.F.plainAttrs_dict PySem.F.slot_dict_update PySem.F.type_dict_update (mt_upd hc) ha hl hbase hfew hline hs hplain
  refine PS.imp (ps_expr main hsw) fun D σ H h => ?_
  obtain ⟨fz, F, ρ, c, h⟩ := h.start
  unfold dupS at h
  cases hp : pa ρ with
  | none => rw [hp] at h; exact h.elim
  | some q =>
    obtain ⟨i, js⟩ := q
    simp only [hp] at h
    refine ⟨fz, F, ρ, c.amb, c.env, i, js, hp, fun w H1 fz1 x cu l => ?_⟩
    have c01 : Cur T σ H fz F false H1 fz1 F [] ρ := by
      have := c.trans cu (n := false) fun q => by cases q
      simpa using this
    have l2 := l
    obtain ⟨B, R, d, pm, r, hd, hg, hs', rec⟩ := l2
    simp only [hd, hg] at h
    cases hx : isDk x with
    | false => rw [hx] at h; exact h.elim
    | true =>
      simp only [hx] at h
      obtain ⟨ks, vs, rfl⟩ : ∃ ks vs, x = .nd (.dk ks) true vs := by
        unfold isDk at hx
        split at hx
        · exact ⟨_, _, rfl⟩
        · cases hx
      refine ⟨?_, ?_⟩
      · obtain ⟨a, vs1, G1, e, hk, _, _⟩ := r
        subst e
        exact .inr (.inr (.inl ⟨rfl, .inl ⟨_, (dk_of hk).2⟩⟩))
      · refine (OutS.bindL (pb := false) (nb := true) c01 h).mono ?_
        rintro ws H2 ⟨fz2, F2, G2, ys, ρ2, c2, v2, -, h2⟩
        have e2 := (c2.nm rfl).1
        subst e2
        have l3 := l.keep c2
        have c02 : Cur T σ H fz F2 false H2 fz2 F2 G2 ρ := ⟨by have := (c01.trans c2 (n := false) fun q => by cases q).ext; simpa using this, c01.env.fr c2.frN, fun z => by cases z⟩
        unfold dupK at h2
        split at h2
        · rename_i y
          cases hu : updD (.nd (.dk ks) true vs) y with
          | none => rw [hu] at h2; exact h2.elim
          | some x' =>
            simp only [hu] at h2
            cases hmod : Ev.D.mod (fun _ => some x') js d with
            | none => rw [hmod] at h2; exact h2.elim
            | some d' =>
              simp only [hmod] at h2
              obtain ⟨a, vs1, G0, ew, hk, hl1, nd, hz, hmu, k2⟩ := Loc.commit (d := d) c02 l3
              obtain ⟨m, ys, ps, rfl, hps, hcond, rfl⟩ := updD_inv hu
              rw [Bool.and_eq_true] at hcond
              obtain ⟨w1, wr, A1, A2, e1, e2, ry, rest⟩ := v2
              obtain ⟨rfl, rfl⟩ := rest
              subst e1
              obtain ⟨b, wsb, B1, eb, hb, hlb, _⟩ := ry.lst
              subst eb
              obtain ⟨as, kvs, rfl, hpd, hkk, hrr, hcl, hnm⟩ := pairs_rep hps hlb
              have eG0 := clean_repl hcond.2 hl1
              subst eG0
              obtain ⟨hlen, hda⟩ := dk_of hk
              have hnd := dk_nd hk
              obtain ⟨vs', m1, m2, m3, m4⟩ := merge_rep (H := H2) (fz := fz2) (T := T) hkk hrr hlen hnd hl1
              subst ew
              have hab : a ≠ b := by
                intro e
                rw [← e, hda] at hb
                cases hb
              have hkl : kvs.length = ps.length := by
                have := congrArg List.length hkk
                simpa using this
              refine ⟨a, b, as, _, kvs, rfl, rfl, hda, .inl (.inl hb), by rw [hK]; exact hpd, hab, fun p hp e => hnm p hp (by rw [e]; exact hmu), ?_, ?_⟩
              · rw [List.length_zip, ← hlen, Nat.min_self, hkl]
                exact lineB_ok hcond.1
              · rw [m1]
                obtain ⟨F', cu2⟩ := k2 (.dK ((mergeD ps (ks, vs)).1.zip vs')) (.nd (.dk (mergeD ps (ks, vs)).1) true (mergeD ps (ks, vs)).2) d d' [] [] Ev.D.non .non hd hmod True.intro
                  ⟨a, vs', [], rfl, ⟨by simp, by simp, _, upd_same, m2, m3, rfl⟩, m4.fr (fr_upd (by simp) hz hmu), rfl⟩ ⟨rfl, rfl⟩ (by simp) (by simp)
                have e5 := cu2.ext
                rw [List.append_nil] at e5
                exact h2 σ _ fz2 F' e5 cu2.env Keep.refl
        · exact h2.elim
end
end Ev

set_option Elab.async false
set_option linter.all false
set_option maxRecDepth 100000
set_option maxHeartbeats 4000000
namespace Ev
open PySem PySem.Spec L2

/-! ## what is seen from the text -/
def notStar : Expr → Bool
  | .Starred _ _ => false
  | _ => true
def notSet : Expr → Bool
  | .Set _ _ _ => false
  | _ => true
def notSlice : Expr → Bool
  | .Slice _ _ _ _ => false
  | _ => true
def isIfe : Expr → Bool
  | .IfExp _ _ _ _ => true
  | _ => false
def abaseB : Expr → Bool
  | .Call (.Name id _) [] [] _ => id != ("super" : Str)
  | _ => true
theorem star_cons {e : Expr} {es : List Expr} {env : PySem.Env} (h : notStar e = true) : starEach (e :: es) env = (false, eval e env) :: starEach es env := by
  cases e <;> first | rfl | cases h
theorem star_any {env : PySem.Env} {pos : Pos} : ∀ {es : List Expr}, es.all notStar = true → (backTo pos (starEach es env)).any (·.1) = false
  | [], _ => rfl
  | e :: es, h => by
    rw [List.all_cons, Bool.and_eq_true] at h
    rw [star_cons h.1]
    show (false || (backTo pos (starEach es env)).any (·.1)) = false
    rw [star_any h.2]; rfl
theorem star_all {env : PySem.Env} {pos : Pos} : ∀ {es : List Expr}, es.all notStar = true → (backTo pos (starEach es env)).all (fun x => !x.1) = true
  | [], _ => rfl
  | e :: es, h => by
    rw [List.all_cons, Bool.and_eq_true] at h
    rw [star_cons h.1]
    show (true && (backTo pos (starEach es env)).all (fun x => !x.1)) = true
    rw [star_all h.2]; rfl
theorem few_ok {env : PySem.Env} {pos : Pos} {es : List Expr} (h : es.all notStar = true) (hl : es.length < 30) : ((backTo pos (starEach es env)).all (fun x => !x.1) && (backToKw pos (keywordEach [] env)).all (fun x => x.1.isSome)
      && decide (es.length + ([] : List Keyword).length + (if ([] : List Keyword).isEmpty then 0 else 1) < 30)) = true := by
  rw [star_all h]
  show (true && true && decide (es.length + 0 + 0 < 30)) = true
  simp [hl]
theorem abase_ok {a : Expr} {f : Str} {env : PySem.Env} {w : Sem Value} (h : abaseB a = true) : attributeBase a f env w = w := by
  cases a with
  | Call fn as ks p =>
    cases fn with
    | Name id q =>
      cases as with
      | nil => cases ks with
        | nil => exact abase_call h
        | cons _ _ => rfl
      | cons _ _ => rfl
    | _ => rfl
  | _ => rfl
theorem folded_ok {e : Expr} {env : PySem.Env} (h : notSet e = true) : ∀ x, foldedSetIterable e env x = pure x := by
  intro x
  cases e <;> first | rfl | cases h
theorem plainIx_ok {b : Expr} (h : notSlice b = true) : PlainIx b := by
  intro o i
  cases b <;> first | rfl | cases h
theorem pe_bool1 {X : Cx} {op : BoolOp} {a : Expr} {pos : Pos} {t : TE} (h : PE X a t) : PE X (.BoolOp op [a] pos) t := ⟨fun pins s σ H Q I w => by
  have e : eval (.BoolOp op [a] pos) X.env = eval a X.env := by cases op <;> rfl
  rw [e]
  exact h.run pins s σ H Q I w⟩
theorem meth_tree {o : Expr} {m : Str} {apos pos : Pos} {args : List Expr} {env : PySem.Env} (hb : abaseB o = true) (hs : args.all notStar = true) (hl : args.length < 30) (hline : (apos.endLine == pos.line) = true) :
    eval (.Call (.Attribute o m apos) args [] pos) env = (do
      let ov ← eval o env
      standAt apos.atName
      let (f, first) ← holding [ov] (getMethod ov m (do return (← importBound o env).getD true))
      callWith pos f first (backTo pos (starEach args env)) (backToKw pos (keywordEach [] env))) := by
  refine mcall_of (abase_ok hb) fun ov => ?_
  unfold methodCall calleeOf methodCallPos methodCallForm
  have h1 : ((backTo pos (starEach args env)).all (fun x => !x.1) && (backToKw pos (keywordEach [] env)).all (fun x => x.1.isSome) && decide (args.length + ([] : List Keyword).length + (if ((backToKw pos (keywordEach [] env)).isEmpty) = true then 0 else 1) < 30)) = true := by
    rw [star_all hs]
    show (true && true && decide (args.length + 0 + 0 < 30)) = true
    simp [hl]
  simp only [h1, hline, Bool.not_true, Bool.or_true, if_true, pure_bind]
theorem slot_neg {s : Str} {b : Bool} (h : (s == ("__debug__" : Str)) = b) : (s == ("__debug__" : Str)) = b := h

/-! ## the tables of a text -/
structure Gb where
  fn : Nat → Option Str
  cl : Nat → Option Str
  mN : Nat → Str
  nm : Nat
  fN : Nat → Str
  nf : Nat
  gl : Str → Option At
  bl : List Str
structure Sc where
  N : List Str
  sc : Scope
  all : Str → Bool
def nmV (s : Sc) (i : Nat) (x : Str) : Bool := decide (s.N[i]? = some x) && ((decide (s.sc.names.lookup x = some .local) || (decide (s.sc.names.lookup x = some .cell) || decide (s.sc.names.lookup x = some .free))) && (!(x == ("__debug__" : Str)) && !(x == ("__classdict__" : Str))))
def nmS (s : Sc) (i : Nat) (x : Str) : Bool := decide (s.N[i]? = some x) && (decide (s.sc.names.lookup x = some .local) || (decide (s.sc.names.lookup x = some .cell) && s.all x))
def gbl (s : Sc) (x : Str) : Bool := decide (s.sc.names.lookup x = some .globalImplicit) && !(x == ("__debug__" : Str))
def blt (G : Gb) (s : Sc) (x : Str) : Bool := gbl s x && decide (x ∈ G.bl)
def chkN (s : Sc) : List Nat → List Expr → Bool
  | [], [] => true
  | i :: is, .Name x _ :: es => nmS s i x && chkN s is es
  | _, _ => false
def chkT (s : Sc) (one : Bool) (tg : List Nat) (e : Expr) : Bool := match one, tg, e with
  | true, [i], .Name x _ => nmS s i x
  | false, tg, .Tuple es _ _ => chkN s tg es
  | _, _, _ => false
def isTupE : Expr → Bool
  | .Tuple _ _ _ => true
  | _ => false
def atC : At → Const → Bool
  | .non, .none => true
  | .bl a, .bool b => a == b
  | .int i, .int j => i == j
  | .str x, .str y => x == y
  | _, _ => false
def opU' : UO → UnaryOp → Bool
  | .neg, .USub => true
  | .inv, .Invert => true
  | _, _ => false
def opB' : BO → Operator → Bool
  | .add, .Add => true | .sub, .Sub => true | .mul, .Mult => true | .fdiv, .FloorDiv => true | .mod, .Mod => true | .pow, .Pow => true | .shl, .LShift => true | .shr, .RShift => true | .band, .BitAnd => true | .bor, .BitOr => true
  | _, _ => false
def opC' : CO → CmpOp → Bool
  | .eq, .Eq => true | .ne, .NotEq => true | .lt, .Lt => true | .le, .LtE => true | .gt, .Gt => true | .ge, .GtE => true | .inn, .In => true | .nin, .NotIn => true | .is, .Is => true | .isn, .IsNot => true
  | _, _ => false
def chkTy (G : Gb) (s : Sc) : Ty → Expr → Bool
  | .cls c, .Name x _ => gbl s x && decide (G.cl c = some x)
  | t, .Name x _ => blt G s x && (decide (x = (tyN t : Str)) && !isC t)
  | _, _ => false
def chkTys (G : Gb) (s : Sc) : List Ty → List Expr → Bool
  | [], [] => true
  | t :: ts, e :: es => chkTy G s t e && chkTys G s ts es
  | _, _ => false
def ownP (s : Sc) (own : List Nat) : List (Str × Nat) := own.map fun i => ((s.N[i]?).getD (0 : Nat).repr, i)
def inner (s : Sc) (sc' : Scope) : Sc := ⟨s.N, relS sc' s.sc, fun x => sc'.names.lookup x == some .cell⟩
mutual
def chkE (G : Gb) (s : Sc) : E → Expr → Bool
  | .cn a, e => match e with
    | .Constant c _ _ => atC a c
    | _ => false
  | .gl a, e => match e with
    | .Name x _ => gbl s x && (match G.gl x with
      | some b => decide (a = b)
      | none => false)
    | _ => false
  | .var i, e => match e with
    | .Name x _ => nmV s i x
    | _ => false
  | .mv i, e => match e with
    | .Name x _ => nmV s i x
    | _ => false
  | .sh i, e => match e with
    | .Name x _ => nmV s i x
    | _ => false
  | .rf _, _ => false
  | .un o a, e => match e with
    | .UnaryOp op a' _ => opU' o op && chkE G s a a'
    | .Call (.Attribute a' m apos) [] [] pos => (decide (o = .blen) && (decide (m = ("bit_length" : Str)) && (abaseB a' && (apos.endLine == pos.line)))) && chkE G s a a'
    | _ => false
  | .bin o a b, e => match e with
    | .BinOp a' op b' _ => opB' o op && (chkE G s a a' && chkE G s b b')
    | _ => false
  | .cmp o a b, e => match e with
    | .Compare a' [op] [b'] _ => (opC' o op && notSet b') && (chkE G s a a' && chkE G s b b')
    | _ => false
  | .chn o1 o2 a b c, e => match e with
    | .Compare a' [op1, op2] [b', c'] _ => (opC' o1 op1 && (opC' o2 op2 && (notSet b' && notSet c'))) && (chkE G s a a' && (chkE G s b b' && chkE G s c c'))
    | _ => false
  | .and_ a b, e => match e with
    | .BoolOp .And (a' :: b' :: rest) pos => (chkE G s a a' && !isIfe a') && (match rest with
      | [] => chkE G s b b' && !isIfe b'
      | c' :: rest => chkE G s b (.BoolOp .And (b' :: c' :: rest) pos))
    | _ => false
  | .or_ a b, e => match e with
    | .BoolOp .Or (a' :: b' :: rest) pos => (chkE G s a a' && !isIfe a') && (match rest with
      | [] => chkE G s b b' && !isIfe b'
      | c' :: rest => chkE G s b (.BoolOp .Or (b' :: c' :: rest) pos))
    | _ => false
  | .not_ a, e => match e with
    | .UnaryOp .Not a' _ => chkE G s a a' && !isIfe a'
    | _ => false
  | .ife c a b, e => match e with
    | .IfExp c' a' b' _ => (chkE G s c c' && !isIfe c') && (chkE G s a a' && chkE G s b b')
    | _ => false
  | .tup es, e => match e with
    | .Tuple es' _ _ => chkL G s es es' && es'.all notStar
    | _ => false
  | .lst es, e => match e with
    | .List es' _ => chkL G s es es' && es'.all notStar
    | _ => false
  | .dis k v, e => match e with
    | .Dict [some k'] [v'] _ => (nm k && nm v) && (chkE G s k k' && chkE G s v v')
    | _ => false
  | .dsp kvs, e => match e with
    | .Dict ks vs _ => chkDs kvs ks vs
    | _ => false
  | .dg a k df, e => match e with
    | .Call (.Attribute a' m apos) [k'] [] pos => (decide (df = none) && (decide (m = ("get" : Str)) && (abaseB a' && (notStar k' && (apos.endLine == pos.line))))) && (chkE G s a a' && chkE G s k k')
    | .Call (.Attribute a' m apos) [k', f'] [] pos => (decide (m = ("get" : Str)) && (abaseB a' && (notStar k' && (notStar f' && (apos.endLine == pos.line))))) && (chkE G s a a' && (chkE G s k k' && (match df with
      | some c => cstB f' c
      | none => false)))
    | _ => false
  | .dic _, e => match e with
    | .Dict [] [] _ => true
    | _ => false
  | .idx a i, e => match e with
    | .Subscript a' i' _ => notSlice i' && (chkE G s a a' && chkE G s i i')
    | _ => false
  | .slc a lo hi, e => match e with
    | .Subscript a' (.Slice lo' hi' none _) _ => chkE G s a a' && (chkO G s lo lo' && chkO G s hi hi')
    | _ => false
  | .rev a, e => match e with
    | .Subscript a' (.Slice none none (some (.UnaryOp .USub (.Constant (.int k) _ _) _)) _) _ => decide (k = 1) && chkE G s a a'
    | _ => false
  | .fld a f, e => match e with
    | .Attribute a' f' _ => (decide (f' = G.fN f) && (decide (f < G.nf) && abaseB a')) && chkE G s a a'
    | _ => false
  | .b1 o a, e => match e with
    | .Call (.Name x _) [a'] [] _ => (decide (x = b1N o) && (blt G s x && notStar a')) && chkE G s a a'
    | _ => false
  | .b2 o a b, e => match e with
    | .Call (.Name x _) [a', b'] [] _ => (decide (x = b2N o) && (blt G s x && (notStar a' && notStar b'))) && (chkE G s a a' && chkE G s b b')
    | _ => false
  | .isi a ts, e => match e with
    | .Call (.Name x _) [a', .Tuple es _ _] [] _ => (decide (x = ("isinstance" : Str)) && (blt G s x && notStar a')) && (chkE G s a a' && (chkTys G s ts es && decide (ts.length ≤ 30)))
    | .Call (.Name x _) [a', t'] [] _ => (decide (x = ("isinstance" : Str)) && (blt G s x && notStar a')) && (chkE G s a a' && chkTys G s ts [t'])
    | _ => false
  | .pm o a es, e => match e with
    | .Call (.Attribute a' m apos) (e' :: es') [] pos => (decide (m = pmN o) && (abaseB a' && ((e' :: es').all notStar && (decide ((e' :: es').length < 30) && (apos.endLine == pos.line))))) && (chkE G s a a' && chkL G s es (e' :: es'))
    | _ => false
  | .call f es, e => match e with
    | .Call (.Name x _) es' [] _ => (decide (G.fn f = some x) && (gbl s x && es'.all notStar)) && chkA G s es es'
    | _ => false
  | .mk c es, e => match e with
    | .Call (.Name x _) es' [] _ => (decide (G.cl c = some x) && (gbl s x && es'.all notStar)) && chkL G s es es'
    | _ => false
  | .mth m o es, e => match e with
    | .Call (.Attribute o' x apos) es' [] pos => (decide (x = G.mN m) && (decide (m < G.nm) && (abaseB o' && (es'.all notStar && (decide (es'.length < 30) && (apos.endLine == pos.line)))))) && ((match rfOf o with
      | some i => match o' with
        | .Name y _ => nmV s i y
        | _ => false
      | none => chkE G s o o') && chkA G s es es')
    | _ => false
  | .mut k pl es, e => match e with
    | .Call (.Attribute a' m apos) es' [] pos => (decide (m = muN k) && (abaseB a' && (es'.all notStar && (decide (es'.length < 30) && (apos.endLine == pos.line))))) && (chkP G s pl a' && (chkL G s es es' && (!es'.isEmpty || decide (k = .pop))))
    | _ => false
  | .lc own tg one sk src cond elt, e => match e with
    | .ListComp elt' [⟨tg', iter, ifs, 0⟩] sc' _ => ((blkC s.N s.sc sc' (ownP s own) && decide own.Nodup) && (tg.all (fun i => decide (i ∈ own)) && (chkT (inner s sc') one tg tg' && notSet iter))) &&
      (((match sk, src, iter with
        | .seq, [a], it => chkE G s a it
        | .range, [a], .Call (.Name x _) [a'] [] _ => (decide (x = ("range" : Str)) && (blt G s x && notStar a')) && chkE G s a a'
        | .range, [a, b], .Call (.Name x _) [a', b'] [] _ => (decide (x = ("range" : Str)) && (blt G s x && (notStar a' && notStar b'))) && (chkE G s a a' && chkE G s b b')
        | .enum, [a], .Call (.Name x _) [a'] [] _ => (decide (x = ("enumerate" : Str)) && (blt G s x && (notStar a' && isTupE tg'))) && chkE G s a a'
        | .zip, [a, b], .Call (.Name x _) [a', b'] [] _ => (decide (x = ("zip" : Str)) && (blt G s x && (notStar a' && (notStar b' && isTupE tg')))) && (chkE G s a a' && chkE G s b b')
        | _, _, _ => false) && (match cond, ifs with
        | [], [] => true
        | [c], [c'] => chkE G (inner s sc') c c' && !isIfe c'
        | _, _ => false)) && chkE G (inner s sc') elt elt')
    | _ => false
def chkL (G : Gb) (s : Sc) : List E → List Expr → Bool
  | [], [] => true
  | e :: es, e' :: es' => chkE G s e e' && chkL G s es es'
  | _, _ => false
def chkA (G : Gb) (s : Sc) : List E → List Expr → Bool
  | [], [] => true
  | e :: es, e' :: es' => (match rfOf e with
    | some i => match e' with
      | .Name x _ => nmV s i x
      | _ => false
    | none => chkE G s e e') && chkA G s es es'
  | _, _ => false
def chkO (G : Gb) (s : Sc) : List E → Option Expr → Bool
  | [], none => true
  | [e], some e' => chkE G s e e'
  | _, _ => false
def chkP (G : Gb) (s : Sc) : E → Expr → Bool
  | .var i, e => match e with
    | .Name x _ => nmV s i x
    | _ => false
  | .fld a f, e => match e with
    | .Attribute a' f' _ => (decide (f' = G.fN f) && (decide (f < G.nf) && abaseB a')) && chkP G s a a'
    | _ => false
  | .idx a i, e => match e with
    | .Subscript a' i' _ => (notSlice i' && nm i) && (chkP G s a a' && chkE G s i i')
    | _ => false
  | _, _ => false
end
end Ev

set_option Elab.async false
set_option linter.all false
set_option maxRecDepth 100000
set_option maxHeartbeats 4000000
namespace Ev
open PySem PySem.Spec L2

structure Sta (X : Cx) (T : Tab) (C : Calls) (k : Nat) (G : Gb) : Prop where
  hK : X.K = T.K
  tab : TabOk T
  isi : IsiOk T C.sub
  room : Room (k + 1) X.A
  calm : X.calm = true
  nd : X.N.Nodup
  fns : ∀ f x, G.fn f = some x → ∃ fa, X.mg x = some (.ref fa) ∧ PySem.W.keepIn X.K (.ref fa) = true ∧ Fn1 X T C k f fa
  cls : ∀ c x, G.cl c = some x → X.mg x = some (.ref (T.C c)) ∧ ∃ f fa, C.init c = some f ∧ Mk X.K (T.C c) fa ∧ Fn1 X T C k f fa
  meth : MethOk X T C k G.mN
  mNf : ∀ m, m < G.nm → ∀ f, f < T.nf → T.f f ≠ G.mN m
  blt : ∀ x, x ∈ G.bl → X.mg x = none
  gls : ∀ x a, G.gl x = some a → ∃ u, X.mg x = some u ∧ RelV a.v u
  nf : G.nf = T.nf
  fN : G.fN = T.f
structure Vr (X : Cx) (s : Sc) : Prop where
  N : X.N = s.N
  sc : X.env.scope = s.sc
  all : ∀ x, s.all x = true → X.fn x = true
section
variable {X : Cx} {T : Tab} {C : Calls} {k : Nat} {G : Gb} {W : WX} {s : Sc}
theorem Sta.hu (t : Sta X T C k G) : X.A.units + 200 < cLine := by have := t.room.un; omega
theorem Sta.rm (t : Sta X T C k G) : Room k X.A := t.room.mono (Nat.le_succ k)
theorem nmV_ok (v : Vr X s) {i : Nat} {x : Str} (h : nmV s i x = true) : X.N[i]? = some x ∧ Vis X.env.scope x ∧ (x == ("__debug__" : Str)) = false ∧ (x == ("__classdict__" : Str)) = false := by
  unfold nmV at h
  simp only [Bool.and_eq_true, Bool.or_eq_true, decide_eq_true_eq, Bool.not_eq_true'] at h
  rw [v.N]
  refine ⟨h.1, ?_, h.2.2.1, h.2.2.2⟩
  unfold Vis
  rw [v.sc]
  exact h.2.1
theorem nmS_ok (v : Vr X s) {i : Nat} {x : Str} (h : nmS s i x = true) : X.N[i]? = some x ∧ L2.Loc X.env.scope x ∧ (X.fn x = true ∨ X.env.scope.names.lookup x = some .local) := by
  unfold nmS at h
  simp only [Bool.and_eq_true, Bool.or_eq_true, decide_eq_true_eq] at h
  rw [v.N]
  unfold L2.Loc
  rw [v.sc]
  refine ⟨h.1, ?_, ?_⟩
  · rcases h.2 with q | q
    · exact .inl q
    · exact .inr q.1
  · rcases h.2 with q | q
    · exact .inr q
    · exact .inl (v.all x q.2)
theorem gbl_ok (v : Vr X s) {x : Str} (h : gbl s x = true) : Gl X x ∧ (x == ("__debug__" : Str)) = false := by
  unfold gbl at h
  simp only [Bool.and_eq_true, decide_eq_true_eq, Bool.not_eq_true'] at h
  refine ⟨?_, h.2⟩
  show X.env.scope.names.lookup x = some .globalImplicit
  rw [v.sc]
  exact h.1
theorem blt_ok (t : Sta X T C k G) (v : Vr X s) {x : Str} (h : blt G s x = true) : Gl X x ∧ X.mg x = none := by
  unfold blt at h
  simp only [Bool.and_eq_true, decide_eq_true_eq] at h
  exact ⟨(gbl_ok v h.1).1, t.blt x h.2⟩
theorem pg_chk (t : Sta X T C k G) (v : Vr X s) : ∀ {is : List Nat} {es : List Expr}, chkN s is es = true → PGs X es (gMany is) ∧ (assignEach es X.env).length = is.length ∧ (assignEach es X.env).findIdx? (·.1) = none
  | [], [], _ => ⟨pgs_nil, rfl, rfl⟩
  | i :: is, e :: es, h => by
    cases e with
    | Name x q =>
      have h : (nmS s i x && chkN s is es) = true := h
      rw [Bool.and_eq_true] at h
      obtain ⟨h1, h2, h3⟩ := nmS_ok v h.1
      obtain ⟨p1, p2, p3⟩ := pg_chk t v h.2
      refine ⟨pgs_cons (pg_name t.nd h1 h2 h3) p1 rfl, ?_, ?_⟩
      · show (assignEach es X.env).length + 1 = _
        rw [p2]; rfl
      · show List.findIdx? (·.1) ((false, _) :: assignEach es X.env) = none
        rw [List.findIdx?_cons]
        simp [p3]
    | _ => cases h
  | [], _ :: _, h => by cases h
  | _ :: _, [], h => by cases h
theorem tgt_ok (t : Sta X T C k G) (v : Vr X s) {one : Bool} {tg : List Nat} {e : Expr} (h : chkT s one tg e = true) : PG X e (gT T.K one tg) := by
  unfold chkT at h
  split at h
  · obtain ⟨h1, h2, h3⟩ := nmS_ok v h
    exact pg_name t.nd h1 h2 h3
  · obtain ⟨p1, p2, p3⟩ := pg_chk t v h
    show PG X _ (gTup T.K tg.length (gMany tg))
    rw [← t.hK]
    exact pg_tup t.calm p1 p2 p3
  · cases h
def plainT : Expr → Bool
  | .UnaryOp .Not _ _ => false
  | .BoolOp _ _ _ => false
  | .IfExp _ _ _ _ => false
  | .Compare _ _ _ _ => false
  | _ => true
theorem pt_gen {a : Expr} {m : M D} {n : Bool} (h : PE X a (Tm T W true n m)) (ha : plainT a = true) : PT X a (TmB T W n (tst m)) := by
  refine pt_plain h (fun q => q) fun whole => ?_
  cases a <;> first | rfl | (cases ha; done) | skip
  rename_i op _ _
  cases op <;> first | rfl | cases ha
theorem atC_ok {a : At} {c : Const} {n p : Bool} {j : Nat} {pos : Pos} (h : atC a c = true) : PE X (.Constant c j pos) (Tm T W p n (M.pure (D.at a))) := by
  cases a with
  | non => cases c <;> first | exact pe_cnon | cases h
  | bl b => cases c with
    | bool b' =>
      have : b = b' := by simpa [atC] using h
      subst this; exact pe_cbl
    | _ => cases h
  | int i => cases c with
    | int i' =>
      have : i = i' := by simpa [atC] using h
      subst this; exact pe_cint
    | _ => cases h
  | str x => cases c with
    | str y =>
      have : x = y := by simpa [atC] using h
      subst this; exact pe_cstr
    | _ => cases h
theorem opU_ok {o : UO} {op : UnaryOp} (h : opU' o op = true) : op = opU o := by cases o <;> cases op <;> first | rfl | cases h
theorem opB_ok {o : BO} {op : Operator} (h : opB' o op = true) : op = opO o := by cases o <;> cases op <;> first | rfl | cases h
theorem opC_ok {o : CO} {op : CmpOp} (h : opC' o op = true) : op = opC o := by cases o <;> cases op <;> first | rfl | cases h
theorem behind_ok {op : CmpOp} {e : Expr} (h : notSet e = true) : behindInMarks op e = false := by cases e <;> first | rfl | cases h
theorem last_ok {o1 o2 : CmpOp} {b c : Expr} (h : notSet c = true) : lastMarks [o1, o2] [b, c] = false := behind_ok h
theorem ty_ok (t : Sta X T C k G) (v : Vr X s) {y : Ty} {e : Expr} (h : chkTy G s y e = true) : TyE X T e y := by
  unfold chkTy at h
  split at h
  · rename_i c x q
    rw [Bool.and_eq_true, decide_eq_true_eq] at h
    obtain ⟨hg, hd⟩ := gbl_ok v h.1
    obtain ⟨hm, _⟩ := t.cls c x h.2
    exact ⟨pe_glob hg hm rfl hd, _, _, rfl⟩
  · rename_i x q hne
    simp only [Bool.and_eq_true, decide_eq_true_eq, Bool.not_eq_true'] at h
    obtain ⟨h1, h2, h3⟩ := h
    obtain ⟨hg, hm⟩ := blt_ok t v h1
    subst h2
    refine ⟨?_, _, _, rfl⟩
    cases y with
    | cls c => cases h3
    | int => exact pe_bltn hg hm (by decide +kernel) rfl (by decide) (by decide)
    | bool => exact pe_bltn hg hm (by decide +kernel) rfl (by decide) (by decide)
    | str => exact pe_bltn hg hm (by decide +kernel) rfl (by decide) (by decide)
    | tuple => exact pe_bltn hg hm (by decide +kernel) rfl (by decide) (by decide)
    | list => exact pe_bltn hg hm (by decide +kernel) rfl (by decide) (by decide)
    | dict => exact pe_bltn hg hm (by decide +kernel) rfl (by decide) (by decide)
  · cases h
theorem tys_ok (t : Sta X T C k G) (v : Vr X s) : ∀ {ys : List Ty} {es : List Expr}, chkTys G s ys es = true → Paired (TyE X T) es ys
  | [], [], _ => .nil
  | y :: ys, e :: es, h => by
    have h : (chkTy G s y e && chkTys G s ys es) = true := h
    rw [Bool.and_eq_true] at h
    exact .cons (ty_ok t v h.1) (tys_ok t v h.2)
  | [], _ :: _, h => by cases h
  | _ :: _, [], h => by cases h
/-- a comprehension's block -/
theorem blk_sta (t : Sta X T C k G) (st : Shared) (H : Hp) (sc' : Scope) (Ca : Addr) (cl : List (Str × Addr)) (fp : List Addr) : Sta (X.blk st H sc' (compEnvC sc' cl Ca X.env) fp) T C k G :=
  ⟨t.hK, t.tab, t.isi, t.room, t.calm, t.nd, t.fns, t.cls, t.meth, t.mNf, t.blt, t.gls, t.nf, t.fN⟩
theorem blk_vr (v : Vr X s) (st : Shared) (H : Hp) (sc' : Scope) (Ca : Addr) (cl : List (Str × Addr)) (fp : List Addr) : Vr (X.blk st H sc' (compEnvC sc' cl Ca X.env) fp) (inner s sc') :=
  ⟨v.N, by
    show relabel sc' X.env = relS sc' s.sc
    rw [← v.sc]; rfl, fun x h => h⟩
theorem blk_takes (st : Shared) (H : Hp) (sc' : Scope) (Ca : Addr) (cl : List (Str × Addr)) (fp : List Addr) : Takes (X.blk st H sc' (compEnvC sc' cl Ca X.env) fp) WF := by
  intro u s' x
  obtain ⟨a, B, sI, pins, σ, H', cls, d, e, I, nb, up, sky, na, os, ag, w⟩ := x
  exact w.elim
theorem ownP_snd (s : Sc) (own : List Nat) : (ownP s own).map (·.2) = own := by
  unfold ownP
  rw [List.map_map]
  exact List.map_id' own
end
end Ev

set_option Elab.async false
set_option linter.all false
set_option maxRecDepth 100000
set_option maxHeartbeats 8000000
namespace Ev
open PySem PySem.Spec L2

section
variable {T : Tab} {C : Calls} {k : Nat} {G : Gb}
abbrev Both (X : Cx) (T : Tab) (C : Calls) (W : WX) (e : E) (a : Expr) : Prop := (∀ p, PE X a (Tm T W p (nm e) (ev C p e))) ∧ (isIfe a = false → PT X a (TmB T W (nm e) (tst (ev C true e))))
def SndE (T : Tab) (C : Calls) (k : Nat) (G : Gb) (e : E) : Prop := ∀ (X : Cx) (W : WX) (s : Sc) (a : Expr), Sta X T C k G → Vr X s → Takes X W → chkE G s e a = true → Both X T C W e a
theorem Both.of {X : Cx} {W : WX} {e : E} {a : Expr} (f : ∀ p, PE X a (Tm T W p (nm e) (ev C p e))) (hp : plainT a = true) : Both X T C W e a := ⟨f, fun _ => pt_gen (f true) hp⟩
theorem a1 {a b : Bool} (h : (a && b) = true) : a = true := ((Bool.and_eq_true _ _).mp h).1
theorem a2 {a b : Bool} (h : (a && b) = true) : b = true := ((Bool.and_eq_true _ _).mp h).2
theorem neg_of {b : Bool} (h : (!b) = true) : b = false := by cases b <;> simp_all
theorem evP1_len {e : E} : ∀ ρ ss ρ', evP C [e] ρ = .ok ss ρ' → ss.length = 1 := by
  intro ρ ss ρ' h
  have h : M.bind (ev C true e) (fun x => M.bind (M.pure []) fun xs => M.chk (x.clean || true) (M.pure (x :: xs))) ρ = .ok ss ρ' := h
  unfold M.bind at h
  cases e1 : ev C true e ρ with
  | unk => rw [e1] at h; cases h
  | ex _ _ => rw [e1] at h; cases h
  | ok x ρ1 =>
    rw [e1] at h
    have h : M.chk (x.clean || true) (M.pure [x]) ρ1 = .ok ss ρ' := h
    rw [Bool.or_true] at h
    have h : R.ok [x] ρ1 = R.ok ss ρ' := h
    cases h; rfl
theorem evP2_len {e e2 : E} : ∀ ρ ss ρ', evP C [e, e2] ρ = .ok ss ρ' → ss.length = 2 := by
  intro ρ ss ρ' h
  have h : M.bind (ev C true e) (fun x => M.bind (evP C [e2]) fun xs => M.chk (x.clean || nmL [e2]) (M.pure (x :: xs))) ρ = .ok ss ρ' := h
  unfold M.bind at h
  cases e1 : ev C true e ρ with
  | unk => rw [e1] at h; cases h
  | ex _ _ => rw [e1] at h; cases h
  | ok x ρ1 =>
    simp only [e1] at h
    cases e3 : evP C [e2] ρ1 with
    | unk => rw [e3] at h; cases h
    | ex _ _ => rw [e3] at h; cases h
    | ok xs ρ2 =>
      simp only [e3] at h
      have l := evP1_len _ _ _ e3
      cases hc : (x.clean || nmL [e2]) with
      | false => rw [hc] at h; cases h
      | true =>
        rw [hc] at h
        have h : R.ok (x :: xs) ρ2 = R.ok ss ρ' := h
        cases h
        simp [l]
theorem nmL1 {e : E} : nmL [e] = nm e := by show (nm e && true) = nm e; rw [Bool.and_true]
theorem nmL2 {e e2 : E} : nmL [e, e2] = (nm e && nm e2) := by show (nm e && (nm e2 && true)) = _; rw [Bool.and_true]
/-- sources of walks -/
theorem src_ok {X : Cx} {W : WX} {s : Sc} {sk : SK} {src : List E} {tg' iter : Expr} (t : Sta X T C k G) (v : Vr X s) (tk : Takes X W)
    (h : (match sk, src, iter with
        | .seq, [a], it => chkE G s a it
        | .range, [a], .Call (.Name x _) [a'] [] _ => (decide (x = ("range" : Str)) && (blt G s x && notStar a')) && chkE G s a a'
        | .range, [a, b], .Call (.Name x _) [a', b'] [] _ => (decide (x = ("range" : Str)) && (blt G s x && (notStar a' && notStar b'))) && (chkE G s a a' && chkE G s b b')
        | .enum, [a], .Call (.Name x _) [a'] [] _ => (decide (x = ("enumerate" : Str)) && (blt G s x && (notStar a' && isTupE tg'))) && chkE G s a a'
        | .zip, [a, b], .Call (.Name x _) [a', b'] [] _ => (decide (x = ("zip" : Str)) && (blt G s x && (notStar a' && (notStar b' && isTupE tg')))) && (chkE G s a a' && chkE G s b b')
        | _, _, _ => false) = true) : (∀ e ∈ src, SndE T C k G e) → PI X tg' iter (TmI T W (nmL src) sk (evP C src)) := by
  split at h
  · rename_i a
    intro ih
    have b := (ih a (by simp) X W s _ t v tk h).1 true
    exact pi_seqE t.hK b fun q => by rw [nmL1] at q; exact q
  · rename_i a x q a' q2
    intro ih
    simp only [Bool.and_eq_true, decide_eq_true_eq] at h
    obtain ⟨⟨rfl, h2, h3⟩, h4⟩ := h
    obtain ⟨hg, hm⟩ := blt_ok t v h2
    have b := (ih a (by simp) X W s _ t v tk h4).1 true
    exact pi_rng1 (ns := nmL [a]) hg hm (pa_consP b (pa_nilP (n := true)) (fun q => by rw [nmL1] at q; exact q) (fun _ => rfl) (star_cons h3)) (star_cons h3) (fun q => q) evP1_len
  · rename_i a b x q a' b' q2
    intro ih
    simp only [Bool.and_eq_true, decide_eq_true_eq] at h
    obtain ⟨⟨rfl, h2, h3, h5⟩, h4, h6⟩ := h
    obtain ⟨hg, hm⟩ := blt_ok t v h2
    have ba := (ih a (by simp) X W s _ t v tk h4).1 true
    have bb := (ih b (by simp) X W s _ t v tk h6).1 true
    refine pi_rng2 (ns := nmL [a, b]) hg hm (pa_consP (nr := nmL [b]) ba (pa_consP bb (pa_nilP (n := true)) (fun q => by rw [nmL1] at q; exact q) (fun _ => rfl) (star_cons h5)) (fun q => by rw [nmL2] at q; exact a1 q) (fun q => by rw [nmL2] at q; rw [nmL1]; exact a2 q) (star_cons h3)) ?_ (star_cons h5) (fun q => q) evP2_len
    rw [star_cons h3, star_cons h5]; rfl
  · rename_i a x q a' q2
    intro ih
    simp only [Bool.and_eq_true, decide_eq_true_eq] at h
    obtain ⟨⟨rfl, h2, h3, h5⟩, h4⟩ := h
    obtain ⟨hg, hm⟩ := blt_ok t v h2
    have b := (ih a (by simp) X W s _ t v tk h4).1 true
    cases tg' with
    | Tuple es kk tp => exact pi_en (ns := nmL [a]) t.hK hg hm (pa_consP b (pa_nilP (n := true)) (fun q => by rw [nmL1] at q; exact q) (fun _ => rfl) (star_cons h3)) (star_cons h3) (fun q => q) evP1_len
    | _ => cases h5
  · rename_i a b x q a' b' q2
    intro ih
    simp only [Bool.and_eq_true, decide_eq_true_eq] at h
    obtain ⟨⟨rfl, h2, h3, h5, h7⟩, h4, h6⟩ := h
    obtain ⟨hg, hm⟩ := blt_ok t v h2
    have ba := (ih a (by simp) X W s _ t v tk h4).1 true
    have bb := (ih b (by simp) X W s _ t v tk h6).1 true
    cases tg' with
    | Tuple es kk tp =>
      exact pi_zp (ns := nmL [a, b]) t.hK hg hm (pa_consP (nr := nmL [b]) ba (pa_consP bb (pa_nilP (n := true)) (fun q => by rw [nmL1] at q; exact q) (fun _ => rfl) (star_cons h5)) (fun q => by rw [nmL2] at q; exact a1 q) (fun q => by rw [nmL2] at q; rw [nmL1]; exact a2 q) (star_cons h3)) (star_cons h3)
        (star_any (es := [b']) (by simp [h5])) (fun q => q) evP2_len
    | _ => cases h7
  · cases h
end
end Ev

set_option Elab.async false
set_option linter.all false
set_option maxRecDepth 100000
set_option maxHeartbeats 16000000
namespace Ev
open PySem PySem.Spec L2

section
variable {T : Tab} {C : Calls} {k : Nat} {G : Gb}
def SndL (T : Tab) (C : Calls) (k : Nat) (G : Gb) (es : List E) : Prop := (∀ (X : Cx) (W : WX) (s : Sc) (as : List Expr), Sta X T C k G → Vr X s → Takes X W → chkL G s es as = true → as.all notStar = true → PA X as (TmL T W false (nmL es) (evs C es))) ∧
  (∀ (X : Cx) (W : WX) (s : Sc) (as : List Expr), Sta X T C k G → Vr X s → Takes X W → chkA G s es as = true → as.all notStar = true → PA X as (TmA T W (nmL es) es (evA C es)) ∧ (nmL es = true → rfs es = [])) ∧
  (∀ (X : Cx) (W : WX) (s : Sc) (o : Option Expr), Sta X T C k G → Vr X s → Takes X W → chkO G s es o = true → PO X o (TmO T W (nmL es) (evs C es))) ∧ (∀ e ∈ es, SndE T C k G e)
def SndP (T : Tab) (C : Calls) (k : Nat) (G : Gb) (e : E) : Prop := ∀ (X : Cx) (W : WX) (s : Sc) (a : Expr), Sta X T C k G → Vr X s → Takes X W → chkP G s e a = true → PE X a (TmP T (path C e))
theorem rf_nm {e : E} (h : nm e = true) : rfOf e = none := by cases e <;> first | rfl | cases h
theorem sndL_nil : SndL T C k G [] := by
  refine ⟨fun X W s as t v tk h ns => ?_, fun X W s as t v tk h ns => ?_, fun X W s o t v tk h => ?_, fun e h => by cases h⟩
  · cases as with
    | nil => exact pa_nilE
    | cons _ _ => cases h
  · cases as with
    | nil => exact ⟨pa_nilA, fun _ => rfl⟩
    | cons _ _ => cases h
  · cases o with
    | none => exact po_noneE
    | some _ => cases h
theorem sndL_cons {e : E} {es : List E} (he : SndE T C k G e) (hes : SndL T C k G es) : SndL T C k G (e :: es) := by
  obtain ⟨h1, h2, h3, h4⟩ := hes
  refine ⟨fun X W s as t v tk h ns => ?_, fun X W s as t v tk h ns => ?_, fun X W s o t v tk h => ?_, fun e' h => ?_⟩
  · cases as with
    | nil => cases h
    | cons a as =>
      have h : (chkE G s e a && chkL G s es as) = true := h
      rw [List.all_cons, Bool.and_eq_true] at ns
      exact pa_consE ((he X W s a t v tk (a1 h)).1 false) (h1 X W s as t v tk (a2 h) ns.2) (fun q => a1 q) (fun q => a2 q) (star_cons ns.1)
  · cases as with
    | nil => cases h
    | cons a as =>
      rw [List.all_cons, Bool.and_eq_true] at ns
      cases hr : rfOf e with
      | none =>
        rw [chkA, hr] at h
        obtain ⟨p1, p2⟩ := h2 X W s as t v tk (a2 h) ns.2
        refine ⟨?_, fun q => by rw [rfs_cons_none hr]; exact p2 (a2 q)⟩
        have e1 : evA C (e :: es) = M.bind (ev C false e) fun x => M.bind (evA C es) fun xs => M.pure (x.frz :: xs) := by
          show (match rfOf e with
            | some i => fun ρ => match ρ[i]? with
              | some (some _) => M.bind (evA C es) (fun xs => M.pure (D.non :: xs)) ρ
              | _ => .unk
            | none => M.bind (ev C false e) fun x => M.bind (evA C es) fun xs => M.pure (x.frz :: xs)) = _
          rw [hr]
        rw [e1]
        exact pa_consA ((he X W s a t v tk (a1 h)).1 false) p1 (fun q => a1 q) (fun q => a2 q) hr (star_cons ns.1)
      | some i =>
        have ee : e = .rf i := by cases e <;> first | (cases hr; rfl) | cases hr
        subst ee
        rw [chkA, hr] at h
        obtain ⟨p1, p2⟩ := h2 X W s as t v tk (a2 h) ns.2
        cases a with
        | Name x q =>
          obtain ⟨q1, q2, q3, q4⟩ := nmV_ok v (a1 h)
          exact ⟨pa_consR q1 q2 q3 q4 p1, fun q => by cases a1 q⟩
        | _ => cases a1 h
  · cases o with
    | none => cases es <;> cases h
    | some a =>
      cases es with
      | nil =>
        have h : chkE G s e a = true := h
        exact po_someE ((he X W s a t v tk h).1 false) (fun q => a1 q)
      | cons _ _ => cases h
  · rcases List.mem_cons.mp h with rfl | h
    · exact he
    · exact h4 e' h
theorem conds_ok {X : Cx} {W : WX} {s : Sc} {cond : List E} {ifs : List Expr} (t : Sta X T C k G) (v : Vr X s) (tk : Takes X W) 
    (h : (match cond, ifs with
        | [], [] => true
        | [c], [c'] => chkE G s c c' && !isIfe c'
        | _, _ => false) = true) : (∀ e ∈ cond, SndE T C k G e) → PTs X ifs (TmB T W (nmL cond) (evC C cond)) := by
  split at h
  · intro _; exact pts_nilE
  · rename_i c c'
    intro ih
    have b := (ih c (by simp) X W s c' t v tk (a1 h)).2 (neg_of (a2 h))
    rw [nmL1]
    exact pts_one b
  · cases h
/-! ### looked at, or as a value: the same test -/
def Le {α : Type} (r r' : R α) : Prop := r = .unk ∨ r = r'
theorem Le.bind {α β : Type} {m : M α} {f g : α → M β} {ρ : Env} (h : ∀ a ρ, Le (f a ρ) (g a ρ)) : Le (M.bind m f ρ) (M.bind m g ρ) := by
  unfold M.bind
  cases m ρ with
  | ok a ρ' => exact h a ρ'
  | ex x ρ' => exact .inr rfl
  | unk => exact .inl rfl
theorem Le.tst {m m' : M D} {ρ : Env} (h : Le (m ρ) (m' ρ)) : Le (tst m ρ) (tst m' ρ) := by
  unfold Ev.tst M.bind
  rcases h with h | h
  · rw [h]; exact .inl rfl
  · rw [h]; exact .inr rfl
theorem Le.plc {d : D} {ρ : Env} : Le (plc false d ρ) (plc true d ρ) := by
  unfold Ev.plc
  cases d.clean with
  | true => exact .inr rfl
  | false => exact .inl rfl
theorem Le.chk {α : Type} {b : Bool} {m m' : M α} {ρ : Env} (h : Le (m ρ) (m' ρ)) : Le (M.chk b m ρ) (M.chk b m' ρ) := by
  cases b with
  | true => exact h
  | false => exact .inl rfl
theorem fin_false {m : M D} : fin false m = m := by
  funext ρ
  unfold Ev.fin
  cases m ρ <;> rfl
theorem tst_fin {m : M D} : tst (fin false m) = tst (fin true m) := by rw [fin_false, fin_tst]
theorem tst_le : ∀ (e : E) (ρ : Env), Le (tst (ev C false e) ρ) (tst (ev C true e) ρ) := by
  intro e ρ
  cases e with
  | cn a => exact .inr rfl
  | gl a => exact .inr rfl
  | sh i => exact .inr rfl
  | rf i => exact .inr rfl
  | var i =>
    refine Le.tst ?_
    have e1 : ∀ p, ev C p (.var i) ρ = (match ρ[i]? with | some (some d) => plc p d ρ | _ => .unk) := fun p => rfl
    rw [e1, e1]
    cases ρ[i]? with
    | none => exact .inl rfl
    | some o => cases o with
      | none => exact .inl rfl
      | some d => exact Le.plc
  | idx a i => exact Le.tst (Le.bind fun x ρ => Le.bind fun y ρ => Le.chk (Le.bind fun d ρ => Le.plc))
  | dg a k df => exact Le.tst (Le.bind fun x ρ => Le.chk (Le.bind fun y ρ => Le.chk (Le.bind fun d ρ => Le.plc)))
  | fld a f => exact Le.tst (Le.bind fun x ρ => Le.bind fun d ρ => Le.plc)
  | mth m o es => cases o <;> exact .inr (congrFun tst_fin ρ)
  | _ => exact .inr (congrFun tst_fin ρ)
theorem tstF {X : Cx} {W : WX} {e : E} {n : Bool} {σ : St} {H : Hp} {Q : Bool → Hp → Prop} (h : TmB T W n (tst (ev C false e)) σ H Q) : TmB T W n (tst (ev C true e)) σ H Q := by
  obtain ⟨fz, F, ρ, a, r, h⟩ := h
  refine ⟨fz, F, ρ, a, r, ?_⟩
  rcases tst_le (C := C) e ρ with q | q
  · rw [q] at h; exact h.elim
  · rw [← q]; exact h
theorem pw_of_pt {X : Cx} {op : BoolOp} {vs : List Expr} {pos : Pos} {t : TT} (h : PT X (.BoolOp op vs pos) t) : PW X (.BoolOp op vs pos) t := ⟨fun wh pins s σ H Q I w => h.run pins s σ H Q I w⟩
set_option maxHeartbeats 40000000 in
mutual
theorem sndE : ∀ e : E, SndE T C k G e
  | .cn at0, X, W, s, a, t, v, tk, h => by
    unfold chkE at h
    split at h
    · exact Both.of (fun p => atC_ok h) rfl
    · cases h
  | .gl at0, X, W, s, a, t, v, tk, h => by
    unfold chkE at h
    split at h
    · rename_i x q
      obtain ⟨hg, hd⟩ := gbl_ok v (a1 h)
      have h2 := a2 h
      split at h2
      · rename_i b hb
        have := of_decide_eq_true h2
        subst this
        obtain ⟨u, hu, ru⟩ := t.gls x _ hb
        exact Both.of (fun p => pe_gl hg hu ru hd) rfl
      · cases h2
    · cases h
  | .var i, X, W, s, a, t, v, tk, h => by
    unfold chkE at h
    split at h
    · obtain ⟨q1, q2, q3, q4⟩ := nmV_ok v h
      exact Both.of (fun p => pe_slot q1 q2 q3 q4) rfl
    · cases h
  | .mv i, X, W, s, a, t, v, tk, h => by
    unfold chkE at h
    split at h
    · obtain ⟨q1, q2, q3, q4⟩ := nmV_ok v h
      exact Both.of (fun p => pe_mv q1 q2 q3 q4) rfl
    · cases h
  | .sh i, X, W, s, a, t, v, tk, h => by
    unfold chkE at h
    split at h
    · obtain ⟨q1, q2, q3, q4⟩ := nmV_ok v h
      exact Both.of (fun p => pe_sh q1 q2 q3 q4) rfl
    · cases h
  | .rf i, X, W, s, a, t, v, tk, h => by cases h
  | .un o e, X, W, s, a, t, v, tk, h => by
    unfold chkE at h
    split at h
    · rename_i op a' q
      have ho := opU_ok (a1 h)
      subst ho
      have b := (sndE e X W s a' t v tk (a2 h)).1 true
      have hob : o ≠ .blen := fun z => by subst z; have := a1 h; cases this
      refine Both.of (fun p => pe_unE hob b fun q => q) ?_
      cases o <;> first | rfl | exact absurd rfl hob
    · rename_i a' m apos pos
      have ho := of_decide_eq_true (a1 (a1 h))
      subst ho
      have hm := of_decide_eq_true (a1 (a2 (a1 h)))
      subst hm
      have b := (sndE e X W s a' t v tk (a2 h)).1 true
      exact Both.of (fun p => pe_blenE b (fun q => q) (abase_ok (a1 (a2 (a2 (a1 h))))) (a2 (a2 (a2 (a1 h))))) rfl
    · cases h
  | .bin o e1 e2, X, W, s, a, t, v, tk, h => by
    unfold chkE at h
    split at h
    · rename_i a' op b' q
      have ho := opB_ok (a1 h)
      subst ho
      have b1 := (sndE e1 X W s a' t v tk (a1 (a2 h))).1 true
      have b2 := (sndE e2 X W s b' t v tk (a2 (a2 h))).1 true
      exact Both.of (fun p => pe_bin t.hK b1 b2 (fun q => a1 q) (fun q => a2 q)) rfl
    · cases h
  | .cmp o e1 e2, X, W, s, a, t, v, tk, h => by
    unfold chkE at h
    split at h
    · rename_i a' op b' q
      have ho := opC_ok (a1 (a1 h))
      subst ho
      have b1 := (sndE e1 X W s a' t v tk (a1 (a2 h))).1 true
      have b2 := (sndE e2 X W s b' t v tk (a2 (a2 h))).1 true
      have hb := behind_ok (op := opC o) (a2 (a1 h))
      exact ⟨fun p => pe_cmpE t.hK t.hu b1 b2 (fun q => a1 q) (fun q => a2 q) hb, fun _ => pt_cmpE t.hK t.hu b1 b2 (fun q => a1 q) (fun q => a2 q) hb⟩
    · cases h
  | .chn o1 o2 e1 e2 e3, X, W, s, a, t, v, tk, h => by
    unfold chkE at h
    split at h
    · rename_i a' op1 op2 b' c' q
      have ho := opC_ok (a1 (a1 h))
      subst ho
      have ho2 := opC_ok (a1 (a2 (a1 h)))
      subst ho2
      have b1 := (sndE e1 X W s a' t v tk (a1 (a2 h))).1 true
      have b2 := (sndE e2 X W s b' t v tk (a1 (a2 (a2 h)))).1 true
      have b3 := (sndE e3 X W s c' t v tk (a2 (a2 (a2 h)))).1 true
      have hl := last_ok (o1 := opC o1) (o2 := opC o2) (b := b') (a2 (a2 (a2 (a1 h))))
      exact ⟨fun p => pe_chnE t.hK t.hu b1 b2 b3 (fun q => a1 q) (fun q => a1 (a2 q)) (fun q => a2 (a2 q)) hl, fun _ => pt_chnE t.hK t.hu b1 b2 b3 (fun q => a1 q) (fun q => a1 (a2 q)) (fun q => a2 (a2 q)) hl⟩
    · cases h
  | .and_ e1 e2, X, W, s, a, t, v, tk, h => by
    unfold chkE at h
    split at h
    · rename_i a' b' rest pos
      have s1 := sndE e1 X W s a' t v tk (a1 (a1 h))
      have i1 := neg_of (a2 (a1 h))
      cases rest with
      | nil =>
        have h2 : (chkE G s e2 b' && !isIfe b') = true := a2 h
        have s2 := sndE e2 X W s b' t v tk (a1 h2)
        exact ⟨fun p => pe_andE (s1.1 true) (pe_bool1 (s2.1 false)) (fun q => a1 q) (fun q => a2 q), fun _ => (pw_andE (mb := ev C false e2) (nb := nm e2) (s1.2 i1) (PW.imp (pw_and1 (s2.2 (neg_of (a2 h2)))) fun σ H Q w => tstF (X := X) (W := W) w) (fun q => a1 q) (fun q => a2 q)).pt⟩
      | cons c' rest =>
        have h2 : chkE G s e2 (.BoolOp .And (b' :: c' :: rest) pos) = true := a2 h
        have s2 := sndE e2 X W s _ t v tk h2
        refine ⟨fun p => pe_andE (s1.1 true) (s2.1 false) (fun q => a1 q) (fun q => a2 q), fun _ => ?_⟩
        exact (pw_andE (mb := ev C false e2) (nb := nm e2) (s1.2 i1) (PW.imp (pw_of_pt (s2.2 rfl)) fun σ H Q w => tstF (X := X) (W := W) w) (fun q => a1 q) (fun q => a2 q)).pt
    · cases h
  | .or_ e1 e2, X, W, s, a, t, v, tk, h => by
    unfold chkE at h
    split at h
    · rename_i a' b' rest pos
      have s1 := sndE e1 X W s a' t v tk (a1 (a1 h))
      have i1 := neg_of (a2 (a1 h))
      cases rest with
      | nil =>
        have h2 : (chkE G s e2 b' && !isIfe b') = true := a2 h
        have s2 := sndE e2 X W s b' t v tk (a1 h2)
        exact ⟨fun p => pe_orE (s1.1 true) (pe_bool1 (s2.1 false)) (fun q => a1 q) (fun q => a2 q), fun _ => (pw_orE (mb := ev C false e2) (nb := nm e2) (s1.2 i1) (PW.imp (pw_or1 (s2.2 (neg_of (a2 h2)))) fun σ H Q w => tstF (X := X) (W := W) w) (fun q => a1 q) (fun q => a2 q)).pt⟩
      | cons c' rest =>
        have h2 : chkE G s e2 (.BoolOp .Or (b' :: c' :: rest) pos) = true := a2 h
        have s2 := sndE e2 X W s _ t v tk h2
        refine ⟨fun p => pe_orE (s1.1 true) (s2.1 false) (fun q => a1 q) (fun q => a2 q), fun _ => ?_⟩
        exact (pw_orE (mb := ev C false e2) (nb := nm e2) (s1.2 i1) (PW.imp (pw_of_pt (s2.2 rfl)) fun σ H Q w => tstF (X := X) (W := W) w) (fun q => a1 q) (fun q => a2 q)).pt
    · cases h
  | .not_ e1, X, W, s, a, t, v, tk, h => by
    unfold chkE at h
    split at h
    · rename_i a' q
      have s1 := sndE e1 X W s a' t v tk (a1 h)
      exact ⟨fun p => pe_notE (s1.1 true) fun q => q, fun _ => pt_notE (s1.2 (neg_of (a2 h))) fun q => q⟩
    · cases h
  | .ife c e1 e2, X, W, s, a, t, v, tk, h => by
    unfold chkE at h
    split at h
    · rename_i c' a' b' q
      have s0 := sndE c X W s c' t v tk (a1 (a1 h))
      have s1 := sndE e1 X W s a' t v tk (a1 (a2 h))
      have s2 := sndE e2 X W s b' t v tk (a2 (a2 h))
      exact ⟨fun p => pe_ifE (s0.2 (neg_of (a2 (a1 h)))) (s1.1 false) (s2.1 false) (fun q => a1 q) (fun q => a1 (a2 q)) (fun q => a2 (a2 q)), fun q => by cases q⟩
    · cases h
  | .tup es, X, W, s, a, t, v, tk, h => by
    unfold chkE at h
    split at h
    · rename_i es' x1 q
      exact Both.of (fun p => pe_tupE ((sndL es).1 X W s es' t v tk (a1 h) (a2 h)) fun q => q) rfl
    · cases h
  | .lst es, X, W, s, a, t, v, tk, h => by
    unfold chkE at h
    split at h
    · rename_i es' q
      exact Both.of (fun p => pe_lstE ((sndL es).1 X W s es' t v tk (a1 h) (a2 h)) fun q => q) rfl
    · cases h
  | .dis k1 v1, X, W, s, a, t, v, tk, h => by
    unfold chkE at h
    split at h
    · rename_i k' v' pos
      have b1 := (sndE k1 X W s k' t v tk (a1 (a2 h))).1 false
      have b2 := (sndE v1 X W s v' t v tk (a2 (a2 h))).1 false
      rw [a1 (a1 h)] at b1
      rw [a2 (a1 h)] at b2
      exact Both.of (fun p => pe_disE b1 b2) rfl
    · cases h
  | .dsp kvs, X, W, s, a, t, v, tk, h => by
    unfold chkE at h
    split at h
    · exact Both.of (fun p => pe_dspE h) rfl
    · cases h
  | .dg e1 e2 df, X, W, s, a, t, v, tk, h => by
    unfold chkE at h
    split at h
    · rename_i a' m apos k' pos
      have hd := of_decide_eq_true (a1 (a1 h))
      subst hd
      have h1 := a2 (a1 h)
      have hm := of_decide_eq_true (a1 h1)
      subst hm
      have b1 := (sndE e1 X W s a' t v tk (a1 (a2 h))).1 true
      have b2 := (sndE e2 X W s k' t v tk (a2 (a2 h))).1 true
      have hst := a1 (a2 (a2 h1))
      exact Both.of (fun p => pe_dg1 t.hu b1 b2 (fun q => a1 q) (fun q => a2 q) ⟨abase_ok (a1 (a2 h1)), few_ok (by rw [List.all_cons, hst]; rfl) (by simp), a2 (a2 (a2 h1)), by rw [star_cons hst]; rfl⟩) rfl
    · rename_i a' m apos k' f' pos
      have h1 := a1 h
      have hm := of_decide_eq_true (a1 h1)
      subst hm
      have b1 := (sndE e1 X W s a' t v tk (a1 (a2 h))).1 true
      have b2 := (sndE e2 X W s k' t v tk (a1 (a2 (a2 h)))).1 true
      have hst := a1 (a2 (a2 h1))
      have hst2 := a1 (a2 (a2 (a2 h1)))
      have h3 := a2 (a2 (a2 h))
      cases df with
      | none => cases h3
      | some c =>
        exact Both.of (fun p => pe_dg2 t.hu b1 b2 (cst_ok h3) (fun q => a1 q) (fun q => a2 q) ⟨abase_ok (a1 (a2 h1)), few_ok (by rw [List.all_cons, List.all_cons, hst, hst2]; rfl) (by simp), a2 (a2 (a2 (a2 h1))), by rw [star_cons hst, star_cons hst2]; rfl⟩) rfl
    · cases h
  | .dic b, X, W, s, a, t, v, tk, h => by
    unfold chkE at h
    split at h
    · exact Both.of (fun p => pe_dicE) rfl
    · cases h
  | .idx e1 e2, X, W, s, a, t, v, tk, h => by
    unfold chkE at h
    split at h
    · rename_i a' i' q
      have b1 := (sndE e1 X W s a' t v tk (a1 (a2 h))).1 true
      have b2 := (sndE e2 X W s i' t v tk (a2 (a2 h))).1 true
      exact Both.of (fun p => pe_idxE t.hK t.hu b1 b2 (fun q => a1 q) (fun q => a2 q) (plainIx_ok (a1 h))) rfl
    · cases h
  | .slc e1 lo hi, X, W, s, a, t, v, tk, h => by
    unfold chkE at h
    split at h
    · rename_i a' lo' hi' q1 q2
      have b1 := (sndE e1 X W s a' t v tk (a1 h)).1 true
      have o1 := (sndL lo).2.2.1 X W s lo' t v tk (a1 (a2 h))
      have o2 := (sndL hi).2.2.1 X W s hi' t v tk (a2 (a2 h))
      exact Both.of (fun p => pe_slcE t.hK b1 o1 o2 (fun q => a1 q) (fun q => a1 (a2 q)) (fun q => a2 (a2 q))) rfl
    · cases h
  | .rev e1, X, W, s, a, t, v, tk, h => by
    unfold chkE at h
    split at h
    · rename_i a' kk k2 q1 q2 q3 q4
      have hk := of_decide_eq_true (a1 h)
      subst hk
      have b1 := (sndE e1 X W s a' t v tk (a2 h)).1 true
      exact Both.of (fun p => pe_revE t.hK b1 fun q => q) rfl
    · cases h
  | .fld e1 f, X, W, s, a, t, v, tk, h => by
    unfold chkE at h
    split at h
    · rename_i a' f' q
      have b1 := (sndE e1 X W s a' t v tk (a2 h)).1 true
      have hf := of_decide_eq_true (a1 (a1 h))
      subst hf
      have hlt := of_decide_eq_true (a1 (a2 (a1 h)))
      have hb := abase_ok (f := G.fN f) (env := X.env) (w := eval a' X.env) (a2 (a2 (a1 h)))
      rw [t.nf] at hlt
      rw [t.fN] at hb ⊢
      exact Both.of (fun p => pe_fldE t.hK t.tab hlt b1 (fun q => q) hb) rfl
    · cases h
  | .b1 o e1, X, W, s, a, t, v, tk, h => by
    unfold chkE at h
    split at h
    · rename_i x q a' q2
      have b1 := (sndE e1 X W s a' t v tk (a2 h)).1 true
      have hx := of_decide_eq_true (a1 (a1 h))
      subst hx
      obtain ⟨hg, hm⟩ := blt_ok t v (a1 (a2 (a1 h)))
      exact Both.of (fun p => pe_b1E o t.hK t.calm hg hm b1 (fun q => q) (star_cons (a2 (a2 (a1 h))))) rfl
    · cases h
  | .b2 o e1 e2, X, W, s, a, t, v, tk, h => by
    unfold chkE at h
    split at h
    · rename_i x q a' b' q2
      have b1 := (sndE e1 X W s a' t v tk (a1 (a2 h))).1 true
      have b2 := (sndE e2 X W s b' t v tk (a2 (a2 h))).1 true
      have hx := of_decide_eq_true (a1 (a1 h))
      subst hx
      obtain ⟨hg, hm⟩ := blt_ok t v (a1 (a2 (a1 h)))
      have n1 := a1 (a2 (a2 (a1 h)))
      have n2 := a2 (a2 (a2 (a1 h)))
      exact Both.of (fun p => pe_b2E o t.calm hg hm b1 b2 (fun q => a1 q) (fun q => a2 q) (star_cons n1) (star_cons n2) (star_any (es := [b']) (by simp [n2]))) rfl
    · cases h
  | .isi e1 ts, X, W, s, a, t, v, tk, h => by
    unfold chkE at h
    split at h
    · rename_i x q a' es kk tp q2
      have b1 := (sndE e1 X W s a' t v tk (a1 (a2 h))).1 true
      have hx := of_decide_eq_true (a1 (a1 h))
      subst hx
      obtain ⟨hg, hm⟩ := blt_ok t v (a1 (a2 (a1 h)))
      have ht := tys_ok t v (a1 (a2 (a2 h)))
      have hl := of_decide_eq_true (a2 (a2 (a2 h)))
      have hz : ts.length ≤ sizeLine := by have := sizeLine_eq; omega
      exact Both.of (fun p => pe_isiN t.hK t.isi hg hm b1 ht (fun q => q) hz (star_cons (a2 (a2 (a1 h))))) rfl
    · rename_i x q a' t' q2 hne
      have b1 := (sndE e1 X W s a' t v tk (a1 (a2 h))).1 true
      have hx := of_decide_eq_true (a1 (a1 h))
      subst hx
      obtain ⟨hg, hm⟩ := blt_ok t v (a1 (a2 (a1 h)))
      have ht := tys_ok t v (a2 (a2 h))
      cases ht with
      | cons h1 h2 =>
        cases h2
        exact Both.of (fun p => pe_isi1 t.hK t.isi hg hm b1 h1 (fun q => q) (star_cons (a2 (a2 (a1 h))))) rfl
    · cases h
  | .pm o e1 es, X, W, s, a, t, v, tk, h => by
    unfold chkE at h
    split at h
    · rename_i a' m apos e' es' pos
      have b1 := (sndE e1 X W s a' t v tk (a1 (a2 h))).1 true
      have hx := of_decide_eq_true (a1 (a1 h))
      subst hx
      have h1 := a2 (a1 h)
      have hst := a1 (a2 h1)
      have hlen := of_decide_eq_true (a1 (a2 (a2 h1)))
      have l1 := (sndL es).1 X W s (e' :: es') t v tk (a2 (a2 h)) hst
      have hst2 := hst
      rw [List.all_cons] at hst2
      exact Both.of (fun p => pe_pmE o t.hK t.hu b1 l1 (fun q => a1 q) (fun q => a2 q) (abase_ok (a1 h1)) (few_ok hst hlen) (a2 (a2 (a2 h1))) (star_cons (a1 hst2)) (star_any (a2 hst2))) rfl
    · cases h
  | .call f es, X, W, s, a, t, v, tk, h => by
    unfold chkE at h
    split at h
    · rename_i x q es' q2
      have hf := of_decide_eq_true (a1 (a1 h))
      obtain ⟨hg, hd⟩ := gbl_ok v (a1 (a2 (a1 h)))
      obtain ⟨fa, hm, hk, F⟩ := t.fns f x hf
      have hst := a2 (a2 (a1 h))
      obtain ⟨l1, l2⟩ := (sndL es).2.1 X W s es' t v tk (a2 h) hst
      cases es' with
      | nil =>
        cases es with
        | nil => exact Both.of (fun p => pe_callE0 F t.rm hg hm hk tk hd) rfl
        | cons _ _ => cases a2 h
      | cons e' es' =>
        have hst2 := hst
        rw [List.all_cons] at hst2
        exact Both.of (fun p => pe_callE F t.rm hg hm hk tk l1 (fun q => q) l2 hd (star_cons (a1 hst2)) (star_any (a2 hst2))) rfl
    · cases h
  | .mk c es, X, W, s, a, t, v, tk, h => by
    unfold chkE at h
    split at h
    · rename_i x q es' q2
      have hf := of_decide_eq_true (a1 (a1 h))
      obtain ⟨hg, hd⟩ := gbl_ok v (a1 (a2 (a1 h)))
      obtain ⟨hm, f, fa, hi, hM, F⟩ := t.cls c x hf
      have hst := a2 (a2 (a1 h))
      have l1 := (sndL es).1 X W s es' t v tk (a2 h) hst
      cases es' with
      | nil =>
        cases es with
        | nil => exact Both.of (fun p => pe_mkE0 t.hK hi hM F t.room hg hm tk hd) rfl
        | cons _ _ => cases a2 h
      | cons e' es' =>
        have hst2 := hst
        rw [List.all_cons] at hst2
        exact Both.of (fun p => pe_mkE t.hK hi hM F t.room hg hm tk l1 (fun q => q) hd (star_cons (a1 hst2)) (star_any (a2 hst2))) rfl
    · cases h
  | .mth m o es, X, W, s, a, t, v, tk, h => by
    unfold chkE at h
    split at h
    · rename_i o' x apos es' pos
      have hx := of_decide_eq_true (a1 (a1 h))
      subst hx
      have h1 := a2 (a1 h)
      have hm := t.mNf m (of_decide_eq_true (a1 h1))
      have hab := a1 (a2 h1)
      have hst := a1 (a2 (a2 h1))
      have hlen := of_decide_eq_true (a1 (a2 (a2 (a2 h1))))
      have hline := a2 (a2 (a2 (a2 h1)))
      have tree := meth_tree (m := G.mN m) (env := X.env) hab hst hlen hline
      obtain ⟨l1, l2⟩ := (sndL es).2.1 X W s es' t v tk (a2 (a2 h)) hst
      have h2 := a1 (a2 h)
      have h3 := a2 (a2 h)
      cases hr : rfOf o with
      | some i =>
        have ee : o = .rf i := by cases o <;> first | (cases hr; rfl) | cases hr
        subst ee
        rw [hr] at h2
        simp only at h2
        split at h2
        · rename_i y q
          obtain ⟨q1, q2, q3, q4⟩ := nmV_ok v h2
          cases es' with
          | nil =>
            cases es with
            | nil => exact Both.of (fun p => pe_mthR0 t.hK t.tab t.meth hm t.rm tk q1 q2 q3 q4 tree) rfl
            | cons _ _ => cases h3
          | cons e' es' =>
            have hst2 := hst
            rw [List.all_cons] at hst2
            exact Both.of (fun p => pe_mthR t.hK t.tab t.meth hm t.rm tk q1 q2 q3 q4 l1 (star_cons (a1 hst2)) (star_any (a2 hst2)) tree) rfl
        · cases h2
      | none =>
        rw [hr] at h2
        have b1 := (sndE o X W s o' t v tk h2).1 true
        have e1 : ∀ p, ev C p (.mth m o es) = fin p (mthV C m o es (ev C true o) (evA C es)) := fun p => by cases o <;> first | rfl | cases hr
        cases es' with
        | nil =>
          cases es with
          | nil => exact Both.of (fun p => by rw [e1]; exact pe_mthE0 t.hK t.tab t.meth hm hr t.rm tk b1 (fun q => a1 q) tree) rfl
          | cons _ _ => cases h3
        | cons e' es' =>
          have hst2 := hst
          rw [List.all_cons] at hst2
          exact Both.of (fun p => by rw [e1]; exact pe_mthE t.hK t.tab t.meth hm hr t.rm tk b1 l1 (fun q => a1 q) (fun q => a2 q) (fun q => l2 (a2 q)) (star_cons (a1 hst2)) (star_any (a2 hst2)) tree) rfl
    · cases h
  | .mut kk pl es, X, W, s, a, t, v, tk, h => by
    unfold chkE at h
    split at h
    · rename_i a' m apos es' pos
      have hx := of_decide_eq_true (a1 (a1 h))
      subst hx
      have h1 := a2 (a1 h)
      have hab := a1 h1
      have hst := a1 (a2 h1)
      have hlen := of_decide_eq_true (a1 (a2 (a2 h1)))
      have hline := a2 (a2 (a2 h1))
      have b1 := sndP pl X W s a' t v tk (a1 (a2 h))
      have l1 := (sndL es).1 X W s es' t v tk (a1 (a2 (a2 h))) hst
      have h4 := a2 (a2 (a2 h))
      have h5 := a1 (a2 (a2 h))
      cases es' with
      | nil =>
        have hk : kk = .pop := by simpa using h4
        subst hk
        cases es with
        | nil => exact Both.of (fun p => pe_mutE0 (nl := true) b1 (abase_ok hab) hline) rfl
        | cons _ _ => cases h5
      | cons e' es' =>
        have hst2 := hst
        rw [List.all_cons] at hst2
        exact Both.of (fun p => pe_mutE b1 l1 (abase_ok hab) (few_ok hst hlen) hline (star_cons (a1 hst2)) (star_any (a2 hst2))) rfl
    · cases h
  | .lc own tg one sk src cond elt, X, W, s, a, t, v, tk, h => by
    unfold chkE at h
    split at h
    · rename_i elt' tg' iter ifs sc' pos
      have h1 := a1 h
      have h2 := a2 h
      have hblk := blkOk_by (a1 (a1 h1))
      have hnd := of_decide_eq_true (a2 (a1 h1))
      have htg : ∀ i ∈ tg, i ∈ own := fun i hi => of_decide_eq_true (List.all_eq_true.mp (a1 (a2 h1)) i hi)
      have hT := a1 (a2 (a2 h1))
      have hset := a2 (a2 (a2 h1))
      have hsrc := src_ok (tg' := tg') t v tk (a1 (a1 h2)) ((sndL src).2.2.2)
      have hblk2 : BlkOk X.N X.env.scope sc' (ownP s own) := by rw [v.N, v.sc]; exact hblk
      have lp : LcP X T sc' tg' elt' ifs tg one (nmL cond) (nm elt) (evC C cond) (ev C false elt) :=
        ⟨fun st H Ca cl fp => tgt_ok (blk_sta t st H sc' Ca cl fp) (blk_vr v st H sc' Ca cl fp) hT,
         fun st H Ca cl fp => conds_ok (blk_sta t st H sc' Ca cl fp) (blk_vr v st H sc' Ca cl fp) (blk_takes st H sc' Ca cl fp) (a2 (a1 h2)) ((sndL cond).2.2.2),
         fun st H Ca cl fp => (sndE elt _ _ _ _ (blk_sta t st H sc' Ca cl fp) (blk_vr v st H sc' Ca cl fp) (blk_takes st H sc' Ca cl fp) (a2 h2)).1 false⟩
      refine Both.of (fun p => ?_) rfl
      have := pe_lcE (n := nm (.lc own tg one sk src cond elt)) (p := p) (pos := pos) (own := ownP s own) (nn := nmL cond && nm elt) (T := T) (W := W) (ms := evP C src) t.calm t.nd hsrc hblk2 lp (folded_ok hset) (by rw [ownP_snd]; exact hnd) (by rw [ownP_snd]; exact htg) (fun q => a1 q) (fun q => a2 q) (fun q => a1 q) (fun q => a2 q)
      rw [ownP_snd] at this
      exact this
    · cases h
theorem sndL : ∀ es : List E, SndL T C k G es
  | [] => sndL_nil
  | e :: es => sndL_cons (sndE e) (sndL es)
theorem sndP : ∀ e : E, SndP T C k G e
  | .var i, X, W, s, a, t, v, tk, h => by
    unfold chkP at h
    split at h
    · obtain ⟨q1, q2, q3, q4⟩ := nmV_ok v h
      exact pl_var q1 q2 q3 q4
    · cases h
  | .fld e1 f, X, W, s, a, t, v, tk, h => by
    unfold chkP at h
    split at h
    · rename_i a' f' q
      have b1 := sndP e1 X W s a' t v tk (a2 h)
      have hf := of_decide_eq_true (a1 (a1 h))
      subst hf
      have hlt := of_decide_eq_true (a1 (a2 (a1 h)))
      have hb := abase_ok (f := G.fN f) (env := X.env) (w := eval a' X.env) (a2 (a2 (a1 h)))
      rw [t.nf] at hlt
      rw [t.fN] at hb ⊢
      exact pl_fld t.hK t.tab hlt b1 hb
    · cases h
  | .idx e1 e2, X, W, s, a, t, v, tk, h => by
    unfold chkP at h
    split at h
    · rename_i a' i' q
      have hn := a2 (a1 h)
      have b1 := sndP e1 X W s a' t v tk (a1 (a2 h))
      have b2 := (sndE e2 X W s i' t v tk (a2 (a2 h))).1 true
      rw [hn] at b2
      have := pl_idx (pos := q) t.hK t.hu b1 b2 (plainIx_ok (a1 (a1 h)))
      refine PE.imp this fun σ H Q w => ?_
      obtain ⟨fz, F, ρ, am, er, i, js, hp, kk⟩ := w
      refine ⟨fz, F, ρ, am, er, i, js, ?_, kk⟩
      rw [← hp]
      show (match path C e1 ρ with
        | some (i, js) => match ρ[i]?, ev C true e2 ρ with
          | some (some d), .ok x _ => match (D.get js d).bind fun z => idxP z x with
            | some j => some (i, js ++ [j])
            | none => none
          | _, _ => none
        | none => none) = (match path C e1 ρ with
        | some (i, js) => match ρ[i]?, nm e2, ev C true e2 ρ with
          | some (some d), true, .ok x _ => match (D.get js d).bind fun z => idxP z x with
            | some j => some (i, js ++ [j])
            | none => none
          | _, _, _ => none
        | none => none)
      rw [hn]
      cases path C e1 ρ with
      | none => rfl
      | some q2 =>
        obtain ⟨i2, js2⟩ := q2
        simp only
        cases ρ[i2]? with
        | none => rfl
        | some o => cases o with
          | none => rfl
          | some d => cases ev C true e2 ρ <;> rfl
    · cases h
  | .cn _, X, W, s, a, t, v, tk, h => by cases h
  | .gl _, X, W, s, a, t, v, tk, h => by cases h
  | .mv _, X, W, s, a, t, v, tk, h => by cases h
  | .sh _, X, W, s, a, t, v, tk, h => by cases h
  | .rf _, X, W, s, a, t, v, tk, h => by cases h
  | .un _ _, X, W, s, a, t, v, tk, h => by cases h
  | .bin _ _ _, X, W, s, a, t, v, tk, h => by cases h
  | .cmp _ _ _, X, W, s, a, t, v, tk, h => by cases h
  | .chn _ _ _ _ _, X, W, s, a, t, v, tk, h => by cases h
  | .and_ _ _, X, W, s, a, t, v, tk, h => by cases h
  | .or_ _ _, X, W, s, a, t, v, tk, h => by cases h
  | .not_ _, X, W, s, a, t, v, tk, h => by cases h
  | .ife _ _ _, X, W, s, a, t, v, tk, h => by cases h
  | .tup _, X, W, s, a, t, v, tk, h => by cases h
  | .lst _, X, W, s, a, t, v, tk, h => by cases h
  | .dic _, X, W, s, a, t, v, tk, h => by cases h
  | .dis _ _, X, W, s, a, t, v, tk, h => by cases h
  | .dsp _, X, W, s, a, t, v, tk, h => by cases h
  | .dg _ _ _, X, W, s, a, t, v, tk, h => by cases h
  | .slc _ _ _, X, W, s, a, t, v, tk, h => by cases h
  | .rev _, X, W, s, a, t, v, tk, h => by cases h
  | .b1 _ _, X, W, s, a, t, v, tk, h => by cases h
  | .b2 _ _ _, X, W, s, a, t, v, tk, h => by cases h
  | .isi _ _, X, W, s, a, t, v, tk, h => by cases h
  | .pm _ _ _, X, W, s, a, t, v, tk, h => by cases h
  | .call _ _, X, W, s, a, t, v, tk, h => by cases h
  | .mk _ _, X, W, s, a, t, v, tk, h => by cases h
  | .mth _ _ _, X, W, s, a, t, v, tk, h => by cases h
  | .mut _ _ _, X, W, s, a, t, v, tk, h => by cases h
  | .lc _ _ _ _ _ _ _, X, W, s, a, t, v, tk, h => by cases h
end
end
end Ev

set_option Elab.async false
set_option linter.all false
set_option maxRecDepth 100000
set_option maxHeartbeats 16000000
namespace Ev
open PySem PySem.Spec L2

/-! ## statements: evaluator and check -/
mutual
def exS (C : Calls) (A : List Nat) (fu : Nat) : S → Env → Fl
  | .e e => stS (ev C false e) fun _ ρ => .nx ρ
  | .set i e => stS (ev C false e) fun d ρ => setS A i d ρ
  | .setF i e => stS (ev C false e) fun d ρ => setS A i d.frz ρ
  | .unp is e => stS (ev C false e) fun d ρ => unpS A is d ρ
  | .par i j a b => stS (evs C [a, b]) fun ds ρ => parS A i j ds ρ
  | .sto pl e => match pl with
    | .idx a kx => stoS (path C a) (ev C true kx) (ev C false e)
    | .fld a f => stfS f (path C a) (ev C false e)
    | _ => fun _ => .unk
  | .aug i o e => augS A i o (ev C false e)
  | .dup pl es => dupS (path C pl) (evs C es)
  | .augs pl o e => match pl with
    | .idx a kx => augsS (path C a) (ev C true kx) (ev C true e) o
    | _ => fun _ => .unk
  | .if_ c a b => stS (tst (ev C true c)) fun q ρ => match q with
    | true => exL C A fu a ρ
    | false => exL C A fu b ρ
  | .for_ tg one sk src body => forS A tg one sk (evP C src) (exL C A fu body)
  | .forO tg one i body => forOS A tg one i fu (exL C A fu body)
  | .whl c body => whlF (tst (ev C true c)) (exL C A fu body) fu
  | .ret e => stS (ev C false e) fun d ρ => .rt d ρ
  | .rtn => fun ρ => .rt D.non ρ
  | .brk => fun ρ => .bk ρ
  | .cnt => fun ρ => .ct ρ
  | .pas => fun ρ => .nx ρ
  | .nev => fun _ => .unk
def exL (C : Calls) (A : List Nat) (fu : Nat) : List S → Env → Fl
  | [] => fun ρ => .nx ρ
  | x :: xs => fun ρ => seqS (exS C A fu x ρ) (exL C A fu xs)
end
def notComp : Expr → Bool
  | .ListComp _ _ _ _ => false
  | .SetComp _ _ _ _ => false
  | .DictComp _ _ _ _ _ => false
  | _ => true
def notTup : Expr → Bool
  | .Tuple _ _ _ => false
  | _ => true
/-- whether a comprehension's store is done within it -/
def swapB (s : Sc) (x : Str) (px : Pos) : Expr → Bool
  | .ListComp _ _ sc' pos => decide (s.sc.names.lookup x = some .local) && ((px.line == pos.line) && !(sc'.names.any fun (n, k) => n == x && (k == .local || k == .cell)))
  | _ => false
def isLC : Expr → Bool
  | .ListComp _ _ _ _ => true
  | _ => false
mutual
def chkS (G : Gb) (s : Sc) : S → Stmt → Bool
  | .e e, st => match st with
    | .Expr e' _ => chkE G s e e' && notComp e'
    | _ => false
  | .set i e, st => match st with
    | .Assign [.Name x px] e' _ => (nmS s i x && chkE G s e e') && (notComp e' || isLC e')
    | _ => false
  | .setF i e, st => match st with
    | .Assign [.Name x px] e' _ => (nmS s i x && chkE G s e e') && notComp e'
    | _ => false
  | .unp is e, st => match st with
    | .Assign [.Tuple es kk tp] e' _ => (chkT s false is (.Tuple es kk tp) && chkE G s e e') && (notComp e' && notTup e')
    | _ => false
  | .par i j a b, st => match st with
    | .Assign [.Tuple [.Name x px, .Name y py] kt pt] (.Tuple [a', b'] k2 pt2) _ => (decide (s.N[i]? = some x) && (decide (s.N[j]? = some y) && (decide (i ≠ j) && (decide (s.sc.names.lookup x = some .local) && decide (s.sc.names.lookup y = some .local))))) &&
      (((px.line == px.line) && (py.line == px.line)) && (!([a', b'].all (foldedForSure 8)) && (!([a', b'].all (constantsAlone 8)) && (notStar a' && (notStar b' && (chkE G s a a' && chkE G s b b'))))))
    | _ => false
  | .sto pl e, st => match pl with
    | .idx a kx => match st with
      | .Assign [.Subscript a' k' tp] e' _ => ((notSlice k' && nm kx) && notComp e') && (chkP G s a a' && (chkE G s kx k' && chkE G s e e'))
      | _ => false
    | .fld a f => match st with
      | .Assign [.Attribute a' f' p'] e' _ => (decide (f' = G.fN f) && (decide (f < G.nf) && true)) && (chkP G s a a' && chkE G s e e')
      | _ => false
    | _ => false
  | .aug i o e, st => match st with
    | .AugAssign (.Name x px) op e' _ => (nmS s i x && opB' o op) && chkE G s e e'
    | _ => false
  | .dup pl es, st => match st with
    | .Expr (.Call (.Attribute a' m apos) [e'] [] cpos) _ => (decide (m = ("update" : Str)) && (abaseB a' && (notStar e' && ((apos.endLine == cpos.line) && nmL es)))) && (chkP G s pl a' && chkL G s es [e'])
    | _ => false
  | .augs pl o e, st => match pl with
    | .idx a kx => match st with
      | .AugAssign (.Subscript a' k' tp) op e' _ => ((notSlice k' && (nm kx && nm e)) && opB' o op) && (chkP G s a a' && (chkE G s kx k' && chkE G s e e'))
      | _ => false
    | _ => false
  | .if_ c a b, st => match st with
    | .If c' a' b' _ => (chkE G s c c' && !isIfe c') && (chkSs G s a a' && chkSs G s b b')
    | _ => false
  | .for_ tg one sk src body, st => match st with
    | .For tg' iter body' [] _ => (chkT s one tg tg' && notSet iter) && (((match sk, src, iter with
        | .seq, [a], it => chkE G s a it
        | .range, [a], .Call (.Name x _) [a'] [] _ => (decide (x = ("range" : Str)) && (blt G s x && notStar a')) && chkE G s a a'
        | .range, [a, b], .Call (.Name x _) [a', b'] [] _ => (decide (x = ("range" : Str)) && (blt G s x && (notStar a' && notStar b'))) && (chkE G s a a' && chkE G s b b')
        | .enum, [a], .Call (.Name x _) [a'] [] _ => (decide (x = ("enumerate" : Str)) && (blt G s x && (notStar a' && isTupE tg'))) && chkE G s a a'
        | .zip, [a, b], .Call (.Name x _) [a', b'] [] _ => (decide (x = ("zip" : Str)) && (blt G s x && (notStar a' && (notStar b' && isTupE tg')))) && (chkE G s a a' && chkE G s b b')
        | _, _, _ => false)) && chkSs G s body body')
    | _ => false
  | .forO tg one i body, st => match st with
    | .For tg' (.Name x _) body' [] _ => (chkT s one tg tg' && nmV s i x) && chkSs G s body body'
    | _ => false
  | .whl c body, st => match st with
    | .While c' body' [] _ => (chkE G s c c' && !isIfe c') && chkSs G s body body'
    | _ => false
  | .ret e, st => match st with
    | .Return (some e') _ => chkE G s e e'
    | _ => false
  | .rtn, st => match st with
    | .Return none _ => true
    | _ => false
  | .brk, st => match st with
    | .Break _ => true
    | _ => false
  | .cnt, st => match st with
    | .Continue _ => true
    | _ => false
  | .pas, st => match st with
    | .Pass _ => true
    | .Expr (.Constant (.str _) _ _) _ => true
    | _ => false
  | .nev, _ => true
def chkSs (G : Gb) (s : Sc) : List S → List Stmt → Bool
  | [], [] => true
  | x :: xs, st :: sts => chkS G s x st && chkSs G s xs sts
  | _, _ => false
end
theorem swaps_no {e : Expr} {t : Option Expr} {l : Nat} {env : PySem.Env} (h : notComp e = true) : swapsWith e t l env = pure false := by
  cases e <;> first | rfl | cases h
theorem swapped_none {ts : List Expr} {e : Expr} {env : PySem.Env} (h : notTup e = true) : swappedStores ts e env = pure none := by
  unfold swappedStores
  cases ts with
  | nil => rfl
  | cons a r => cases r with
    | nil => cases a <;> cases e <;> first | rfl | cases h
    | cons _ _ => cases a <;> rfl
theorem swaps_lc {elt : Expr} {gs : List Comprehension} {sc' : Scope} {pos px : Pos} {x : Str} {l : Nat} {env : PySem.Env} {s : Sc} (hs : env.scope = s.sc) (hk : env.scope.kind = .function) :
    swapsWith (.ListComp elt gs sc' pos) (some (.Name x px)) l env = pure (swapB s x px (.ListComp elt gs sc' pos)) := by
  have hb : env.blockKind = .function := by unfold Env.blockKind; rw [hk]; rfl
  unfold swapsWith swapB
  simp only [hb, Expr.pos]
  have e1 : (env.kindOf x == some .local) = decide (s.sc.names.lookup x = some .local) := by
    rw [← hs]
    show (env.scope.names.lookup x == some NameKind.local) = _
    cases env.scope.names.lookup x with
    | none => rfl
    | some kk => cases kk <;> rfl
  rw [e1]
  show pure ((true && _) && _ && _) = _
  rw [Bool.true_and, Bool.and_assoc]
theorem swapped_two {x y : Str} {px py pt pt2 : Pos} {kt k2 : Nat} {a b : Expr} {env : PySem.Env} (hk : env.scope.kind = .function) (hx : env.scope.names.lookup x = some .local) (hy : env.scope.names.lookup y = some .local) (hl : (py.line == px.line) = true) (hne : x ≠ y) (sa : notStar a = true) (sb : notStar b = true)
    (hf : [a, b].all (foldedForSure 8) = false) (hc : [a, b].all (constantsAlone 8) = false) : swappedStores [.Tuple [.Name x px, .Name y py] kt pt] (.Tuple [a, b] k2 pt2) env = pure (some [x, y]) := by
  have hb : env.blockKind = .function := by unfold Env.blockKind; rw [hk]; rfl
  have kx : env.kindOf x = some .local := hx
  have ky : env.kindOf y = some .local := hy
  have hstar : ([a, b].any fun | .Starred .. => true | _ => false) = false := by
    cases a <;> cases b <;> first | rfl | (cases sa; done) | (cases sb; done)
  have e2 : ([x, y] : List Str).eraseDups.length = 2 := by
    have : (y == x) = false := beq_eq_false_iff_ne.mpr fun z => hne z.symm
    rw [List.eraseDups_cons]
    simp [this, List.eraseDups_cons]
  unfold swappedStores
  simp only [List.length_cons, List.length_nil, hb, hstar, hf, hc, List.filterMap_cons, List.filterMap_nil, List.head?_cons, Option.map_some, Option.getD_some, Expr.pos, kx, ky, hl, beq_self_eq_true, Bool.true_and, if_true, e2]
  rw [if_neg (by decide)]
  refine (if_neg fun h => ?_).trans ?_
  · have h2 : false = true := hstar.symm.trans h
    cases h2
  · rw [if_neg (by decide), if_neg Bool.false_ne_true, if_neg Bool.false_ne_true]
end Ev

set_option Elab.async false
set_option linter.all false
set_option maxRecDepth 100000
set_option maxHeartbeats 16000000
namespace Ev
open PySem PySem.Spec L2

section
variable {T : Tab} {C : Calls} {k : Nat} {G : Gb} {A : List Nat} {fu : Nat}
def SndS (T : Tab) (C : Calls) (k : Nat) (G : Gb) (A : List Nat) (fu : Nat) (x : S) : Prop := ∀ (X : Cx) (W : WX) (s : Sc) (st : Stmt), Sta X T C k G → Vr X s → Takes X W → PassesOwn (model X.prog X.w) X.A X.env X.xe → X.env.scope.kind = .function → chkS G s x st = true → PS X st (TmS T W A (exS C A fu x))
def SndSs (T : Tab) (C : Calls) (k : Nat) (G : Gb) (A : List Nat) (fu : Nat) (x : List S) : Prop := ∀ (X : Cx) (W : WX) (s : Sc) (st : List Stmt), Sta X T C k G → Vr X s → Takes X W → PassesOwn (model X.prog X.w) X.A X.env X.xe → X.env.scope.kind = .function → chkSs G s x st = true → PSs X st (TmS T W A (exL C A fu x))
theorem swapsSole_no {e t : Expr} {l : Nat} {env : PySem.Env} (h : notComp e = true) : swapsWithSole [t] e l env = pure false := swaps_no (t := some t) h
theorem nodup_ix {α : Type} : ∀ {N : List α} {i j : Nat} {x : α}, N.Nodup → N[i]? = some x → N[j]? = some x → i = j
  | [], i, _, _, _, h, _ => by simp at h
  | y :: N, 0, 0, x, _, _, _ => rfl
  | y :: N, 0, j + 1, x, nd, h1, h2 => by
    have : y = x := by simpa using h1
    subst this
    exact absurd (List.mem_of_getElem? (by simpa using h2)) (List.nodup_cons.mp nd).1
  | y :: N, i + 1, 0, x, nd, h1, h2 => by
    have : y = x := by simpa using h2
    subst this
    exact absurd (List.mem_of_getElem? (by simpa using h1)) (List.nodup_cons.mp nd).1
  | y :: N, i + 1, j + 1, x, nd, h1, h2 => by
    have h1 : N[i]? = some x := by simpa using h1
    have h2 : N[j]? = some x := by simpa using h2
    exact congrArg (· + 1) (nodup_ix (List.nodup_cons.mp nd).2 h1 h2)
/-- a comprehension that is stored within itself -/
theorem set_lc {X : Cx} {W : WX} {s : Sc} {i : Nat} {x : Str} {px pos : Pos} {e : E} {e' : Expr} (t : Sta X T C k G) (v : Vr X s) (tk : Takes X W) (hN : X.N[i]? = some x) (hyl : X.env.scope.names.lookup x = some .local) (hlc : isLC e' = true) (hsw : swapsWith e' (some (.Name x px)) pos.line X.env = pure true) (h : chkE G s e e' = true) :
    PS X (.Assign [.Name x px] e' pos) (TmS T W A (stS (ev C false e) fun d ρ => setS A i d ρ)) := by
  cases e' with
  | ListComp elt' gs sc' lpos =>
    cases e with
    | lc own tg one sk src cond elt =>
      unfold chkE at h
      split at h
      · rename_i elt2 tg' iter ifs sc2 pos2 heq
        cases heq
        have h1 := a1 h
        have h2 := a2 h
        have hblk := blkOk_by (a1 (a1 h1))
        have hnd := of_decide_eq_true (a2 (a1 h1))
        have htg : ∀ i ∈ tg, i ∈ own := fun i hi => of_decide_eq_true (List.all_eq_true.mp (a1 (a2 h1)) i hi)
        have hT := a1 (a2 (a2 h1))
        have hset := a2 (a2 (a2 h1))
        have hsrc := src_ok (tg' := tg') t v tk (a1 (a1 h2)) ((sndL src).2.2.2)
        have hblk2 : BlkOk X.N X.env.scope sc' (ownP s own) := by rw [v.N, v.sc]; exact hblk
        have lp : LcP X T sc' tg' elt' ifs tg one (nmL cond) (nm elt) (evC C cond) (ev C false elt) :=
          ⟨fun st H Ca cl fp => tgt_ok (blk_sta t st H sc' Ca cl fp) (blk_vr v st H sc' Ca cl fp) hT,
           fun st H Ca cl fp => conds_ok (blk_sta t st H sc' Ca cl fp) (blk_vr v st H sc' Ca cl fp) (blk_takes st H sc' Ca cl fp) (a2 (a1 h2)) ((sndL cond).2.2.2),
           fun st H Ca cl fp => (sndE elt _ _ _ _ (blk_sta t st H sc' Ca cl fp) (blk_vr v st H sc' Ca cl fp) (blk_takes st H sc' Ca cl fp) (a2 h2)).1 false⟩
        have := ps_setLcS (A := A) (n := nm (.lc own tg one sk src cond elt)) (own := ownP s own) (nn := nmL cond && nm elt) (T := T) (W := W) (ms := evP C src) t.calm t.nd hN hyl hsw hsrc hblk2 lp (folded_ok hset) (by rw [ownP_snd]; exact hnd) (by rw [ownP_snd]; exact htg) (fun q => a1 q) (fun q => a2 q) (fun q => a1 q) (fun q => a2 q)
        rw [ownP_snd] at this
        exact this
      · cases h
    | and_ _ _ => cases h
    | or_ _ _ => cases h
    | _ => cases h
  | _ => cases hlc
set_option maxHeartbeats 40000000 in
mutual
theorem sndS : ∀ x : S, SndS T C k G A fu x
  | .e e, X, W, s, st, t, v, tk, hp, hk, h => by
    unfold chkS at h
    split at h
    · exact ps_eS ((sndE e X W s _ t v tk (a1 h)).1 false) (swaps_no (a2 h))
    · cases h
  | .set i e, X, W, s, st, t, v, tk, hp, hk, h => by
    unfold chkS at h
    split at h
    · rename_i x px e' pos
      obtain ⟨h1, h2, h3⟩ := nmS_ok v (a1 (a1 h))
      have he := a2 (a1 h)
      have hc := a2 h
      rw [Bool.or_eq_true] at hc
      rcases hc with hc | hc
      · exact ps_setS t.nd h1 h2 ((sndE e X W s _ t v tk he).1 false) (swaps_no hc) h3
      · have hlc := hc
        cases e' with
        | ListComp elt' gs sc' lpos =>
          have hsw := swaps_lc (elt := elt') (gs := gs) (sc' := sc') (pos := lpos) (px := px) (x := x) (l := pos.line) v.sc hk
          cases hb : swapB s x px (.ListComp elt' gs sc' lpos) with
          | true =>
            rw [hb] at hsw
            have hloc : s.sc.names.lookup x = some .local := of_decide_eq_true (a1 hb)
            exact set_lc t v tk h1 (by rw [v.sc]; exact hloc) rfl hsw he
          | false =>
            rw [hb] at hsw
            exact ps_setS t.nd h1 h2 ((sndE e X W s _ t v tk he).1 false) hsw h3
        | _ => cases hlc
    · cases h
  | .setF i e, X, W, s, st, t, v, tk, hp, hk, h => by
    unfold chkS at h
    split at h
    · rename_i x px e' pos
      obtain ⟨h1, h2, h3⟩ := nmS_ok v (a1 (a1 h))
      exact ps_setFS t.nd h1 h2 ((sndE e X W s _ t v tk (a2 (a1 h))).1 false) (swaps_no (a2 h)) h3
    · cases h
  | .unp is e, X, W, s, st, t, v, tk, hp, hk, h => by
    unfold chkS at h
    split at h
    · rename_i es kk tp e' pos
      have hT := tgt_ok t v (a1 (a1 h))
      exact ps_unpS ((sndE e X W s _ t v tk (a2 (a1 h))).1 false) hT (swapsSole_no (a1 (a2 h))) (swapped_none (a2 (a2 h))) rfl
    · cases h
  | .par i j a b, X, W, s, st, t, v, tk, hp, hk, h => by
    unfold chkS at h
    split at h
    · rename_i x px y py kt pt a' b' k2 pt2 pos
      have hA := a1 h
      have hB := a2 h
      have hi := of_decide_eq_true (a1 hA)
      have hj := of_decide_eq_true (a1 (a2 hA))
      have hij := of_decide_eq_true (a1 (a2 (a2 hA)))
      have hx := of_decide_eq_true (a1 (a2 (a2 (a2 hA))))
      have hy := of_decide_eq_true (a2 (a2 (a2 (a2 hA))))
      have hline := a2 (a1 hB)
      have hf := neg_of (a1 (a2 hB))
      have hcn := neg_of (a1 (a2 (a2 hB)))
      have sa := a1 (a2 (a2 (a2 hB)))
      have sb := a1 (a2 (a2 (a2 (a2 hB))))
      have ca := a1 (a2 (a2 (a2 (a2 (a2 hB)))))
      have cb := a2 (a2 (a2 (a2 (a2 (a2 hB)))))
      rw [← v.N] at hi hj
      rw [← v.sc] at hx hy
      have hne : x ≠ y := by
        rintro rfl
        exact hij (nodup_ix t.nd hi hj)
      have ha := (sndE a X W s _ t v tk ca).1 false
      have hb := (sndE b X W s _ t v tk cb).1 false
      have hpa : PA X [a', b'] (TmL T W false (nmL [a, b]) (evs C [a, b])) := pa_consE ha (pa_consE hb (pa_nilE (n := true)) (fun q => by rw [nmL1] at q; exact q) (fun _ => rfl) (star_cons sb)) (fun q => a1 q) (fun q => a2 q) (star_cons sa)
      exact ps_parS t.calm t.nd hi hj hij hx hy hpa (swapped_two hk hx hy hline hne sa sb hf hcn) rfl
    · cases h
  | .sto pl e, X, W, s, st, t, v, tk, hp, hk, h => by
    cases pl with
    | idx a kx =>
      unfold chkS at h
      simp only at h
      split at h
      · rename_i a' k' tp e' pos
        have b1 := sndP a X W s _ t v tk (a1 (a2 h))
        have b2 := (sndE kx X W s _ t v tk (a1 (a2 (a2 h)))).1 true
        rw [a2 (a1 (a1 h))] at b2
        have b3 := (sndE e X W s _ t v tk (a2 (a2 (a2 h)))).1 false
        have hns := a1 (a1 (a1 h))
        have hnc := a2 (a1 h)
        refine ps_stoS t.hu b3 b1 b2 (fun w => ?_) (swapsSole_no hnc) ?_ rfl
        · cases k' <;> first | rfl | cases hns
        · cases e' <;> rfl
      · cases h
    | fld a f =>
      unfold chkS at h
      simp only at h
      split at h
      · rename_i a' f' p' e' pos
        have b1 := sndP a X W s _ t v tk (a1 (a2 h))
        have b3 := (sndE e X W s _ t v tk (a2 (a2 h))).1 false
        have hf := of_decide_eq_true (a1 (a1 h))
        subst hf
        have hlt := of_decide_eq_true (a1 (a2 (a1 h)))
        rw [t.nf] at hlt
        rw [t.fN]
        exact ps_stfS t.hK t.tab hlt b3 b1 (by cases e' <;> rfl)
      · cases h
    | _ => cases h
  | .aug i o e, X, W, s, st, t, v, tk, hp, hk, h => by
    unfold chkS at h
    split at h
    · rename_i x px op e' pos
      obtain ⟨h1, h2, h3⟩ := nmS_ok v (a1 (a1 h))
      have ho := opB_ok (a2 (a1 h))
      subst ho
      exact ps_augS t.hK t.nd h1 h2 ((sndE e X W s _ t v tk (a2 h)).1 false) h3
    · cases h
  | .dup pl es, X, W, s, st, t, v, tk, hp, hk, h => by
    unfold chkS at h
    split at h
    · rename_i a' m apos e' cpos pos
      have hm := of_decide_eq_true (a1 (a1 h))
      subst hm
      have h1 := a2 (a1 h)
      have b1 := sndP pl X W s a' t v tk (a1 (a2 h))
      have hst : [e'].all notStar = true := by rw [List.all_cons, a1 (a2 h1)]; rfl
      have l1 := (sndL es).1 X W s [e'] t v tk (a2 (a2 h)) hst
      rw [a2 (a2 (a2 h1))] at l1
      exact ps_dupS t.hK t.calm b1 l1 (abase_ok (a1 h1)) (few_ok hst (by simp)) (a1 (a2 (a2 h1))) (star_cons (a1 (a2 h1))) (star_any rfl) rfl
    · cases h
  | .augs pl o e, X, W, s, st, t, v, tk, hp, hk, h => by
    cases pl with
    | idx a kx =>
      unfold chkS at h
      simp only at h
      split at h
      · rename_i a' k' tp op e' pos
        have b1 := sndP a X W s _ t v tk (a1 (a2 h))
        have b2 := (sndE kx X W s _ t v tk (a1 (a2 (a2 h)))).1 true
        have b3 := (sndE e X W s _ t v tk (a2 (a2 (a2 h)))).1 true
        have hns := a1 (a1 (a1 h))
        rw [a1 (a2 (a1 (a1 h)))] at b2
        rw [a2 (a2 (a1 (a1 h)))] at b3
        have ho := opB_ok (a2 (a1 h))
        subst ho
        refine ps_augsS t.hK t.hu b3 b1 b2 (fun ov iv w => ?_)
        cases k' <;> first | rfl | cases hns
      · cases h
    | _ => cases h
  | .if_ c a b, X, W, s, st, t, v, tk, hp, hk, h => by
    unfold chkS at h
    split at h
    · rename_i c' a' b' pos
      exact ps_ifS ((sndE c X W s _ t v tk (a1 (a1 h))).2 (neg_of (a2 (a1 h)))) (sndSs a X W s _ t v tk hp hk (a1 (a2 h))) (sndSs b X W s _ t v tk hp hk (a2 (a2 h)))
    · cases h
  | .for_ tg one sk src body, X, W, s, st, t, v, tk, hp, hk, h => by
    unfold chkS at h
    split at h
    · rename_i tg' iter body' pos
      have hT := tgt_ok t v (a1 (a1 h))
      have hsrc := src_ok (tg' := tg') t v tk (a1 (a2 h)) ((sndL src).2.2.2)
      exact ps_forS hp t.calm hsrc hT (sndSs body X W s _ t v tk hp hk (a2 (a2 h))) (folded_ok (a2 (a1 h)))
    · cases h
  | .forO tg one i body, X, W, s, st, t, v, tk, hp, hk, h => by
    unfold chkS at h
    split at h
    · rename_i tg' x q body' pos
      have hT := tgt_ok t v (a1 (a1 h))
      obtain ⟨q1, q2, q3, q4⟩ := nmV_ok v (a2 (a1 h))
      exact ps_forOS t.hK hp t.calm q1 q2 q3 q4 hT (sndSs body X W s _ t v tk hp hk (a2 h)) (folded_ok rfl)
    · cases h
  | .whl c body, X, W, s, st, t, v, tk, hp, hk, h => by
    unfold chkS at h
    split at h
    · rename_i c' body' pos
      exact ps_whlS hp ((sndE c X W s _ t v tk (a1 (a1 h))).2 (neg_of (a2 (a1 h)))) (sndSs body X W s _ t v tk hp hk (a2 h))
    · cases h
  | .ret e, X, W, s, st, t, v, tk, hp, hk, h => by
    unfold chkS at h
    split at h
    · exact ps_retS ((sndE e X W s _ t v tk h).1 false)
    · cases h
  | .rtn, X, W, s, st, t, v, tk, hp, hk, h => by
    unfold chkS at h
    split at h
    · exact ps_rtnS
    · cases h
  | .brk, X, W, s, st, t, v, tk, hp, hk, h => by
    unfold chkS at h
    split at h
    · exact ps_brkS
    · cases h
  | .cnt, X, W, s, st, t, v, tk, hp, hk, h => by
    unfold chkS at h
    split at h
    · exact ps_cntS
    · cases h
  | .pas, X, W, s, st, t, v, tk, hp, hk, h => by
    unfold chkS at h
    split at h
    · exact ps_pasS
    · exact ps_docS
    · cases h
  | .nev, X, W, s, st, t, v, tk, hp, hk, h => ps_nevS
theorem sndSs : ∀ x : List S, SndSs T C k G A fu x
  | [], X, W, s, st, t, v, tk, hp, hk, h => by
    cases st with
    | nil => exact pss_nilS
    | cons _ _ => cases h
  | x :: xs, X, W, s, st, t, v, tk, hp, hk, h => by
    cases st with
    | nil => cases h
    | cons y ys =>
      have h : (chkS G s x y && chkSs G s xs ys) = true := h
      exact pss_consS (sndS x X W s y t v tk hp hk (a1 h)) (sndSs xs X W s ys t v tk hp hk (a2 h))
end
end
end Ev

set_option Elab.async false
set_option linter.all false
set_option maxRecDepth 100000
set_option maxHeartbeats 16000000
namespace Ev
open PySem PySem.Spec L2

/-! ## defs -/
structure FnD where
  N : List Str
  np : Nat
  body : List S
  A : List Nat
def refsAt : List Bool → Env → Option (List D)
  | [], _ => some []
  | true :: bs, some d :: ρ => (refsAt bs ρ).map (d :: ·)
  | false :: bs, _ :: ρ => refsAt bs ρ
  | _, _ => none
def refsOk (A : List Nat) : Nat → List Bool → Bool
  | _, [] => true
  | i, b :: bs => (!b || decide (i ∉ A)) && refsOk A (i + 1) bs
def retC (bs : List Bool) : Fl → CR
  | .rt d ρ => match refsAt bs ρ with
    | some rs => .ok d rs
    | none => .unk
  | .nx ρ => match refsAt bs ρ with
    | some rs => .ok D.non rs
    | none => .unk
  | .ex x ρ => match refsAt bs ρ with
    | some rs => .ex x rs
    | none => .unk
  | _ => .unk
def env0 (n : Nat) (ds : List D) : Env := ds.map some ++ List.replicate (n - ds.length) none
structure Prog where
  fs : Nat → Option FnD
  ini : Nat → Option Nat
  met : Nat → Nat → Option Nat
  sub : Nat → Nat → Bool
  fu : Nat
def dcall (P : Prog) : Nat → Calls
  | 0 => ⟨fun _ _ _ => .unk, P.ini, P.met, P.sub⟩
  | n + 1 => ⟨fun f bs ds => match P.fs f with
    | some fd => if decide (ds.length = fd.np) && (decide (bs.length = fd.np) && refsOk fd.A 0 bs) then retC bs (exL (dcall P n) fd.A P.fu fd.body (env0 fd.N.length ds)) else .unk
    | none => .unk, P.ini, P.met, P.sub⟩
section
variable {T : Tab} {H : Hp} {fz : Fz}
theorem env_start : ∀ {ds : List D} {vs : List V} {F : List Addr} (m : Nat), RepL T H fz ds vs F → EnvR T H fz (ds.map some ++ List.replicate m none) (vs.map some ++ List.replicate m none) F
  | [], vs, F, m, h => by
    obtain ⟨rfl, rfl⟩ := h
    show EnvR T H fz (List.replicate m none) (List.replicate m none) []
    induction m with
    | zero => exact ⟨rfl, rfl⟩
    | succ m ih => exact ⟨none, _, rfl, ih⟩
  | d :: ds, vs, F, m, h => by
    obtain ⟨v, r, F1, F2, e1, e2, h1, h2⟩ := h
    subst e1; subst e2
    exact ⟨v, _, F1, F2, rfl, rfl, h1, env_start m h2⟩
theorem refs_end : ∀ {bs : List Bool} {ρ : Env} {σ : St} {F : List Addr} {rs : List D} {vs : List V}, EnvR T H fz ρ σ F → bs.length = vs.length → (∀ (i : Nat) (v : V), bs[i]? = some true → vs[i]? = some v → σ[i]? = some (some v)) → refsAt bs ρ = some rs →
    ∃ F2 R, F.Perm (F2 ++ R) ∧ RepL T H fz rs (refV bs vs) F2
  | [], ρ, σ, F, rs, vs, e, hl, hs, h => by
    have h : some [] = some rs := h
    cases h
    have : vs = [] := List.eq_nil_of_length_eq_zero hl.symm
    subst this
    exact ⟨[], F, List.Perm.refl _, rfl, rfl⟩
  | b :: bs, ρ, σ, F, rs, [], e, hl, hs, h => by cases hl
  | true :: bs, [], σ, F, rs, v :: vs, e, hl, hs, h => by cases h
  | true :: bs, none :: ρ, σ, F, rs, v :: vs, e, hl, hs, h => by cases h
  | true :: bs, some d :: ρ, σ, F, rs, v :: vs, e, hl, hs, h => by
    have h : (refsAt bs ρ).map (d :: ·) = some rs := h
    obtain ⟨rs', h1, h2⟩ := Option.map_eq_some_iff.mp h
    subst h2
    obtain ⟨w, r, F1, F2, e1, e2, r1, r2⟩ := e
    subst e1; subst e2
    have ev := hs 0 v rfl rfl
    have ev : w = v := by simpa using ev
    subst ev
    obtain ⟨F3, R, p, r3⟩ := refs_end r2 (by simpa using hl) (fun i u q1 q2 => by simpa using hs (i + 1) u (by simpa using q1) (by simpa using q2)) h1
    exact ⟨F1 ++ F3, R, by rw [List.append_assoc]; exact p.append_left F1, w, _, F1, F3, rfl, rfl, r1, r3⟩
  | false :: bs, [], σ, F, rs, v :: vs, e, hl, hs, h => by cases h
  | false :: bs, none :: ρ, σ, F, rs, v :: vs, e, hl, hs, h => by
    have h : refsAt bs ρ = some rs := h
    obtain ⟨o, r, e1, r2⟩ := e
    subst e1
    exact refs_end (bs := bs) (vs := vs) r2 (by simpa using hl) (fun i u q1 q2 => by simpa using hs (i + 1) u (by simpa using q1) (by simpa using q2)) h
  | false :: bs, some d :: ρ, σ, F, rs, v :: vs, e, hl, hs, h => by
    have h : refsAt bs ρ = some rs := h
    obtain ⟨w, r, F1, F2, e1, e2, r1, r2⟩ := e
    subst e1; subst e2
    obtain ⟨F3, R, p, r3⟩ := refs_end (bs := bs) (vs := vs) r2 (by simpa using hl) (fun i u q1 q2 => by simpa using hs (i + 1) u (by simpa using q1) (by simpa using q2)) h
    refine ⟨F3, F1 ++ R, ?_, r3⟩
    exact (p.append_left F1).trans (List.perm_append_comm_assoc F1 F3 R)
theorem refsOk_ok {A : List Nat} : ∀ {bs : List Bool} {j : Nat}, refsOk A j bs = true → ∀ (i : Nat), bs[i]? = some true → (j + i) ∉ A
  | [], _, _, i, h => by simp at h
  | b :: bs, j, hk, 0, h => by
    have hk : ((!b || decide (j ∉ A)) && refsOk A (j + 1) bs) = true := hk
    have : b = true := by simpa using h
    subst this
    have := a1 hk
    simpa using this
  | b :: bs, j, hk, i + 1, h => by
    have hk : ((!b || decide (j ∉ A)) && refsOk A (j + 1) bs) = true := hk
    have := refsOk_ok (a2 hk) i (by simpa using h)
    rw [show j + (i + 1) = j + 1 + i by omega]
    exact this
end
/-! ## a text's defs, all at once -/
/-- the def f of the evaluator is the text's def at fa -/
def FnX (K : PySem.W.Frag) (G : Gb) (Pg : Prog) (f : Nat) (fa : Addr) (fd : FuncData) (d : FnD) : Prop := ∃ x qual params ast scope, Pg.fs f = some d ∧ FunD K x qual params ast scope [] [] fa fd ∧ FnScope d.N (d.N.take d.np) scope ∧ d.np ≤ d.N.length ∧ chkSs G ⟨d.N, scope, fun _ => true⟩ d.body ast = true ∧ Binds K fd (d.N.take d.np) []
def FnS (K : PySem.W.Frag) (G : Gb) (Pg : Prog) (f : Nat) (fa : Addr) : Prop := ∃ fd d, FnX K G Pg f fa fd d
structure Prg (K : PySem.W.Frag) (mg : Str → Option Value) (T : Tab) (G : Gb) (Pg : Prog) : Prop where
  hK : K = T.K
  tab : TabOk T
  isi : IsiOk T Pg.sub
  fns : ∀ f x, G.fn f = some x → ∃ fa, mg x = some (.ref fa) ∧ PySem.W.keepIn K (.ref fa) = true ∧ FnS K G Pg f fa
  cls : ∀ c x, G.cl c = some x → mg x = some (.ref (T.C c)) ∧ ∃ f fa, Pg.ini c = some f ∧ Mk K (T.C c) fa ∧ FnS K G Pg f fa
  meth : ∀ c m f, Pg.met c m = some f → ∃ g, Meth K (T.C c) (G.mN m) g ∧ FnS K G Pg f g
  mNf : ∀ m, m < G.nm → ∀ f, f < T.nf → T.f f ≠ G.mN m
  blt : ∀ x, x ∈ G.bl → mg x = none
  gls : ∀ x a, G.gl x = some a → ∃ u, mg x = some u ∧ RelV a.v u
  nf : G.nf = T.nf
  fN : G.fN = T.f
theorem dcall_ini {Pg : Prog} : ∀ n, (dcall Pg n).init = Pg.ini
  | 0 => rfl
  | _ + 1 => rfl
theorem dcall_met {Pg : Prog} : ∀ n, (dcall Pg n).meth = Pg.met
  | 0 => rfl
  | _ + 1 => rfl
theorem dcall_sub {Pg : Prog} : ∀ n, (dcall Pg n).sub = Pg.sub
  | 0 => rfl
  | _ + 1 => rfl
section
variable {P : Program} {w : World} {K : PySem.W.Frag} {mg : Str → Option Value} {base : Heap} {T : Tab} {G : Gb} {Pg : Prog}
theorem fn_soundX (g : Prg K mg T G Pg) : ∀ (n f : Nat) (fa : Addr) (fd : FuncData) (d : FnD), FnX K G Pg f fa fd d → FnOk P w K mg base (L2.CX P w) (2 * n) fa fd (d.N.take d.np) (spD T (dcall Pg n) f) ∧ Binds K fd (d.N.take d.np) []
  | 0, f, fa, fd, d, h => by
    obtain ⟨x, qual, params, ast, scope, h1, h2, h3, h4, h5, h6⟩ := h
    refine ⟨⟨fun vs H Q E q => ?_, fun A outer s H args us vs Q E _ _ _ _ q => ?_⟩, h6⟩
    · obtain ⟨_, _, _, _, _, _, q⟩ := q; exact q.elim
    · obtain ⟨_, _, _, _, _, _, q⟩ := q; exact q.elim
  | n + 1, f, fa, fd, d, h => by
    have ih : ∀ f fa, FnS K G Pg f fa → ∃ fd ps, FnOk P w K mg base (L2.CX P w) (2 * n) fa fd ps (spD T (dcall Pg n) f) ∧ Binds K fd ps [] := fun f fa ⟨fd, d, q⟩ => ⟨fd, _, fn_soundX g n f fa fd d q⟩
    obtain ⟨x, qual, params, ast, scope, h1, h2, h3, h4, h5, h6⟩ := h
    have hps : (d.N.take d.np).length = d.np := by rw [List.length_take]; omega
    have inv : ∀ {vs : List V} {H : Hp} {Q : VK} {E : XK}, spD T (dcall Pg (n + 1)) f vs H Q E → ∃ fz F ds bs, Amb H fz F ∧ RepL T H fz ds vs F ∧ ds.length = d.np ∧ bs.length = d.np ∧ refsOk d.A 0 bs = true ∧ (match retC bs (exL (dcall Pg n) d.A Pg.fu d.body (env0 d.N.length ds)) with
        | .ok d rs => ∀ v H' fz' F' G, Ext H fz F H' fz' (F' ++ G) → RepL T H' fz' rs (refV bs vs) F' → Rep T H' fz' d v G → Q v H'
        | .ex x rs => ∀ cls dd H' fz' F', Ext H fz F H' fz' F' → RepL T H' fz' rs (refV bs vs) F' → RepX T H' fz' x cls dd → E cls dd H'
        | .unk => False) := by
      intro vs H Q E q
      obtain ⟨fz, F, ds, bs, am, rl, q⟩ := q
      refine ⟨fz, F, ds, bs, am, rl, ?_⟩
      have e : (dcall Pg (n + 1)).call f bs ds = if decide (ds.length = d.np) && (decide (bs.length = d.np) && refsOk d.A 0 bs) then retC bs (exL (dcall Pg n) d.A Pg.fu d.body (env0 d.N.length ds)) else .unk := by
        show (match Pg.fs f with
          | some fd => if decide (ds.length = fd.np) && (decide (bs.length = fd.np) && refsOk fd.A 0 bs) then retC bs (exL (dcall Pg n) fd.A Pg.fu fd.body (env0 fd.N.length ds)) else .unk
          | none => CR.unk) = _
        rw [h1]
      rw [e] at q
      by_cases hc : (decide (ds.length = d.np) && (decide (bs.length = d.np) && refsOk d.A 0 bs)) = true
      · rw [if_pos hc] at q
        exact ⟨of_decide_eq_true (a1 hc), of_decide_eq_true (a1 (a2 hc)), a2 (a2 hc), q⟩
      · rw [if_neg hc] at q
        exact q.elim
    refine ⟨?_, h6⟩
    refine h2.ok (k := 2 * n + 1) h3 (fun vs H Q E q => ?_) (fun cdv A outer s H vs Q E hr q => ?_)
    · obtain ⟨fz, F, ds, bs, _, rl, l1, _⟩ := inv q
      rw [hps, ← rl.len, l1]
    · obtain ⟨fz, F, ds, bs, am, rl, l1, l2, hro, q⟩ := inv q
      refine ⟨TmS T (fun cls dd _ H' => E cls dd H') d.A (exL (dcall Pg n) d.A Pg.fu d.body), ?_, fz, F, env0 d.N.length ds, am, ?_, ?_⟩
      · refine sndSs (k := 2 * n) (G := G) (A := d.A) (fu := Pg.fu) d.body _ _ ⟨d.N, scope, fun _ => true⟩ ast ?_ ⟨rfl, rfl, fun _ _ => rfl⟩ ?_ ?_ h3.kind h5
        · exact { hK := g.hK, tab := g.tab, isi := by rw [dcall_sub]; exact g.isi, room := hr, calm := rfl, nd := h3.nd
                  fns := fun f x hx => by
                    obtain ⟨fa, q1, q2, q3⟩ := g.fns f x hx
                    exact ⟨fa, q1, q2, ih f fa q3⟩
                  cls := fun c x hx => by
                    obtain ⟨q1, f, fa, q2, q3, q4⟩ := g.cls c x hx
                    exact ⟨q1, f, fa, by rw [dcall_ini]; exact q2, q3, ih f fa q4⟩
                  meth := fun c m f hf => by
                    rw [dcall_met] at hf
                    obtain ⟨g', q1, q2⟩ := g.meth c m f hf
                    exact ⟨g', q1, ih f g' q2⟩
                  mNf := g.mNf, blt := g.blt, gls := g.gls, nf := g.nf, fN := g.fN }
        · exact takes_of rfl rfl rfl rfl
        · exact passes_of rfl
      · have hlen := rl.len
        show EnvR T H fz (ds.map some ++ List.replicate (d.N.length - ds.length) none) (vs.map some ++ List.replicate (d.N.length - vs.length) none) F
        rw [hlen]
        exact env_start _ rl
      · -- the end
        have hvl : vs.length = d.np := by rw [← rl.len, l1]
        have slots : ∀ {σ' : St}, Keep d.A (L2.start d.N vs) σ' → ∀ (i : Nat) (v : V), bs[i]? = some true → vs[i]? = some v → σ'[i]? = some (some v) := fun {σ'} kp i v hb hv => by
          have hi : i < vs.length := (List.getElem?_eq_some_iff.mp hv).1
          have hnA : i ∉ d.A := by have := refsOk_ok hro i hb; simpa using this
          rw [kp.2 i hnA]
          unfold L2.start
          rw [List.getElem?_append_left (by simpa using hi), List.getElem?_map, hv]
          rfl
        revert q
        cases exL (dcall Pg n) d.A Pg.fu d.body (env0 d.N.length ds) with
        | nx ρ' =>
          intro q σ' H' fz' F' x e kp
          have q : (match (match refsAt bs ρ' with | some rs => CR.ok D.non rs | none => .unk) with
            | .ok d rs => ∀ v H' fz' F' G, Ext H fz F H' fz' (F' ++ G) → RepL T H' fz' rs (refV bs vs) F' → Rep T H' fz' d v G → Q v H'
            | .ex x rs => ∀ cls dd H' fz' F', Ext H fz F H' fz' F' → RepL T H' fz' rs (refV bs vs) F' → RepX T H' fz' x cls dd → E cls dd H'
            | .unk => False) := q
          cases hr2 : refsAt bs ρ' with
          | none => rw [hr2] at q; exact q.elim
          | some rs =>
            rw [hr2] at q
            obtain ⟨F2, R, pm, r2⟩ := refs_end e (by rw [l2, hvl]) (slots kp) hr2
            exact q .non H' fz' F2 [] (by rw [List.append_nil]; exact (x.perm pm).drop (List.nodup_append.mp (x.perm pm).amb.nd).1 fun a ha => List.mem_append_left _ ha) r2 ⟨rfl, rfl⟩
        | rt dv ρ' =>
          intro q v σ' H' fz' F' G' x e kp rv
          have q : (match (match refsAt bs ρ' with | some rs => CR.ok dv rs | none => .unk) with
            | .ok d rs => ∀ v H' fz' F' G, Ext H fz F H' fz' (F' ++ G) → RepL T H' fz' rs (refV bs vs) F' → Rep T H' fz' d v G → Q v H'
            | .ex x rs => ∀ cls dd H' fz' F', Ext H fz F H' fz' F' → RepL T H' fz' rs (refV bs vs) F' → RepX T H' fz' x cls dd → E cls dd H'
            | .unk => False) := q
          cases hr2 : refsAt bs ρ' with
          | none => rw [hr2] at q; exact q.elim
          | some rs =>
            rw [hr2] at q
            obtain ⟨F2, R, pm, r2⟩ := refs_end e (by rw [l2, hvl]) (slots kp) hr2
            have nd := x.amb.nd
            have ndF := List.nodup_append.mp nd
            refine q v H' fz' F2 G' (x.drop ?_ fun a ha => ?_) r2 rv
            · exact List.nodup_append.mpr ⟨(List.nodup_append.mp (pm.nodup_iff.mp ndF.1)).1, ndF.2.1, fun a h1 b h2 e => ndF.2.2 a (pm.mem_iff.mpr (List.mem_append_left _ h1)) b h2 e⟩
            · rcases List.mem_append.mp ha with z | z
              · exact List.mem_append_left _ (pm.mem_iff.mpr (List.mem_append_left _ z))
              · exact List.mem_append_right _ z
        | ex xn ρ' =>
          intro q cls dd σ' H' fz' F' x e kp rx
          have q : (match (match refsAt bs ρ' with | some rs => CR.ex xn rs | none => .unk) with
            | .ok d rs => ∀ v H' fz' F' G, Ext H fz F H' fz' (F' ++ G) → RepL T H' fz' rs (refV bs vs) F' → Rep T H' fz' d v G → Q v H'
            | .ex x rs => ∀ cls dd H' fz' F', Ext H fz F H' fz' F' → RepL T H' fz' rs (refV bs vs) F' → RepX T H' fz' x cls dd → E cls dd H'
            | .unk => False) := q
          cases hr2 : refsAt bs ρ' with
          | none => rw [hr2] at q; exact q.elim
          | some rs =>
            rw [hr2] at q
            obtain ⟨F2, R, pm, r2⟩ := refs_end e (by rw [l2, hvl]) (slots kp) hr2
            exact q cls dd H' fz' F2 ((x.perm pm).drop (List.nodup_append.mp (x.perm pm).amb.nd).1 fun a ha => List.mem_append_left _ ha) r2 rx
        | bk ρ' => exact fun q => q.elim
        | ct ρ' => exact fun q => q.elim
        | unk => exact fun q => q
end
end Ev

set_option Elab.async false
set_option linter.all false
set_option maxRecDepth 100000
set_option maxHeartbeats 16000000
namespace Ev
open PySem PySem.Spec L2

/-! ## a law's text as data -/
structure LawD where
  cls : List Str
  fld : List Str
  mth : List Str
  fns : List (FnD × He.DefD)
  ini : List (Nat × Nat)
  met : List (Nat × Nat × Nat)
  bl : List Str
  subs : List (Nat × Nat)
  fu : Nat
  cst : List (Str × Int)
def LawD.cN (L : LawD) (c : Nat) : Str := (L.cls[c]?).getD (L.cls.headD (Str.ofString ""))
def LawD.sub (L : LawD) (c c' : Nat) : Bool := decide (L.cN c = L.cN c') || L.subs.any fun p => decide (L.cN p.1 = L.cN c) && decide (L.cN p.2 = L.cN c')
def LawD.gb (L : LawD) : Gb where
  fn := fun f => match L.fns[f]? with
    | some (_, d) => match d.at_ with
      | (x, none) => some x
      | _ => none
    | none => none
  cl := fun c => if (L.ini.lookup c).isSome then L.cls[c]? else none
  mN := fun m => (L.mth[m]?).getD (Str.ofString "")
  nm := L.mth.length
  fN := fun f => (L.fld[f]?).getD (Str.ofString "")
  nf := L.fld.length
  gl := fun x => (L.cst.lookup x).map At.int
  bl := L.bl
def met3 (c m : Nat) : List (Nat × Nat × Nat) → Option Nat
  | [] => none
  | (c', m', f) :: r => if c' = c ∧ m' = m then some f else met3 c m r
def LawD.pg (L : LawD) : Prog where
  fs := fun f => (L.fns[f]?).map (·.1)
  ini := fun c => L.ini.lookup c
  met := fun c m => met3 c m L.met
  sub := L.sub
  fu := L.fu
def LawD.tab (L : LawD) (K : PySem.W.Frag) : Tab where
  K := K
  C := fun c => He.ga K (L.cN c)
  nf := L.fld.length
  f := fun f => (L.fld[f]?).getD (Str.ofString "")
  X := fun _ => .none
def LawD.fa (L : LawD) : List He.Fa := (L.fns.filterMap fun p => match p.2.at_ with
    | (x, none) => some (He.Fa.glo x)
    | _ => none) ++ (L.cls.map He.Fa.glo ++ (L.cls.map He.Fa.cls ++ ((L.cls.flatMap fun x => L.fld.map fun f => He.Fa.noat x f) ++ ((L.ini.map fun p => He.Fa.mkr (L.cN p.1)) ++ ((L.met.map fun p => He.Fa.meth (L.cN p.1) ((L.mth[p.2.1]?).getD (Str.ofString ""))) ++ (L.bl.map He.Fa.free ++ L.cst.map fun p => He.Fa.int p.1 p.2))))))
def LawD.fn (L : LawD) : List He.DefD := L.fns.map (·.2)
/-- what isinstance asks of the classes -/
def isiB (L : LawD) (K : PySem.W.Frag) : Bool :=
  (decide (PySem.W.specialIn K (.builtin "object.__class__") "__get__" = some (some (.builtin "getset_descriptor.__get__"))) && decide (PySem.W.takesIn K (.builtin "object.__class__") = some true)) &&
  L.cls.all fun x => (decide (PySem.W.findIn K (.ref (He.ga K x)) "__class__" = some (some (.builtin "object.__class__"))) && (decide (PySem.W.mroIn K (He.ga K x) (.type "object") = some true) && decide (PySem.W.kitOne K (.ref (He.ga K x)) (.ref (He.ga K x)) = some true))) &&
    ((["int", "bool", "str", "tuple", "list", "dict"].all fun t => decide (PySem.W.kitOne K (.ref (He.ga K x)) (.type t) = some false)) &&
    (["NoneType", "bool", "int", "str", "tuple", "list", "dict"].all fun t => decide (PySem.W.kitOne K (.type t) (.ref (He.ga K x)) = some false)))
def isiP (L : LawD) (K : PySem.W.Frag) : Bool := (List.range (L.cls.length + 1)).all fun c => (List.range (L.cls.length + 1)).all fun c' => decide (PySem.W.kitOne K (.ref (He.ga K (L.cN c))) (.ref (He.ga K (L.cN c'))) = some (L.sub c c'))
def LawD.ex (L : LawD) (K : PySem.W.Frag) : Bool := isiB L K && isiP L K
/-- the text's own conditions -/
def scopeB (N : List Str) (np : Nat) (sc : Scope) : Bool := (match sc.kind with
  | .function => true
  | _ => false) && ((!sc.isCoroutine && !sc.isGenerator) && (decide N.Nodup && (((N.take np).all fun x => decide (sc.names.lookup x = some .local) || decide (sc.names.lookup x = some .cell)) && sc.names.all fun y => match y.2 with
    | .free => false
    | _ => true)))
def plainP (ps : List Str) (p : Arguments) : Bool := match p with
  | ⟨[], as, none, [], [], none, []⟩ => decide (as.map (·.arg) = ps)
  | _ => false
def defB (L : LawD) (p : FnD × He.DefD) : Bool := (scopeB p.1.N p.1.np p.2.scope && (decide (p.1.np ≤ p.1.N.length) && plainP (p.1.N.take p.1.np) p.2.params)) && ((p.2.dfl.isEmpty && p.2.kwd.isEmpty) && chkSs L.gb ⟨p.1.N, p.2.scope, fun _ => true⟩ p.1.body p.2.body)
def LawD.ok (L : LawD) : Bool := (!L.cls.isEmpty && (decide L.fld.Nodup && (L.mth.all fun m => decide (m ∉ L.fld)))) && ((L.ini.all fun p => decide (p.1 < L.cls.length) && (match L.fns[p.2]? with
    | some (_, d) => decide (d.at_ = (L.cN p.1, some ("__init__" : Str)))
    | none => false)) && (L.met.all fun p => match L.fns[p.2.2]? with
    | some (_, d) => decide (d.at_ = (L.cN p.1, some ((L.mth[p.2.1]?).getD (Str.ofString ""))))
    | none => false))
theorem zip_lookup {ns : List Str} {us : List Value} (nd : ns.Nodup) (h : us.length = ns.length) : ns.filterMap (fun n => ((ns.zip us).lookup n).map (n, ·)) = ns.zip us := by
  have main : ∀ (ns : List Str) (us : List Value) (pre : List (Str × Value)), ns.Nodup → (∀ n ∈ ns, pre.lookup n = none) → us.length = ns.length → ns.filterMap (fun n => ((pre ++ ns.zip us).lookup n).map (n, ·)) = ns.zip us := by
    intro ns
    induction ns with
    | nil => intro us pre _ _ h; rfl
    | cons n ns ih =>
      intro us pre nd hp h
      cases us with
      | nil => cases h
      | cons u us =>
        obtain ⟨n1, n2⟩ := List.nodup_cons.mp nd
        have e0 : (pre ++ (n :: ns).zip (u :: us)).lookup n = some u := by
          rw [List.zip_cons_cons, List.lookup_append, hp n List.mem_cons_self]
          simp
        rw [List.filterMap_cons, e0]
        show (n, u) :: _ = _
        rw [List.zip_cons_cons]
        congr 1
        have := ih us (pre ++ [(n, u)]) n2 (fun m hm => by
          rw [List.lookup_append, hp m (List.mem_cons_of_mem _ hm)]
          have hne : (m == n) = false := beq_eq_false_iff_ne.mpr fun z => n1 (by rw [← z]; exact hm)
          simp [List.lookup_cons, hne]) (by simpa using h)
        simpa using this
  simpa using main ns us [] nd (by simp) h
theorem zip_has {ns : List Str} {us : List Value} (h : us.length = ns.length) : ns.filter (fun n => ((ns.zip us).lookup n).isNone) = [] := by
  rw [List.filter_eq_nil_iff]
  intro n hn
  have : ∀ (ns : List Str) (us : List Value), us.length = ns.length → n ∈ ns → ((ns.zip us).lookup n).isSome := by
    intro ns
    induction ns with
    | nil => intro us _ h; cases h
    | cons m ns ih =>
      intro us h hm
      cases us with
      | nil => cases h
      | cons u us =>
        rw [List.zip_cons_cons, List.lookup_cons]
        cases e : n == m with
        | true => rfl
        | false =>
          rcases List.mem_cons.mp hm with q | q
          · rw [q] at e; simp at e
          · exact ih us (by simpa using h) q
  have := this ns us h hn
  cases hq : (ns.zip us).lookup n with
  | none => rw [hq] at this; cases this
  | some _ => simp
theorem bind_plain {x qual : Str} {as : List Arg} {body : List Stmt} {scope : Scope} {kV doc pm cdv ct : Value} {an : Option Addr} {us : List Value} (nd : (as.map (·.arg)).Nodup) (h : us.length = (as.map (·.arg)).length) :
    bindArgs (PySem.W.fnOf x qual ⟨[], as, none, [], [], none, []⟩ body scope .none kV doc pm an cdv ct) ⟨us, []⟩ = pure ((as.map (·.arg)).zip us) := by
  have e1 := zip_lookup nd h
  have e2 := zip_has (us := us) h
  have e0 : seqItems? Value.none = pure none := rfl
  unfold bindArgs PySem.W.fnOf
  simp only [List.map_nil, List.nil_append, e0, pure_bind, Option.getD_none, List.length_nil, Nat.sub_zero, List.drop_nil, List.append_nil, List.forIn_nil, h, Nat.zero_sub, List.drop_zero, gt_iff_lt, Nat.lt_irrefl, decide_false, Bool.false_and, List.take_length, e2, e1, List.isEmpty_nil, Bool.not_true, if_false, Bool.false_eq_true, List.drop_length, List.zip_nil_left, List.zip_nil_right, false_and]
  done
theorem scope_ok {N : List Str} {np : Nat} {sc : Scope} (h : scopeB N np sc = true) (hn : np ≤ N.length) : FnScope N (N.take np) sc := by
  unfold scopeB at h
  have h1 := a1 h
  have h2 := a2 h
  refine ⟨?_, ?_, ?_, ?_, ?_, ?_, ?_⟩
  · revert h1; cases sc.kind <;> intro h1 <;> first | rfl | cases h1
  · exact neg_of (a1 (a1 h2))
  · exact neg_of (a2 (a1 h2))
  · exact of_decide_eq_true (a1 (a2 h2))
  · rw [List.length_take, Nat.min_eq_left hn]
  · intro x hx
    have := List.all_eq_true.mp (a1 (a2 (a2 h2))) x hx
    rw [Bool.or_eq_true, decide_eq_true_eq, decide_eq_true_eq] at this
    exact this
  · intro y hy e
    have := List.all_eq_true.mp (a2 (a2 (a2 h2))) y hy
    rw [e] at this
    cases this
section
variable {K : PySem.W.Frag} {h : Heap} {mg : Str → Option Value} {L : LawD}
theorem fnX_of (hd : ∀ p ∈ L.fns, defB L p = true) (c : He.SaysD L.fa L.fn K) {f : Nat} {p : FnD × He.DefD} (hf : L.fns[f]? = some p) : ∃ fd, FnX K L.gb L.pg f (He.fAd K p.2.at_) fd p.1 ∧ PySem.W.keepIn K (.ref (He.fAd K p.2.at_)) = true ∧
    ∀ (s : Shared) (us : List Value), us.length = (p.1.N.take p.1.np).length → BindsTo s fd ⟨us, []⟩ ((p.1.N.take p.1.np).zip us) := by
  have hp := List.mem_of_getElem? hf
  have hb := hd p hp
  unfold defB at hb
  obtain ⟨fd, F⟩ := c.defs (d := p.2) (List.mem_map.mpr ⟨p, hp, rfl⟩)
  have e1 : p.2.dvs K = [] := by
    have := a1 (a1 (a2 hb))
    unfold He.DefD.dvs
    cases q : p.2.dfl with
    | nil => rfl
    | cons _ _ => rw [q] at this; cases this
  have e2 : p.2.kws K = [] := by
    have := a2 (a1 (a2 hb))
    unfold He.DefD.kws
    cases q : p.2.kwd with
    | nil => rfl
    | cons _ _ => rw [q] at this; cases this
  rw [e1, e2] at F
  have hn : p.1.np ≤ p.1.N.length := of_decide_eq_true (a1 (a2 (a1 hb)))
  have hpl := a2 (a2 (a1 hb))
  have kp := F.kp
  unfold plainP at hpl
  split at hpl
  · rename_i as hpar
    have hps : as.map (·.arg) = p.1.N.take p.1.np := of_decide_eq_true hpl
    have hnd : (as.map (·.arg)).Nodup := by rw [hps]; exact (scope_ok (a1 (a1 hb)) hn).nd.sublist (List.take_sublist _ _)
    rw [hpar] at F
    have hbind : ∀ (kV doc pm : Value) (an : Option Addr) (cdv ct : Value) (us : List Value), us.length = (p.1.N.take p.1.np).length → bindArgs (PySem.W.fnOf p.2.name p.2.qual ⟨[], as, none, [], [], none, []⟩ p.2.body p.2.scope .none kV doc pm an cdv ct) ⟨us, []⟩ = pure ((p.1.N.take p.1.np).zip us) := fun kV doc pm an cdv ct us hu => by
      rw [← hps]
      rw [← hps] at hu
      exact bind_plain hnd hu
    refine ⟨fd, ⟨_, _, _, _, _, ?_, F, scope_ok (a1 (a1 hb)) hn, hn, a2 (a2 hb), F.bindsN hbind⟩, kp, fun s us hu => F.bindsA hbind s us hu⟩
    show (L.fns[f]?).map (·.1) = some p.1
    rw [hf]; rfl
  · cases hpl
theorem cN_mem (hne : L.cls ≠ []) (c : Nat) : L.cN c ∈ L.cls := by
  unfold LawD.cN
  cases e : L.cls[c]? with
  | some x => exact List.mem_of_getElem? e
  | none =>
    cases q : L.cls with
    | nil => exact absurd q hne
    | cons x xs => simp
theorem lookup_mem : ∀ {l : List (Nat × Nat)} {c f : Nat}, l.lookup c = some f → (c, f) ∈ l
  | [], _, _, h => by cases h
  | (a, b) :: l, c, f, h => by
    rw [List.lookup_cons] at h
    cases e : c == a with
    | true => rw [e] at h; cases h; have := eq_of_beq e; subst this; exact List.mem_cons_self
    | false => rw [e] at h; exact List.mem_cons_of_mem _ (lookup_mem h)
theorem lookup_memS : ∀ {l : List (Str × Int)} {x : Str} {i : Int}, l.lookup x = some i → (x, i) ∈ l
  | [], _, _, h => by cases h
  | (a, b) :: l, x, i, h => by
    rw [List.lookup_cons] at h
    cases e : x == a with
    | true => rw [e] at h; cases h; have := eq_of_beq e; subst this; exact List.mem_cons_self
    | false => rw [e] at h; exact List.mem_cons_of_mem _ (lookup_memS h)
theorem cN_red (c : Nat) : ∃ c', c' < L.cls.length + 1 ∧ L.cN c = L.cN c' := by
  by_cases hc : c < L.cls.length
  · exact ⟨c, by omega, rfl⟩
  · refine ⟨L.cls.length, by omega, ?_⟩
    unfold LawD.cN
    rw [List.getElem?_eq_none (by omega), List.getElem?_eq_none (by omega)]
theorem prg_of (X : K.In h) (G : h.Ns mainGlobals mg) (hd : ∀ p ∈ L.fns, defB L p = true) (hok : L.ok = true) (c : He.SaysD L.fa L.fn K) (hex : L.ex K = true) : Prg K mg (L.tab K) L.gb L.pg := by
  unfold LawD.ok at hok
  have hne : L.cls ≠ [] := fun e => by have := a1 (a1 hok); rw [e] at this; cases this
  have hnd : L.fld.Nodup := of_decide_eq_true (a1 (a2 (a1 hok)))
  have hmf := a2 (a2 (a1 hok))
  have hini := a1 (a2 hok)
  have hmet := a2 (a2 hok)
  have mglo : ∀ x ∈ L.cls, He.Fa.glo x ∈ L.fa := fun x hx => by unfold LawD.fa; simp only [List.mem_append, List.mem_map]; exact .inr (.inl ⟨x, hx, rfl⟩)
  have mcls : ∀ x ∈ L.cls, He.Fa.cls x ∈ L.fa := fun x hx => by unfold LawD.fa; simp only [List.mem_append, List.mem_map]; exact .inr (.inr (.inl ⟨x, hx, rfl⟩))
  have mno : ∀ x ∈ L.cls, ∀ f ∈ L.fld, He.Fa.noat x f ∈ L.fa := fun x hx f hf => by unfold LawD.fa; simp only [List.mem_append, List.mem_map, List.mem_flatMap]; exact .inr (.inr (.inr (.inl ⟨x, hx, f, hf, rfl⟩)))
  have mmk : ∀ p ∈ L.ini, He.Fa.mkr (L.cN p.1) ∈ L.fa := fun p hp => by unfold LawD.fa; simp only [List.mem_append, List.mem_map]; exact .inr (.inr (.inr (.inr (.inl ⟨p, hp, rfl⟩))))
  have mme : ∀ p ∈ L.met, He.Fa.meth (L.cN p.1) ((L.mth[p.2.1]?).getD (Str.ofString "")) ∈ L.fa := fun p hp => by unfold LawD.fa; simp only [List.mem_append, List.mem_map]; exact .inr (.inr (.inr (.inr (.inr (.inl ⟨p, hp, rfl⟩)))))
  have mfr : ∀ x ∈ L.bl, He.Fa.free x ∈ L.fa := fun x hx => by unfold LawD.fa; simp only [List.mem_append, List.mem_map]; exact .inr (.inr (.inr (.inr (.inr (.inr (.inl ⟨x, hx, rfl⟩))))))
  have mint : ∀ x i, (x, i) ∈ L.cst → He.Fa.int x i ∈ L.fa := fun x i hx => by unfold LawD.fa; simp only [List.mem_append, List.mem_map]; exact .inr (.inr (.inr (.inr (.inr (.inr (.inr ⟨(x, i), hx, rfl⟩))))))
  have hcls : ∀ c', Cls K ((L.tab K).C c') := fun c' => He.cls_ok (c.facts (mcls _ (cN_mem hne c')))
  have hb := a1 hex
  have hp := a2 hex
  unfold isiB at hb
  have hg1 : PySem.W.specialIn K (.builtin "object.__class__") "__get__" = some (some (.builtin "getset_descriptor.__get__")) := of_decide_eq_true (a1 (a1 hb))
  have hg2 : PySem.W.takesIn K (.builtin "object.__class__") = some true := of_decide_eq_true (a2 (a1 hb))
  have hall := fun c' => List.all_eq_true.mp (a2 hb) (L.cN c') (cN_mem hne c')
  have fAt : ∀ (f : Nat), f < L.fld.length → (L.tab K).f f ∈ L.fld ∧ L.fld[f]? = some ((L.tab K).f f) := fun f hf => by
    have : L.fld[f]? = some L.fld[f] := List.getElem?_eq_getElem hf
    have e : (L.tab K).f f = L.fld[f] := by show (L.fld[f]?).getD _ = _; rw [this]; rfl
    rw [e]
    exact ⟨List.getElem_mem hf, this⟩
  exact {
    hK := rfl
    tab := ⟨hcls, fun c' f hf => He.noat_ok (c.facts (mno _ (cN_mem hne c') _ (fAt f hf).1)), fun f g hf hg e => nodup_ix hnd (fAt f hf).2 (by rw [e]; exact (fAt g hg).2)⟩
    isi := {
      ins := fun c' => ⟨hcls c', of_decide_eq_true (a1 (a1 (hall c'))), hg1, hg2, of_decide_eq_true (a1 (a2 (a1 (hall c')))), of_decide_eq_true (a2 (a2 (a1 (hall c'))))⟩
      tb := fun c' t ht => by
        have := List.all_eq_true.mp (a1 (a2 (hall c')))
        cases t with
        | cls _ => cases ht
        | int => exact of_decide_eq_true (this "int" (by simp))
        | bool => exact of_decide_eq_true (this "bool" (by simp))
        | str => exact of_decide_eq_true (this "str" (by simp))
        | tuple => exact of_decide_eq_true (this "tuple" (by simp))
        | list => exact of_decide_eq_true (this "list" (by simp))
        | dict => exact of_decide_eq_true (this "dict" (by simp))
      tc := fun c1 c2 => by
        obtain ⟨d1, l1, e1⟩ := cN_red (L := L) c1
        obtain ⟨d2, l2, e2⟩ := cN_red (L := L) c2
        have := List.all_eq_true.mp hp d1 (List.mem_range.mpr l1)
        have := List.all_eq_true.mp this d2 (List.mem_range.mpr l2)
        have := of_decide_eq_true this
        have es : L.sub c1 c2 = L.sub d1 d2 := by unfold LawD.sub; rw [e1, e2]
        show PySem.W.kitOne K (.ref (He.ga K (L.cN c1))) (.ref (He.ga K (L.cN c2))) = some (L.sub c1 c2)
        rw [e1, e2, es]
        exact this
      bc := fun t ht c' => of_decide_eq_true (List.all_eq_true.mp (a2 (a2 (hall c'))) t ht) }
    fns := fun f x hx => by
      have hx : (match L.fns[f]? with
        | some (_, d) => match d.at_ with
          | (x, none) => some x
          | _ => none
        | none => none) = some x := hx
      cases e : L.fns[f]? with
      | none => rw [e] at hx; cases hx
      | some p =>
        obtain ⟨p1, p2⟩ := p
        rw [e] at hx
        simp only at hx
        split at hx
        · rename_i y hy
          cases hx
          obtain ⟨fd, q1, q2, _⟩ := fnX_of hd c e
          rw [hy] at q1 q2
          refine ⟨He.ga K x, He.glo_ok X G (c.facts ?_), q2, fd, _, q1⟩
          unfold LawD.fa
          refine List.mem_append_left _ (List.mem_filterMap.mpr ⟨(p1, p2), List.mem_of_getElem? e, ?_⟩)
          simp only [hy]
        · cases hx
    cls := fun c' x hx => by
      have hx : (if (L.ini.lookup c').isSome then L.cls[c']? else none) = some x := hx
      split at hx
      · rename_i hs
        obtain ⟨f, hf⟩ := Option.isSome_iff_exists.mp hs
        have hm : (c', f) ∈ L.ini := lookup_mem hf
        have hc := List.all_eq_true.mp hini _ hm
        have h2 := a2 hc
        have ex : L.cN c' = x := by unfold LawD.cN; rw [hx]; rfl
        cases e : L.fns[f]? with
        | none => simp only [e] at h2; cases h2
        | some p =>
          obtain ⟨p1, p2⟩ := p
          simp only [e] at h2
          have hat := of_decide_eq_true h2
          obtain ⟨fd, q1, q2, _⟩ := fnX_of hd c e
          rw [hat] at q1
          have q1 : FnX K L.gb L.pg f (He.ma K (He.ga K (L.cN c')) "__init__") fd p1 := q1
          refine ⟨?_, f, He.ma K (He.ga K (L.cN c')) "__init__", hf, He.mkr_ok (c.facts (mmk _ hm)), fd, _, q1⟩
          show mg x = some (.ref (He.ga K (L.cN c')))
          rw [ex]
          exact He.glo_ok X G (c.facts (mglo x (List.mem_of_getElem? hx)))
      · cases hx
    meth := fun c' m f hf => by
      have hf : met3 c' m L.met = some f := hf
      have hm : (c', m, f) ∈ L.met := by
        revert hf
        induction L.met with
        | nil => intro hf; cases hf
        | cons q r ih =>
          intro hf
          obtain ⟨c2, m2, f2⟩ := q
          unfold met3 at hf
          split at hf
          · rename_i hq; cases hf; obtain ⟨rfl, rfl⟩ := hq; exact List.mem_cons_self
          · exact List.mem_cons_of_mem _ (ih hf)
      have hc := List.all_eq_true.mp hmet _ hm
      cases e : L.fns[f]? with
      | none => simp only [e] at hc; cases hc
      | some p =>
        obtain ⟨p1, p2⟩ := p
        simp only [e] at hc
        have hat := of_decide_eq_true hc
        obtain ⟨fd, q1, q2, _⟩ := fnX_of hd c e
        rw [hat] at q1
        have q1 : FnX K L.gb L.pg f (He.ma K (He.ga K (L.cN c')) ((L.mth[m]?).getD (Str.ofString ""))) fd p1 := q1
        exact ⟨He.ma K (He.ga K (L.cN c')) ((L.mth[m]?).getD (Str.ofString "")), He.meth_ok (c.facts (mme _ hm)), fd, _, q1⟩
    mNf := fun m hm f hf e => by
      have h1 : L.mth[m]? = some L.mth[m] := List.getElem?_eq_getElem hm
      have e1 : L.gb.mN m = L.mth[m] := by show (L.mth[m]?).getD _ = _; rw [h1]; rfl
      have h3 := of_decide_eq_true (List.all_eq_true.mp hmf _ (List.getElem_mem hm))
      have h2 := (fAt f hf).1
      rw [e, e1] at h2
      exact h3 h2
    blt := fun x hx => He.free_ok X G (c.facts (mfr x hx))
    gls := fun x a hx => by
      have hx : (L.cst.lookup x).map At.int = some a := hx
      cases e : L.cst.lookup x with
      | none => rw [e] at hx; cases hx
      | some i =>
        rw [e] at hx
        cases hx
        obtain ⟨t, ht⟩ := He.int_ok X G (c.facts (mint x i (lookup_memS e)))
        exact ⟨_, ht, ⟨t, rfl⟩⟩
    nf := rfl
    fN := rfl }
end
end Ev

set_option Elab.async false
set_option linter.all false
set_option maxRecDepth 100000
set_option maxHeartbeats 16000000
namespace Ev
open PySem PySem.Spec L2

/-! ## the law -/
def scrD (ns : List Int) : D := .nd .scr false (ns.map D.int)
def spLaw (T : Tab) (C : Calls) (f : Nat) : Sp := fun vs H Q _ => spD T C f vs H Q fun _ _ _ => False
theorem law_conv {P : Program} {w : World} {K : PySem.W.Frag} {mg : Str → Option Value} {base : Heap} {T : Tab} {C : Calls} {k f : Nat} {fa : Addr} {fd : FuncData} {ps : List Str} (F : FnOk P w K mg base (L2.CX P w) k fa fd ps (spD T C f)) : FnOk P w K mg base CX0 k fa fd ps (spLaw T C f) :=
  ⟨fun vs H Q E h => F.len vs H Q _ h, fun A outer s H args us vs Q E hr he hb hv hs => codeAny_mono (F.run A outer s H args us vs Q _ hr he hb hv hs) fun r s' h => by
    cases r with
    | ok fl => cases fl <;> exact h
    | error e =>
      obtain ⟨_, _, _, _, _, _, _, _, _, _, _, _, z⟩ := h
      exact z⟩
theorem script_rep {K : PySem.W.Frag} {H : Hp} {a : Addr} {ns : List Int} (L : LawD) (h : SqL K H a (ns.map V.int)) : Rep (L.tab K) H (fun b => H b ≠ none) (scrD ns) (.ref a) [] := by
  refine ⟨a, ns.map V.int, [], rfl, ?_, repL_ints ns, rfl, rfl⟩
  rcases h with (h | ⟨o, h⟩) | h
  · exact .inl ⟨.inr (by show H a ≠ none; rw [h]; simp), _, h, rfl⟩
  · exact .inr (.inl ⟨rfl, by show H a ≠ none; rw [h]; simp, o, _, h, rfl⟩)
  · exact .inr (.inr h)
theorem law_F {P : Program} {w : World} {K : PySem.W.Frag} {h : Heap} {mg : Str → Option Value} {L : LawD} {f0 n m : Nat} {fa : Addr} {d0 : FnD} {dd : He.DefD} {x0 : Str} (X : K.In h) (G : h.Ns mainGlobals mg) (hd : ∀ p ∈ L.fns, defB L p = true) (hok : L.ok = true) (c : He.SaysD L.fa L.fn K) (hex : L.ex K = true)
    (hmg : mg ("law" : Str) = some (.ref fa)) (hf : L.fns[f0]? = some (d0, dd)) (hat : dd.at_ = (("law" : Str), none)) (hps : d0.N.take d0.np = [x0])
    (hev : ∀ ns : List Int, ns.length ≤ m → (dcall L.pg n).call f0 [false] [scrD ns] = .ok (D.bl true) []) :
    ∃ (K : PySem.W.Frag) (fd : FuncData) (sp : Sp), K.In h ∧ (∀ (s : Shared) (u : Value), BindsTo s fd ⟨[u], []⟩ [(x0, u)]) ∧
        (∀ (H : Hp) (a : Addr) (ns : List Int), ns.length ≤ m → Only H → SqL K H a (ns.map V.int) → sp [.ref a] H (fun v _ => v = .bl true) fun _ _ _ => False) ∧
        ∀ base : Heap, K.In base → base.Ns mainGlobals mg → FnOk P w K mg base CX0 (2 * n) fa fd [x0] sp := by
  have g := prg_of X G hd hok c hex
  obtain ⟨fd, q1, q2, q3⟩ := fnX_of hd c hf
  have hglo : mg ("law" : Str) = some (.ref (He.ga K "law")) := by
    obtain ⟨fb, e1, _⟩ := g.fns f0 "law" (by
      show (match L.fns[f0]? with
        | some (_, d) => match d.at_ with
          | (x, none) => some x
          | _ => none
        | none => none) = _
      rw [hf]
      simp only [hat])
    refine He.glo_ok X G (c.facts ?_)
    unfold LawD.fa
    refine List.mem_append_left _ (List.mem_filterMap.mpr ⟨(d0, dd), List.mem_of_getElem? hf, ?_⟩)
    simp only [hat]
  have efa : fa = He.fAd K dd.at_ := by
    rw [hat]
    rw [hmg] at hglo
    have := Option.some.inj hglo
    injection this
  subst efa
  refine ⟨K, fd, spLaw (L.tab K) (dcall L.pg n) f0, X, fun s u => ?_, fun H a ns hl hO hS => ?_, fun base hb1 hb2 => ?_⟩
  · have := q3 s [u] (by rw [hps]; rfl)
    rw [hps] at this
    exact this
  · refine ⟨fun b => H b ≠ none, [], [scrD ns], [false], ⟨List.nodup_nil, by simp, by simp, fun a h => h⟩, ⟨.ref a, [], [], [], rfl, rfl, script_rep L hS, rfl, rfl⟩, ?_⟩
    rw [hev ns hl]
    intro v H' fz' F' G' _ _ rv
    exact rv.1
  · have := law_conv (fn_soundX (P := P) (w := w) (base := base) g n f0 _ fd d0 q1).1
    rw [hps] at this
    exact this
end Ev

set_option Elab.async false
set_option linter.all false
set_option maxRecDepth 100000
set_option maxHeartbeats 4000000
/-! the evaluator's equations, for simp -/
namespace Ev
open PySem PySem.Spec L2
def R.bnd {α β : Type} (r : R α) (f : α → M β) : R β := match r with
  | .ok a ρ => f a ρ
  | .ex x ρ => .ex x ρ
  | .unk => .unk
def R.fn (r : R D) (p : Bool) : R D := match r with
  | .ok d ρ => .ok (match p with | true => d.frz | false => d) ρ
  | .ex x ρ => .ex x ρ
  | .unk => .unk
def R.st {α : Type} (r : R α) (k : α → Env → Fl) : Fl := match r with
  | .ok d ρ => k d ρ
  | .ex x ρ => .ex x ρ
  | .unk => .unk
def slo (p : Bool) (o : Option (Option D)) (ρ : Env) : R D := match o with
  | some (some d) => plc p d ρ
  | _ => .unk
section
variable {α β : Type} {C : Calls} {ρ : Env} {p : Bool}
@[simp] theorem z_bind (m : M α) (f : α → M β) : M.bind m f ρ = (m ρ).bnd f := id rfl
@[simp] theorem z_bok (a : α) (f : α → M β) : (R.ok a ρ).bnd f = f a ρ := id rfl
@[simp] theorem z_pure (a : α) : M.pure a ρ = .ok a ρ := id rfl
@[simp] theorem z_some (a : α) : M.lift (some a) ρ = .ok a ρ := id rfl
@[simp] theorem z_chk (m : M α) : M.chk true m ρ = m ρ := id rfl
@[simp] theorem z_fin (m : M D) : fin p m ρ = (m ρ).fn p := id rfl
@[simp] theorem z_fnF (d : D) : (R.ok d ρ).fn false = .ok d ρ := id rfl
@[simp] theorem z_fnT (d : D) : (R.ok d ρ).fn true = .ok d.frz ρ := id rfl
@[simp] theorem z_frzA (a : At) : (D.at a).frz = .at a := id rfl
@[simp] theorem z_clA (a : At) : (D.at a).clean = true := id rfl
@[simp] theorem z_plcT (d : D) : plc true d ρ = .ok d ρ := id rfl
@[simp] theorem z_plcF {d : D} (h : d.clean = true) : plc false d ρ = .ok d ρ := by
  show M.chk (false || d.clean) (M.pure d) ρ = _
  rw [h]; rfl
@[simp] theorem z_plcA (p : Bool) (a : At) : plc p (.at a) ρ = .ok (.at a) ρ := by cases p <;> rfl
@[simp] theorem z_slo (d : D) : slo p (some (some d)) ρ = plc p d ρ := id rfl
@[simp] theorem z_cn (a : At) : ev C p (.cn a) ρ = .ok (.at a) ρ := id rfl
@[simp] theorem z_gl (a : At) : ev C p (.gl a) ρ = .ok (.at a) ρ := id rfl
@[simp] theorem z_var (i : Nat) : ev C p (.var i) ρ = slo p ρ[i]? ρ := id rfl
@[simp] theorem z_un (o : UO) (a : E) : ev C p (.un o a) ρ = ((ev C true a ρ).bnd fun x => M.lift (unD o x)).fn p := id rfl
@[simp] theorem z_bin (o : BO) (a b : E) : ev C p (.bin o a b) ρ = ((ev C true a ρ).bnd fun x => M.bind (ev C true b) fun y => M.chk (x.clean || nm b) (M.lift (binD o x y))).fn p := id rfl
@[simp] theorem z_cmp (o : CO) (a b : E) : ev C p (.cmp o a b) ρ = ((ev C true a ρ).bnd fun x => M.bind (ev C true b) fun y => M.chk (x.clean || nm b) (M.lift ((cmpD o x y).map D.bl))).fn p := id rfl
def chn2 (C : Calls) (o2 : CO) (c : E) (y : D) : Bool → M D
  | true => M.bind (ev C true c) fun z => M.lift ((cmpD o2 y z).map D.bl)
  | false => M.pure (D.bl false)
@[simp] theorem z_chn (o1 o2 : CO) (a b c : E) : ev C p (.chn o1 o2 a b c) ρ = ((ev C true a ρ).bnd fun x => M.bind (ev C true b) fun y => M.chk (x.clean && y.clean) (M.bind (M.lift (cmpD o1 x y)) (chn2 C o2 c y))).fn p := id rfl
@[simp] theorem z_chnT (o2 : CO) (c : E) (y : D) : chn2 C o2 c y true = M.bind (ev C true c) fun z => M.lift ((cmpD o2 y z).map D.bl) := id rfl
@[simp] theorem z_chnF (o2 : CO) (c : E) (y : D) : chn2 C o2 c y false = M.pure (D.bl false) := id rfl
def zAnd (C : Calls) (b : E) (x : D) : M D := match x with
  | .at (.bl true) => ev C false b
  | .at (.bl false) => M.pure (D.bl false)
  | _ => fun _ => .unk
def zOr (C : Calls) (b : E) (x : D) : M D := match x with
  | .at (.bl false) => ev C false b
  | .at (.bl true) => M.pure (D.bl true)
  | _ => fun _ => .unk
def zNot (x : D) : M D := match x with
  | .at (.bl b) => M.pure (D.bl (!b))
  | _ => fun _ => .unk
def zIf (C : Calls) (a b : E) (x : D) : M D := match x with
  | .at (.bl true) => ev C false a
  | .at (.bl false) => ev C false b
  | _ => fun _ => .unk
@[simp] theorem z_and (a b : E) : ev C p (.and_ a b) ρ = ((ev C true a ρ).bnd (zAnd C b)).fn p := id rfl
@[simp] theorem z_andT (b : E) : zAnd C b (.at (.bl true)) = ev C false b := id rfl
@[simp] theorem z_andF (b : E) : zAnd C b (.at (.bl false)) = M.pure (D.bl false) := id rfl
@[simp] theorem z_or (a b : E) : ev C p (.or_ a b) ρ = ((ev C true a ρ).bnd (zOr C b)).fn p := id rfl
@[simp] theorem z_orT (b : E) : zOr C b (.at (.bl true)) = M.pure (D.bl true) := id rfl
@[simp] theorem z_orF (b : E) : zOr C b (.at (.bl false)) = ev C false b := id rfl
@[simp] theorem z_not (a : E) : ev C p (.not_ a) ρ = ((ev C true a ρ).bnd zNot).fn p := id rfl
@[simp] theorem z_notB (b : Bool) : zNot (.at (.bl b)) = M.pure (.at (.bl (!b))) := id rfl
@[simp] theorem z_ife (c a b : E) : ev C p (.ife c a b) ρ = ((ev C true c ρ).bnd (zIf C a b)).fn p := id rfl
@[simp] theorem z_ifT (a b : E) : zIf C a b (.at (.bl true)) = ev C false a := id rfl
@[simp] theorem z_ifF (a b : E) : zIf C a b (.at (.bl false)) = ev C false b := id rfl
@[simp] theorem z_tup (es : List E) : ev C p (.tup es) ρ = ((evs C es ρ).bnd fun xs => M.chk (lineB xs.length) (M.pure (D.tup xs))).fn p := id rfl
@[simp] theorem z_lst (es : List E) : ev C p (.lst es) ρ = ((evs C es ρ).bnd fun xs => M.chk (lineB xs.length) (M.pure (D.lst true xs))).fn p := id rfl
@[simp] theorem z_idx (a i : E) : ev C p (.idx a i) ρ = (ev C true a ρ).bnd fun x => M.bind (ev C true i) fun j => M.chk (x.clean || nm i) (M.bind (M.lift (idxD x j)) fun d => plc p d) := id rfl
@[simp] theorem z_fld (a : E) (f : Nat) : ev C p (.fld a f) ρ = (ev C true a ρ).bnd fun x => M.bind (M.lift (fldD f x)) fun d => plc p d := id rfl
@[simp] theorem z_b1 (o : B1) (a : E) : ev C p (.b1 o a) ρ = ((ev C true a ρ).bnd fun x => M.lift (b1D o x)).fn p := id rfl
@[simp] theorem z_b2 (o : B2) (a b : E) : ev C p (.b2 o a b) ρ = ((ev C true a ρ).bnd fun x => M.bind (ev C true b) fun y => M.chk (x.clean || nm b) (M.lift (b2D o x y))).fn p := id rfl
@[simp] theorem z_isi (a : E) (t : List Ty) : ev C p (.isi a t) ρ = ((ev C true a ρ).bnd fun x => M.lift (isiO C.sub t x)).fn p := id rfl
@[simp] theorem z_rev (a : E) : ev C p (.rev a) ρ = ((ev C true a ρ).bnd fun x => M.lift (revD x)).fn p := id rfl
@[simp] theorem z_slc (a : E) (lo hi : List E) : ev C p (.slc a lo hi) ρ = ((ev C true a ρ).bnd fun x => M.bind (evs C lo) fun l => M.bind (M.lift (partOf l)) fun l' => M.bind (evs C hi) fun h => M.bind (M.lift (partOf h)) fun h' => M.chk (x.clean || (nmL lo && nmL hi)) (M.lift (slcD x l' h'))).fn p := id rfl
@[simp] theorem z_call (f : Nat) (es : List E) : ev C p (.call f es) ρ = ((evA C es ρ).bnd fun ds => callM C f es ds).fn p := id rfl
@[simp] theorem z_lc (own tg : List Nat) (one : Bool) (sk : SK) (src cond : List E) (elt : E) : ev C p (.lc own tg one sk src cond elt) ρ = (lcE own tg one sk (evP C src) (evC C cond) (ev C false elt) (nmL cond && nm elt) ρ).fn p := id rfl
@[simp] theorem z_evs0 : evs C [] ρ = .ok [] ρ := id rfl
@[simp] theorem z_evs1 (e : E) (es : List E) : evs C (e :: es) ρ = (ev C false e ρ).bnd fun x => M.bind (evs C es) fun xs => M.pure (x :: xs) := id rfl
@[simp] theorem z_evP0 : evP C [] ρ = .ok [] ρ := id rfl
@[simp] theorem z_evP1 (e : E) (es : List E) : evP C (e :: es) ρ = (ev C true e ρ).bnd fun x => M.bind (evP C es) fun xs => M.chk (x.clean || nmL es) (M.pure (x :: xs)) := id rfl
/-- an argument -/
def argM (C : Calls) (e : E) (es : List E) : Option Nat → M (List D)
  | some i => fun ρ => match ρ[i]? with
      | some (some _) => M.bind (evA C es) (fun xs => M.pure (D.non :: xs)) ρ
      | _ => .unk
  | none => M.bind (ev C false e) fun x => M.bind (evA C es) fun xs => M.pure (x.frz :: xs)
@[simp] theorem z_evA0 : evA C [] ρ = .ok [] ρ := id rfl
@[simp] theorem z_evA1 (e : E) (es : List E) : evA C (e :: es) ρ = argM C e es (rfOf e) ρ := by
  unfold argM
  cases h : rfOf e with
  | none => simp only [evA, h]
  | some i =>
    simp only [evA, h]
    all_goals (rcases ρ[i]? with _ | _ | _ <;> rfl)
@[simp] theorem z_argN (e : E) (es : List E) : argM C e es none ρ = (ev C false e ρ).bnd fun x => M.bind (evA C es) fun xs => M.pure (x.frz :: xs) := id rfl
/-! calls -/
def callR (es : List E) (ρ : Env) (c : CR) : R D := match c with
    | .ok d rs => if rs.length = (rfs es).length then .ok d (putR es rs ρ) else .unk
    | .ex x rs => if rs.length = (rfs es).length then .ex x (putR es rs ρ) else .unk
    | .unk => .unk
def callG (C : Calls) (f : Nat) (es : List E) (ρ : Env) : Bool → Option (List D) → R D
  | true, some ds' => callR es ρ (C.call f (es.map isRf) ds')
  | _, _ => .unk
@[simp] theorem z_callM {f : Nat} {es : List E} {ds : List D} : callM C f es ds ρ = callG C f es ρ (decide (rfs es).Nodup) (fillR es ds ρ) := by
  unfold callM callG callR
  cases decide (rfs es).Nodup with
  | false => rfl
  | true => cases fillR es ds ρ <;> rfl
@[simp] theorem z_callG {f : Nat} {es : List E} {ds' : List D} : callG C f es ρ true (some ds') = callR es ρ (C.call f (es.map isRf) ds') := id rfl
@[simp] theorem z_callR {es : List E} {d : D} {rs : List D} (h : rs.length = (rfs es).length) : callR es ρ (.ok d rs) = .ok d (putR es rs ρ) := if_pos h
def consN (xs : List Nat) : Option Nat → List Nat
  | some i => i :: xs
  | none => xs
@[simp] theorem f_nil : rfs [] = [] := id rfl
@[simp] theorem f_cons (e : E) (es : List E) : rfs (e :: es) = consN (rfs es) (rfOf e) := by
  unfold rfs
  rw [List.filterMap_cons]
  cases rfOf e <;> rfl
@[simp] theorem f_none (xs : List Nat) : consN xs none = xs := id rfl
@[simp] theorem f_some (xs : List Nat) (i : Nat) : consN xs (some i) = i :: xs := id rfl
/-! statements -/
variable {A : List Nat} {fu : Nat}
@[simp] theorem s_nil : exL C A fu [] ρ = .nx ρ := id rfl
@[simp] theorem s_cons (x : S) (xs : List S) : exL C A fu (x :: xs) ρ = seqS (exS C A fu x ρ) (exL C A fu xs) := id rfl
@[simp] theorem s_nx (k : Env → Fl) : seqS (.nx ρ) k = k ρ := id rfl
@[simp] theorem s_rt (d : D) (k : Env → Fl) : seqS (.rt d ρ) k = .rt d ρ := id rfl
@[simp] theorem s_bk (k : Env → Fl) : seqS (.bk ρ) k = .bk ρ := id rfl
@[simp] theorem s_ct (k : Env → Fl) : seqS (.ct ρ) k = .ct ρ := id rfl
@[simp] theorem s_st {α : Type} (m : M α) (k : α → Env → Fl) : stS m k ρ = (m ρ).st k := id rfl
@[simp] theorem s_ok {α : Type} (a : α) (k : α → Env → Fl) : (R.ok a ρ).st k = k a ρ := id rfl
@[simp] theorem s_e (e : E) : exS C A fu (.e e) ρ = (ev C false e ρ).st fun _ ρ => .nx ρ := id rfl
@[simp] theorem s_set (i : Nat) (e : E) : exS C A fu (.set i e) ρ = (ev C false e ρ).st fun d ρ => setS A i d ρ := id rfl
@[simp] theorem s_setF (i : Nat) (e : E) : exS C A fu (.setF i e) ρ = (ev C false e ρ).st fun d ρ => setS A i d.frz ρ := id rfl
@[simp] theorem s_unp (is : List Nat) (e : E) : exS C A fu (.unp is e) ρ = (ev C false e ρ).st fun d ρ => unpS A is d ρ := id rfl
@[simp] theorem s_ret (e : E) : exS C A fu (.ret e) ρ = (ev C false e ρ).st fun d ρ => .rt d ρ := id rfl
@[simp] theorem s_rtn : exS C A fu .rtn ρ = .rt D.non ρ := id rfl
@[simp] theorem s_brk : exS C A fu .brk ρ = .bk ρ := id rfl
@[simp] theorem s_cnt : exS C A fu .cnt ρ = .ct ρ := id rfl
@[simp] theorem s_pas : exS C A fu .pas ρ = .nx ρ := id rfl
def zS (C : Calls) (A : List Nat) (fu : Nat) (a b : List S) : Bool → Env → Fl
  | true => exL C A fu a
  | false => exL C A fu b
@[simp] theorem s_if (c : E) (a b : List S) : exS C A fu (.if_ c a b) ρ = (tst (ev C true c) ρ).st (zS C A fu a b) := by
  show stS (tst (ev C true c)) _ ρ = _
  unfold stS R.st
  cases tst (ev C true c) ρ with
  | ok q ρ' => cases q <;> rfl
  | ex x ρ' => rfl
  | unk => rfl
@[simp] theorem s_ifT (a b : List S) : zS C A fu a b true ρ = exL C A fu a ρ := id rfl
@[simp] theorem s_ifF (a b : List S) : zS C A fu a b false ρ = exL C A fu b ρ := id rfl
@[simp] theorem s_setS {i : Nat} {d : D} (h : (decide (i ∈ A) && decide (i < ρ.length)) = true) : setS A i d ρ = .nx (ρ.set i (some d)) := if_pos h
theorem dcall_succ (P : Prog) (n f : Nat) (bs : List Bool) (ds : List D) {fd : FnD} (h : P.fs f = some fd) (h2 : (decide (ds.length = fd.np) && (decide (bs.length = fd.np) && refsOk fd.A 0 bs)) = true) : (dcall P (n+1)).call f bs ds = retC bs (exL (dcall P n) fd.A P.fu fd.body (env0 fd.N.length ds)) := by
  show (match P.fs f with
    | some fd => if decide (ds.length = fd.np) && (decide (bs.length = fd.np) && refsOk fd.A 0 bs) then retC bs (exL (dcall P n) fd.A P.fu fd.body (env0 fd.N.length ds)) else .unk
    | none => .unk) = _
  rw [h]
  simp only [h2, if_true]
def retO (d : D) : Option (List D) → CR
  | some rs => .ok d rs
  | none => .unk
@[simp] theorem r_rt (bs : List Bool) (d : D) : retC bs (.rt d ρ) = retO d (refsAt bs ρ) := by
  show (match refsAt bs ρ with
    | some rs => CR.ok d rs
    | none => .unk) = _
  cases refsAt bs ρ <;> rfl
@[simp] theorem r_nx (bs : List Bool) : retC bs (.nx ρ) = retO D.non (refsAt bs ρ) := by
  show (match refsAt bs ρ with
    | some rs => CR.ok D.non rs
    | none => .unk) = _
  cases refsAt bs ρ <;> rfl
@[simp] theorem r_some (d : D) (rs : List D) : retO d (some rs) = .ok d rs := id rfl
def tstB (x : D) : M Bool := match x with
  | .at (.bl b) => M.pure b
  | .at (.int i) => M.pure (i != 0)
  | _ => fun _ => .unk
@[simp] theorem z_tst (m : M D) : tst m ρ = (m ρ).bnd tstB := id rfl
@[simp] theorem z_tstI (i : Int) : tstB (.at (.int i)) = M.pure (i != 0) := id rfl
@[simp] theorem z_tstB (b : Bool) : tstB (.at (.bl b)) = M.pure b := id rfl
/-! primitives -/
variable {i j : Int}
@[simp] theorem c_lt : cmpD .lt (.at (.int i)) (.at (.int j)) = some (decide (i < j)) := id rfl
@[simp] theorem c_le : cmpD .le (.at (.int i)) (.at (.int j)) = some (decide (i ≤ j)) := id rfl
@[simp] theorem c_gt : cmpD .gt (.at (.int i)) (.at (.int j)) = some (decide (j < i)) := id rfl
@[simp] theorem c_ge : cmpD .ge (.at (.int i)) (.at (.int j)) = some (decide (j ≤ i)) := id rfl
@[simp] theorem c_eq : cmpD .eq (.at (.int i)) (.at (.int j)) = some (i == j) := id rfl
@[simp] theorem c_ne : cmpD .ne (.at (.int i)) (.at (.int j)) = some (!(i == j)) := id rfl
@[simp] theorem b_add : binD .add (.at (.int i)) (.at (.int j)) = some (.at (.int (i + j))) := id rfl
@[simp] theorem b_sub : binD .sub (.at (.int i)) (.at (.int j)) = some (.at (.int (i - j))) := id rfl
end
end Ev

set_option Elab.async false
set_option linter.all false
set_option maxRecDepth 100000
set_option maxHeartbeats 4000000
/-! comprehensions that change nothing -/
namespace Ev
open PySem PySem.Spec L2
theorem consO_fm {α β : Type} (g : α → Option β) (x : α) (xs : List α) : consO (g x) (xs.filterMap g) = (x :: xs).filterMap g := by
  rw [List.filterMap_cons]
  cases g x <;> rfl
theorem lcL_pure {turn : D → M (Option D)} {g : D → Option D} {ρ : Env} : ∀ {xs : List D}, (∀ x ∈ xs, turn x ρ = .ok (g x) ρ) → lcL turn xs ρ = .ok (xs.filterMap g) ρ
  | [], _ => rfl
  | x :: xs, h => by
    show M.bind (turn x) (fun r => M.bind (lcL turn xs) fun rs => M.pure (consO r rs)) ρ = _
    rw [z_bind, h x List.mem_cons_self, z_bok, z_bind, lcL_pure fun y hy => h y (List.mem_cons_of_mem _ hy), z_bok, ← consO_fm]
    rfl
/-- a comprehension that changes nothing, its turns by g -/
theorem lcE_pure {own tg : List Nat} {one : Bool} {sk : SK} {ms : M (List D)} {mc : M Bool} {me : M D} {ρ : Env} {ss xs : List D} (g : D → Option D) (hms : ms ρ = .ok ss ρ) (hi : itemsD sk ss = some xs) (cl : D.cleanL xs = true)
    (ht : ∀ x ∈ xs, lcT own tg one mc me true x (wipeE ρ own) = .ok (g x) (wipeE ρ own)) (hl : (xs.filterMap g).length ≤ sizeLine) : lcE own tg one sk ms mc me true ρ = .ok (D.lst true (xs.filterMap g)) ρ := by
  unfold lcE
  rw [z_bind, hms, z_bok]
  simp only [hi, cl, Bool.or_true, Bool.and_true]
  rw [lcL_pure ht]
  show (if decide ((xs.filterMap g).length ≤ sizeLine) = true then _ else _) = _
  rw [if_pos (decide_eq_true hl)]
  rfl
/-- one turn -/
def lcG (ρ : Env) (own : List Nat) (nn : Bool) (mc : M Bool) (me : M D) : Option Env → R (Option D)
  | some ρ1 => match mc ρ1 with
    | .ok true ρ2 => match me ρ2 with
      | .ok d ρ3 => .ok (some d) (sel nn ρ (wipeE ρ3 own))
      | _ => .unk
    | .ok false ρ2 => .ok none (sel nn ρ (wipeE ρ2 own))
    | _ => .unk
  | none => .unk
theorem z_lcT {own tg : List Nat} {one nn : Bool} {mc : M Bool} {me : M D} {x : D} {ρ : Env} : lcT own tg one mc me nn x ρ = lcG ρ own nn mc me (asnD tg one x ρ) := id rfl
theorem lcT_yes {own tg : List Nat} {one : Bool} {mc : M Bool} {me : M D} {x d : D} {ρ ρ1 ρ2 ρ3 : Env} (h1 : asnD tg one x ρ = some ρ1) (h2 : mc ρ1 = .ok true ρ2) (h3 : me ρ2 = .ok d ρ3) : lcT own tg one mc me true x ρ = .ok (some d) ρ := by
  unfold lcT
  simp only [h1, h2, h3, sel]
theorem lcT_no {own tg : List Nat} {one : Bool} {mc : M Bool} {me : M D} {x : D} {ρ ρ1 ρ2 : Env} (h1 : asnD tg one x ρ = some ρ1) (h2 : mc ρ1 = .ok false ρ2) : lcT own tg one mc me true x ρ = .ok none ρ := by
  unfold lcT
  simp only [h1, h2, sel]
/-- with no test: all that is told -/
theorem lcE_map {own tg : List Nat} {one : Bool} {sk : SK} {ms : M (List D)} {me : M D} {C : Calls} {ρ : Env} {ss xs : List D} (g : D → D) (hms : ms ρ = .ok ss ρ) (hi : itemsD sk ss = some xs) (cl : D.cleanL xs = true)
    (ht : ∀ x ∈ xs, ∃ ρ1, asnD tg one x (wipeE ρ own) = some ρ1 ∧ ∃ ρ2, me ρ1 = .ok (g x) ρ2) (hl : xs.length ≤ sizeLine) : lcE own tg one sk ms (evC C []) me true ρ = .ok (D.lst true (xs.map g)) ρ := by
  have e : xs.map g = xs.filterMap fun x => some (g x) := by rw [List.filterMap_eq_map']
  rw [e]
  refine lcE_pure _ hms hi cl (fun x hx => ?_) (by rw [← e, List.length_map]; exact hl)
  obtain ⟨ρ1, h1, ρ2, h2⟩ := ht x hx
  exact lcT_yes h1 rfl h2
/-- with a test -/
theorem lcE_filter {own tg : List Nat} {one : Bool} {sk : SK} {ms : M (List D)} {me : M D} {mc : M Bool} {ρ : Env} {ss xs : List D} (c : D → Bool) (g : D → D) (hms : ms ρ = .ok ss ρ) (hi : itemsD sk ss = some xs) (cl : D.cleanL xs = true)
    (ht : ∀ x ∈ xs, ∃ ρ1, asnD tg one x (wipeE ρ own) = some ρ1 ∧ ∃ ρ2, mc ρ1 = .ok (c x) ρ2 ∧ (c x = true → ∃ ρ3, me ρ2 = .ok (g x) ρ3)) (hl : xs.length ≤ sizeLine) : lcE own tg one sk ms mc me true ρ = .ok (D.lst true ((xs.filter c).map g)) ρ := by
  have e : ∀ xs : List D, (xs.filter c).map g = xs.filterMap fun x => if c x then some (g x) else none := by
    intro xs
    induction xs with
    | nil => rfl
    | cons x xs ih =>
      rw [List.filterMap_cons, List.filter_cons]
      cases h : c x with
      | true => simp [ih]
      | false => simp [ih]
  rw [e]
  refine lcE_pure _ hms hi cl (fun x hx => ?_) ?_
  · obtain ⟨ρ1, h1, ρ2, h2, h3⟩ := ht x hx
    cases h : c x with
    | true =>
      obtain ⟨ρ3, h4⟩ := h3 h
      rw [h] at h2
      rw [if_pos rfl]
      exact lcT_yes h1 h2 h4
    | false =>
      rw [h] at h2
      rw [if_neg Bool.false_ne_true]
      exact lcT_no h1 h2
  · exact Nat.le_trans (List.length_filterMap_le _ _) hl
theorem lcE_mapI {α : Type} {own tg : List Nat} {one : Bool} {sk : SK} {ms : M (List D)} {me : M D} {C : Calls} {ρ : Env} {ss : List D} (ys : List α) (f g : α → D) (hms : ms ρ = .ok ss ρ) (hi : itemsD sk ss = some (ys.map f)) (cl : D.cleanL (ys.map f) = true)
    (ht : ∀ y ∈ ys, ∃ ρ1, asnD tg one (f y) (wipeE ρ own) = some ρ1 ∧ ∃ ρ2, me ρ1 = .ok (g y) ρ2) (hl : ys.length ≤ PySem.sizeLine) : lcE own tg one sk ms (evC C []) me true ρ = .ok (D.lst true (ys.map g)) ρ := by
  have hL : ∀ zs : List α, (∀ y ∈ zs, y ∈ ys) → lcL (lcT own tg one (evC C []) me true) (zs.map f) (wipeE ρ own) = .ok (zs.map g) (wipeE ρ own) := by
    intro zs
    induction zs with
    | nil => intro _; rfl
    | cons z zs ih =>
      intro hz
      obtain ⟨ρ1, h1, ρ2, h2⟩ := ht z (hz z List.mem_cons_self)
      show M.bind (lcT own tg one (evC C []) me true (f z)) (fun r => M.bind (lcL _ (zs.map f)) fun rs => M.pure (consO r rs)) _ = _
      rw [z_bind, lcT_yes (mc := evC C []) h1 rfl h2, z_bok, z_bind, ih fun y hy => hz y (List.mem_cons_of_mem _ hy), z_bok]
      rfl
  unfold lcE
  rw [z_bind, hms, z_bok]
  simp only [hi, cl, Bool.or_true, Bool.and_true]
  rw [hL ys fun _ h => h]
  show (if decide ((ys.map g).length ≤ sizeLine) = true then _ else _) = _
  rw [if_pos (decide_eq_true (by rw [List.length_map]; exact hl))]
  rfl
theorem lcE_filterI {α : Type} {own tg : List Nat} {one : Bool} {sk : SK} {ms : M (List D)} {me : M D} {mc : M Bool} {ρ : Env} {ss : List D} (ys : List α) (f g : α → D) (c : α → Bool) (hms : ms ρ = .ok ss ρ) (hi : itemsD sk ss = some (ys.map f)) (cl : D.cleanL (ys.map f) = true)
    (ht : ∀ y ∈ ys, ∃ ρ1, asnD tg one (f y) (wipeE ρ own) = some ρ1 ∧ ∃ ρ2, mc ρ1 = .ok (c y) ρ2 ∧ (c y = true → ∃ ρ3, me ρ2 = .ok (g y) ρ3)) (hl : ys.length ≤ PySem.sizeLine) : lcE own tg one sk ms mc me true ρ = .ok (D.lst true ((ys.filter c).map g)) ρ := by
  have hL : ∀ zs : List α, (∀ y ∈ zs, y ∈ ys) → lcL (lcT own tg one mc me true) (zs.map f) (wipeE ρ own) = .ok ((zs.filter c).map g) (wipeE ρ own) := by
    intro zs
    induction zs with
    | nil => intro _; rfl
    | cons z zs ih =>
      intro hz
      obtain ⟨ρ1, h1, ρ2, h2, h3⟩ := ht z (hz z List.mem_cons_self)
      show M.bind (lcT own tg one mc me true (f z)) (fun r => M.bind (lcL _ (zs.map f)) fun rs => M.pure (consO r rs)) _ = _
      have ih := ih fun y hy => hz y (List.mem_cons_of_mem _ hy)
      cases h : c z with
      | true =>
        obtain ⟨ρ3, h4⟩ := h3 h
        rw [h] at h2
        rw [z_bind, lcT_yes h1 h2 h4, z_bok, z_bind, ih, z_bok, List.filter_cons, if_pos h]
        rfl
      | false =>
        rw [h] at h2
        rw [z_bind, lcT_no h1 h2, z_bok, z_bind, ih, z_bok, List.filter_cons, if_neg (by rw [h]; exact Bool.false_ne_true)]
        rfl
  unfold lcE
  rw [z_bind, hms, z_bok]
  simp only [hi, cl, Bool.or_true, Bool.and_true]
  rw [hL ys fun _ h => h]
  show (if decide (((ys.filter c).map g).length ≤ sizeLine) = true then _ else _) = _
  rw [if_pos (decide_eq_true (by rw [List.length_map]; exact Nat.le_trans (List.length_filter_le _ _) hl))]
  rfl
theorem frz_nd (k : Kd) (m : Bool) (xs : List D) : (D.nd k m xs).frz = .nd k false (xs.map D.frz) := by
  show D.nd k false (D.frzL xs) = _
  rw [frzL_map]
theorem frz_comp {α : Type} (g : α → At) : D.frz ∘ (fun x => D.at (g x)) = fun x => D.at (g x) := id rfl
theorem frz_int : D.frz ∘ D.int = D.int := id rfl
/-! lists of plain things -/
theorem cl_ints (ns : List Int) : D.cleanL (ns.map D.int) = true := by
  induction ns with
  | nil => rfl
  | cons n ns ih => show (true && D.cleanL (ns.map D.int)) = true; rw [ih]; rfl
theorem cl_all {xs : List D} (h : ∀ x ∈ xs, x.clean = true) : D.cleanL xs = true := by
  rw [cleanL_all]
  exact List.all_eq_true.mpr h
theorem bls_map {α : Type} (f : α → Bool) : ∀ xs : List α, blsOf (xs.map fun x => D.at (.bl (f x))) = some (xs.map f)
  | [] => rfl
  | x :: xs => by
    show (blsOf (xs.map fun x => D.at (.bl (f x)))).map (f x :: ·) = _
    rw [bls_map f xs]; rfl
theorem all_map {α : Type} (m : Bool) (f : α → Bool) (xs : List α) : b1D .all (.nd .lst m (xs.map fun x => D.at (.bl (f x)))) = some (.at (.bl (xs.all f))) := by
  show (blsOf _).map (fun bs => D.bl (bs.all id)) = _
  rw [bls_map]
  simp [List.all_map]
theorem any_map {α : Type} (m : Bool) (f : α → Bool) (xs : List α) : b1D .any (.nd .lst m (xs.map fun x => D.at (.bl (f x)))) = some (.at (.bl (xs.any f))) := by
  show (blsOf _).map (fun bs => D.bl (bs.any id)) = _
  rw [bls_map]
  simp [List.any_map]
theorem ixN_nat {n j : Nat} (h : j < n) : ixN n (j : Int) = some j := by
  unfold ixN
  have h1 : ¬ ((j : Int) < 0) := by omega
  simp [h, h1]
theorem atI_nat {xs : List D} {j : Nat} (h : j < xs.length) : atI xs (j : Int) = xs[j]? := by
  unfold atI
  rw [ixN_nat h]
  rfl
theorem idx_tup {xs : List D} {m : Bool} {j : Nat} (h : j < xs.length) : idxD (.nd .tup m xs) (.at (.int j)) = xs[j]? := atI_nat h
theorem idx_lst {xs : List D} {m : Bool} {j : Nat} (h : j < xs.length) : idxD (.nd .lst m xs) (.at (.int j)) = xs[j]? := atI_nat h
theorem idx_ints {ns : List Int} {m : Bool} {j : Nat} (h : j < ns.length) : idxD (.nd .tup m (ns.map D.int)) (.at (.int j)) = some (.at (.int (ns.getD j 0))) := by
  rw [idx_tup (by rw [List.length_map]; exact h), List.getElem?_map, List.getElem?_eq_getElem h, List.getD_eq_getElem?_getD, List.getElem?_eq_getElem h]
  rfl
end Ev

set_option Elab.async false
set_option linter.all false
set_option maxRecDepth 100000
set_option maxHeartbeats 4000000
/-! stores at a slot's own node -/
namespace Ev
open PySem PySem.Spec L2
def stoK (i : Nat) (ρ : Env) : Option D → Fl
  | some d' => .nx (ρ.set i (some d'))
  | none => .unk
def stoA (C : Calls) (i : Nat) (kx : E) (v : D) (ρ : Env) : Option (Option D) → Fl
  | some (some d) => (ev C true kx ρ).st fun k _ => stoK i ρ (stoD k v d)
  | _ => .unk
section
variable {C : Calls} {A : List Nat} {fu : Nat} {ρ : Env}
@[simp] theorem s_stoV (i : Nat) (kx e : E) : exS C A fu (.sto (.idx (.var i) kx) e) ρ = (ev C false e ρ).st fun v ρ1 => stoA C i kx v ρ1 ρ1[i]? := by
  show stoS (path C (.var i)) (ev C true kx) (ev C false e) ρ = _
  unfold stoS stS R.st
  cases ev C false e ρ with
  | ex x ρ' => rfl
  | unk => rfl
  | ok v ρ1 =>
    simp only [path]
    rcases hx : ρ1[i]? with _ | _ | d
    · rfl
    · rfl
    · simp only [stoA, R.st]
      cases ev C true kx ρ1 with
      | ok k ρ2 =>
        simp only [stoM, hx, D.get]
        cases stoD k v d <;> rfl
      | ex x ρ2 => rfl
      | unk => rfl
@[simp] theorem s_stoA (i : Nat) (kx : E) (v d : D) : stoA C i kx v ρ (some (some d)) = (ev C true kx ρ).st fun k _ => stoK i ρ (stoD k v d) := id rfl
@[simp] theorem s_stoK (i : Nat) (d : D) : stoK i ρ (some d) = .nx (ρ.set i (some d)) := id rfl
@[simp] theorem i5_0 {a b c d e : D} {m : Bool} : idxD (.nd .lst m [a, b, c, d, e]) (.at (.int 0)) = some a := id rfl
@[simp] theorem t5_0 {a b c d e v : D} : stoD (.at (.int 0)) v (.nd .lst true [a, b, c, d, e]) = some (.nd .lst true [v, b, c, d, e]) := id rfl
@[simp] theorem i5_1 {a b c d e : D} {m : Bool} : idxD (.nd .lst m [a, b, c, d, e]) (.at (.int 1)) = some b := id rfl
@[simp] theorem t5_1 {a b c d e v : D} : stoD (.at (.int 1)) v (.nd .lst true [a, b, c, d, e]) = some (.nd .lst true [a, v, c, d, e]) := id rfl
@[simp] theorem i5_2 {a b c d e : D} {m : Bool} : idxD (.nd .lst m [a, b, c, d, e]) (.at (.int 2)) = some c := id rfl
@[simp] theorem t5_2 {a b c d e v : D} : stoD (.at (.int 2)) v (.nd .lst true [a, b, c, d, e]) = some (.nd .lst true [a, b, v, d, e]) := id rfl
@[simp] theorem i5_3 {a b c d e : D} {m : Bool} : idxD (.nd .lst m [a, b, c, d, e]) (.at (.int 3)) = some d := id rfl
@[simp] theorem t5_3 {a b c d e v : D} : stoD (.at (.int 3)) v (.nd .lst true [a, b, c, d, e]) = some (.nd .lst true [a, b, c, v, e]) := id rfl
@[simp] theorem i5_4 {a b c d e : D} {m : Bool} : idxD (.nd .lst m [a, b, c, d, e]) (.at (.int 4)) = some e := id rfl
@[simp] theorem t5_4 {a b c d e v : D} : stoD (.at (.int 4)) v (.nd .lst true [a, b, c, d, e]) = some (.nd .lst true [a, b, c, d, v]) := id rfl
def mvO (ρ : Env) (i : Nat) : Option (Option D) → R D
  | some (some d) => .ok d (ρ.set i none)
  | _ => .unk
@[simp] theorem z_mv (p : Bool) (i : Nat) : ev C p (.mv i) ρ = (mvO ρ i ρ[i]?).fn p := by
  show fin p _ ρ = _
  unfold fin R.fn
  rcases h : ρ[i]? with _ | _ | d <;> simp only [h, mvO] <;> cases p <;> rfl
@[simp] theorem z_mvO (i : Nat) (d : D) : mvO ρ i (some (some d)) = .ok d (ρ.set i none) := id rfl
@[simp] theorem b_mod {i j : Int} (h : 0 < j) : binD .mod (.at (.int i)) (.at (.int j)) = some (.at (.int (i % j))) := by
  show (if decide (0 < j) = true then some (i % j) else none).map D.int = _
  rw [if_pos (decide_eq_true h)]; rfl
@[simp] theorem b_fdiv {i j : Int} (h : 0 < j) (h2 : j < 1073741824) : binD .fdiv (.at (.int i)) (.at (.int j)) = some (.at (.int (i / j))) := by
  show (if (decide (0 < j) && decide (j < 1073741824)) = true then some (i / j) else none).map D.int = _
  rw [decide_eq_true h, decide_eq_true h2]; rfl
@[simp] theorem b_int {i : Int} : b1D .int (.at (.int i)) = some (.at (.int i)) := id rfl
end
end Ev

set_option Elab.async false
set_option linter.all false
set_option maxRecDepth 100000
set_option maxHeartbeats 4000000
/-! what is behind a run: W (expressions), sX (statements), cW (calls) -/
namespace Ev
open PySem PySem.Spec L2
inductive All2 {α β : Type} (P : α → β → Prop) : List α → List β → Prop where
  | nil : All2 P [] []
  | cons {a : α} {b : β} {as : List α} {bs : List β} : P a b → All2 P as bs → All2 P (a :: as) (b :: bs)
theorem All2.length_eq {α β : Type} {P : α → β → Prop} {as : List α} {bs : List β} (h : All2 P as bs) : as.length = bs.length := by
  induction h with
  | nil => rfl
  | cons _ _ ih => rw [List.length_cons, List.length_cons, ih]
/-- what is told, as typed things -/
theorem All2.enc {α β δ : Type} {P : α → β → Prop} {R : α → δ → Prop} {e : δ → β} {as : List α} {bs : List β} (h : All2 P as bs) (hp : ∀ a b, P a b → ∃ v, b = e v ∧ R a v) : ∃ vs : List δ, bs = vs.map e ∧ All2 R as vs := by
  induction h with
  | nil => exact ⟨[], rfl, .nil⟩
  | cons p _ ih =>
    obtain ⟨v, rfl, r⟩ := hp _ _ p
    obtain ⟨vs, rfl, rs⟩ := ih
    exact ⟨v :: vs, rfl, .cons r rs⟩
theorem All2.right {α β : Type} {P : α → β → Prop} {Q : β → Prop} {as : List α} {bs : List β} (h : All2 P as bs) (hp : ∀ a ∈ as, ∀ b, P a b → Q b) : ∀ b ∈ bs, Q b := by
  induction h with
  | nil => intro b hb; cases hb
  | cons p _ ih =>
    intro b hb
    rcases List.mem_cons.mp hb with e | hb
    · subst e; exact hp _ List.mem_cons_self _ p
    · exact ih (fun a ha => hp a (List.mem_cons_of_mem _ ha)) b hb
theorem All2.map_eq {α β : Type} {P : α → β → Prop} {g : α → β} {as : List α} {bs : List β} (h : All2 P as bs) (hp : ∀ a b, P a b → b = g a) : bs = as.map g := by
  induction h with
  | nil => rfl
  | cons p _ ih => rw [hp _ _ p, ih]; rfl
def W0 {α : Type} (r : R α) (k : α → Env → Prop) (h : Exn → Env → Prop) : Prop := match r with
  | .ok a ρ => k a ρ
  | .ex x ρ => h x ρ
  | .unk => False
/-- (a structure: nothing looks through it) -/
structure W {α : Type} (r : R α) (k : α → Env → Prop) (h : Exn → Env → Prop) : Prop where
  run : W0 r k h
def sX0 (r : Fl) (Q : Fl → Prop) : Prop := match r with
  | .unk => False
  | f => Q f
structure sX (r : Fl) (Q : Fl → Prop) : Prop where
  run : sX0 r Q
def cW0 (r : CR) (Q : D → List D → Prop) : Prop := match r with
  | .ok d rs => Q d rs
  | _ => False
structure cW (r : CR) (Q : D → List D → Prop) : Prop where
  run : cW0 r Q
theorem W_eq {α : Type} (r : R α) (k : α → Env → Prop) (h : Exn → Env → Prop) : W r k h = W0 r k h := propext ⟨fun w => w.run, fun w => ⟨w⟩⟩
theorem sX_eq (r : Fl) (Q : Fl → Prop) : sX r Q = sX0 r Q := propext ⟨fun w => w.run, fun w => ⟨w⟩⟩
theorem cWr_eq (r : CR) (Q : D → List D → Prop) : cW r Q = cW0 r Q := propext ⟨fun w => w.run, fun w => ⟨w⟩⟩
def kB {α β : Type} (f : α → M β) (k : β → Env → Prop) (h : Exn → Env → Prop) : α → Env → Prop := fun a ρ => W (f a ρ) k h
def kF (p : Bool) (k : D → Env → Prop) : D → Env → Prop := fun d ρ => k (match p with | true => d.frz | false => d) ρ
def kS {α : Type} (f : α → Env → Fl) (Q : Fl → Prop) : α → Env → Prop := fun a ρ => sX (f a ρ) Q
def kX (Q : Fl → Prop) : Exn → Env → Prop := fun x ρ => Q (.ex x ρ)
def kQ (f : Env → Fl) (Q : Fl → Prop) : Fl → Prop := fun r => match r with
  | .nx ρ => sX (f ρ) Q
  | r => Q r
def kR (bs : List Bool) (Q : D → List D → Prop) : Fl → Prop := fun r => match r with
  | .rt d ρ => (match refsAt bs ρ with
    | some rs => Q d rs
    | none => False)
  | .nx ρ => (match refsAt bs ρ with
    | some rs => Q D.non rs
    | none => False)
  | _ => False
def kRo (Q : D → List D → Prop) (d : D) : Option (List D) → Prop
  | some rs => Q d rs
  | none => False
def oK {α : Type} (o : Option α) (k : α → Prop) : Prop := match o with
  | some a => k a
  | none => False
section
variable {α β : Type} {C : Calls} {ρ : Env} {p : Bool} {k : α → Env → Prop} {h : Exn → Env → Prop}
@[simp] theorem w_ok (a : α) : W (.ok a ρ) k h = k a ρ := W_eq _ _ _
@[simp] theorem w_ex (x : Exn) : W (.ex x ρ : R α) k h = h x ρ := W_eq _ _ _
@[simp] theorem w_bnd {k : β → Env → Prop} (r : R α) (f : α → M β) : W (r.bnd f) k h = W r (kB f k h) h := by
  cases r with
  | ok a ρ => show W (f a ρ) k h = _; rw [w_ok]; rfl
  | ex x ρ => rw [w_ex]; exact w_ex x
  | unk => rw [W_eq, W_eq]; rfl
@[simp] theorem w_fn {k : D → Env → Prop} (r : R D) (p : Bool) : W (r.fn p) k h = W r (kF p k) h := by
  cases r with
  | ok a ρ => rw [w_ok]; exact w_ok _
  | ex x ρ => rw [w_ex]; exact w_ex x
  | unk => rw [W_eq, W_eq]; rfl
@[simp] theorem k_B {k : β → Env → Prop} (f : α → M β) (a : α) : kB f k h a ρ = W (f a ρ) k h := id rfl
@[simp] theorem k_FF {k : D → Env → Prop} (d : D) : kF false k d ρ = k d ρ := id rfl
@[simp] theorem k_FT {k : D → Env → Prop} (d : D) : kF true k d ρ = k d.frz ρ := id rfl
@[simp] theorem x_nx (Q : Fl → Prop) : sX (.nx ρ) Q = Q (.nx ρ) := sX_eq _ _
@[simp] theorem x_rt (Q : Fl → Prop) (d : D) : sX (.rt d ρ) Q = Q (.rt d ρ) := sX_eq _ _
@[simp] theorem x_bk (Q : Fl → Prop) : sX (.bk ρ) Q = Q (.bk ρ) := sX_eq _ _
@[simp] theorem x_ct (Q : Fl → Prop) : sX (.ct ρ) Q = Q (.ct ρ) := sX_eq _ _
@[simp] theorem x_ex (Q : Fl → Prop) (x : Exn) : sX (.ex x ρ) Q = Q (.ex x ρ) := sX_eq _ _
@[simp] theorem x_unk (Q : Fl → Prop) : sX .unk Q = False := sX_eq _ _
@[simp] theorem x_st (r : R α) (f : α → Env → Fl) (Q : Fl → Prop) : sX (r.st f) Q = W r (kS f Q) (kX Q) := by
  cases r with
  | ok a ρ => rw [w_ok]; rfl
  | ex x ρ => rw [w_ex]; exact x_ex Q x
  | unk => rw [W_eq]; exact x_unk Q
@[simp] theorem k_S (f : α → Env → Fl) (Q : Fl → Prop) (a : α) : kS f Q a ρ = sX (f a ρ) Q := id rfl
@[simp] theorem x_seq (r : Fl) (f : Env → Fl) (Q : Fl → Prop) : sX (seqS r f) Q = sX r (kQ f Q) := by
  cases r with
  | nx ρ => rw [x_nx]; rfl
  | rt d ρ => rw [x_rt]; exact x_rt Q d
  | bk ρ => rw [x_bk]; exact x_bk Q
  | ct ρ => rw [x_ct]; exact x_ct Q
  | ex x ρ => rw [x_ex]; exact x_ex Q x
  | unk => rw [x_unk]; exact x_unk Q
@[simp] theorem k_Qnx (f : Env → Fl) (Q : Fl → Prop) : kQ f Q (.nx ρ) = sX (f ρ) Q := id rfl
@[simp] theorem k_Qrt (f : Env → Fl) (Q : Fl → Prop) (d : D) : kQ f Q (.rt d ρ) = Q (.rt d ρ) := id rfl
@[simp] theorem k_Qbk (f : Env → Fl) (Q : Fl → Prop) : kQ f Q (.bk ρ) = Q (.bk ρ) := id rfl
@[simp] theorem k_Qct (f : Env → Fl) (Q : Fl → Prop) : kQ f Q (.ct ρ) = Q (.ct ρ) := id rfl
@[simp] theorem k_Qex (f : Env → Fl) (Q : Fl → Prop) (x : Exn) : kQ f Q (.ex x ρ) = Q (.ex x ρ) := id rfl
@[simp] theorem k_Rrt (bs : List Bool) (Q : D → List D → Prop) (d : D) : kR bs Q (.rt d ρ) = kRo Q d (refsAt bs ρ) := by
  show (match refsAt bs ρ with
    | some rs => Q d rs
    | none => False) = _
  cases refsAt bs ρ <;> rfl
@[simp] theorem k_Rnx (bs : List Bool) (Q : D → List D → Prop) : kR bs Q (.nx ρ) = kRo Q D.non (refsAt bs ρ) := by
  show (match refsAt bs ρ with
    | some rs => Q D.non rs
    | none => False) = _
  cases refsAt bs ρ <;> rfl
@[simp] theorem k_Ro (Q : D → List D → Prop) (d : D) (rs : List D) : kRo Q d (some rs) = Q d rs := id rfl
@[simp] theorem c_ret (bs : List Bool) (r : Fl) (Q : D → List D → Prop) : cW (retC bs r) Q = sX r (kR bs Q) := by
  cases r with
  | rt d ρ => rw [r_rt, x_rt, k_Rrt, cWr_eq]; cases refsAt bs ρ <;> rfl
  | nx ρ => rw [r_nx, x_nx, k_Rnx, cWr_eq]; cases refsAt bs ρ <;> rfl
  | ex x ρ =>
    show cW (match refsAt bs ρ with
    | some rs => CR.ex x rs
    | none => .unk) Q = _
    rw [x_ex, cWr_eq]
    cases refsAt bs ρ <;> rfl
  | bk ρ => rw [x_bk, cWr_eq]; rfl
  | ct ρ => rw [x_ct, cWr_eq]; rfl
  | unk => rw [x_unk, cWr_eq]; rfl
@[simp] theorem c_ok (d : D) (rs : List D) (Q : D → List D → Prop) : cW (.ok d rs) Q = Q d rs := cWr_eq _ _
theorem cW_eq {r : CR} {d : D} {rs : List D} (h : cW r fun d' rs' => d' = d ∧ rs' = rs) : r = .ok d rs := by
  cases r with
  | ok d' rs' => obtain ⟨rfl, rfl⟩ := h.run; rfl
  | _ => exact h.run.elim
theorem cW_get {r : CR} {Q : D → List D → Prop} (h : cW r Q) : ∃ d rs, r = .ok d rs ∧ Q d rs := by
  cases r with
  | ok d rs => exact ⟨d, rs, rfl, h.run⟩
  | _ => exact h.run.elim
theorem cW_of {r : CR} {Q : D → List D → Prop} {d : D} {rs : List D} (e : r = .ok d rs) (h : Q d rs) : cW r Q := by subst e; exact ⟨h⟩
theorem W_mono {r : R α} {k' : α → Env → Prop} {h' : Exn → Env → Prop} (w : W r k' h') (hk : ∀ a ρ, k' a ρ → k a ρ) (hh : ∀ x ρ, h' x ρ → h x ρ) : W r k h := by
  cases r with
  | ok a ρ => exact ⟨hk _ _ w.run⟩
  | ex x ρ => exact ⟨hh _ _ w.run⟩
  | unk => exact w.run.elim
theorem W_get {r : R α} (w : W r k fun _ _ => False) : ∃ a ρ, r = .ok a ρ ∧ k a ρ := by
  cases r with
  | ok a ρ => exact ⟨a, ρ, rfl, w.run⟩
  | ex x ρ => exact w.run.elim
  | unk => exact w.run.elim
theorem sX_mono {r : Fl} {Q Q' : Fl → Prop} (w : sX r Q') (hk : ∀ f, Q' f → Q f) : sX r Q := by
  cases r <;> first | exact w.run.elim | exact ⟨hk _ w.run⟩
/-- an if, both ways -/
theorem x_if {A : List Nat} {fu : Nat} {a b : List S} {c : Bool} {Q : Fl → Prop} (h1 : c = true → sX (exL C A fu a ρ) Q) (h2 : c = false → sX (exL C A fu b ρ) Q) : sX (zS C A fu a b c ρ) Q := by
  cases c with
  | true => exact h1 rfl
  | false => exact h2 rfl
theorem w_if {a b : E} {c : Bool} {k : D → Env → Prop} (h1 : c = true → W (ev C false a ρ) k h) (h2 : c = false → W (ev C false b ρ) k h) : W (zIf C a b (.at (.bl c)) ρ) k h := by
  cases c with
  | true => exact h1 rfl
  | false => exact h2 rfl
theorem w_and {b : E} {c : Bool} {k : D → Env → Prop} (h1 : c = true → W (ev C false b ρ) k h) (h2 : c = false → k (D.bl false) ρ) : W (zAnd C b (.at (.bl c)) ρ) k h := by
  cases c with
  | true => exact h1 rfl
  | false => exact ⟨h2 rfl⟩
theorem w_or {b : E} {c : Bool} {k : D → Env → Prop} (h1 : c = true → k (D.bl true) ρ) (h2 : c = false → W (ev C false b ρ) k h) : W (zOr C b (.at (.bl c)) ρ) k h := by
  cases c with
  | true => exact ⟨h1 rfl⟩
  | false => exact h2 rfl
/-- a call whose def tells -/
theorem w_callR {es : List E} {c : CR} {d : D} {rs : List D} {k : D → Env → Prop} (e : c = .ok d rs) (hl : rs.length = (rfs es).length) (hk : k d (putR es rs ρ)) : W (callR es ρ c) k h := by
  subst e
  rw [z_callR hl, w_ok]
  exact hk
/-! ## comprehensions -/
variable {γ : Type}
/-- behind the source -/
def lcR (own tg : List Nat) (one : Bool) (sk : SK) (mc : M Bool) (me : M D) (nn : Bool) (ss : List D) (ρ : Env) : R D := lcE own tg one sk (M.pure ss) mc me nn ρ
def kLc (own tg : List Nat) (one : Bool) (sk : SK) (mc : M Bool) (me : M D) (nn : Bool) (k : D → Env → Prop) (h : Exn → Env → Prop) : List D → Env → Prop := fun ss ρ => W (lcR own tg one sk mc me nn ss ρ) k h
@[simp] theorem w_lc {own tg : List Nat} {one nn : Bool} {sk : SK} {ms : M (List D)} {mc : M Bool} {me : M D} {k : D → Env → Prop} : W (lcE own tg one sk ms mc me nn ρ) k h = W (ms ρ) (kLc own tg one sk mc me nn k h) h := by
  unfold kLc lcR lcE
  rw [z_bind, w_bnd]
  rfl
@[simp] theorem k_Lc {own tg : List Nat} {one nn : Bool} {sk : SK} {mc : M Bool} {me : M D} {k : D → Env → Prop} {ss : List D} : kLc own tg one sk mc me nn k h ss ρ = W (lcR own tg one sk mc me nn ss ρ) k h := id rfl
/-- nothing that stands is changed; with a test -/
theorem w_lcF {own tg : List Nat} {one : Bool} {sk : SK} {ss : List D} {mc : M Bool} {me : M D} {k : D → Env → Prop} (ys : List γ) (f : γ → D) (g : γ → D) (c : γ → Bool)
    (hms : itemsD sk ss = some (ys.map f)) (cl : D.cleanL (ys.map f) = true) (hl : ys.length ≤ PySem.sizeLine)
    (ht : ∀ y ∈ ys, oK (asnD tg one (f y) (wipeE ρ own)) fun ρ1 => W (mc ρ1) (fun b ρ2 => b = c y ∧ (c y = true → W (me ρ2) (fun d _ => d = g y) fun _ _ => False)) fun _ _ => False)
    (hk : k (D.lst true ((ys.filter c).map g)) ρ) : W (lcR own tg one sk mc me true ss ρ) k h := by
  unfold lcR
  rw [lcE_filterI (sk := sk) (ss := ss) (one := one) (own := own) (tg := tg) (mc := mc) (me := me) (ms := M.pure ss) (ρ := ρ) ys f g c rfl hms cl (fun y hy => ?_) hl]
  · exact ⟨hk⟩
  · have q := ht y hy
    cases ha : asnD tg one (f y) (wipeE ρ own) with
    | none => rw [ha] at q; exact q.elim
    | some ρ1 =>
      rw [ha] at q
      obtain ⟨b, ρ2, e3, e4, e5⟩ := W_get (show W (mc ρ1) _ _ from q)
      subst e4
      refine ⟨ρ1, rfl, ρ2, e3, fun hc => ?_⟩
      obtain ⟨d, ρ3, e6, e7⟩ := W_get (e5 hc)
      exact ⟨ρ3, by rw [e6, e7]⟩
/-- .. with no test -/
theorem w_lcM {own tg : List Nat} {one : Bool} {sk : SK} {ss : List D} {me : M D} {k : D → Env → Prop} (ys : List γ) (f : γ → D) (g : γ → D)
    (hms : itemsD sk ss = some (ys.map f)) (cl : D.cleanL (ys.map f) = true) (hl : ys.length ≤ PySem.sizeLine)
    (ht : ∀ y ∈ ys, oK (asnD tg one (f y) (wipeE ρ own)) fun ρ1 => W (me ρ1) (fun d _ => d = g y) fun _ _ => False)
    (hk : k (D.lst true (ys.map g)) ρ) : W (lcR own tg one sk (evC C []) me true ss ρ) k h := by
  have e : (ys.filter fun _ => true).map g = ys.map g := by rw [List.filter_eq_self.mpr fun _ _ => rfl]
  refine w_lcF ys f g (fun _ => true) hms cl hl (fun y hy => ?_) (by rw [e]; exact hk)
  have q := ht y hy
  cases ha : asnD tg one (f y) (wipeE ρ own) with
  | none => rw [ha] at q; exact q.elim
  | some ρ1 => rw [ha] at q; exact ⟨⟨rfl, fun _ => q⟩⟩
/-- a comprehension that changes what stands: what holds of the slots at each turn, what of each thing told -/
theorem w_lcI {own tg : List Nat} {one nn : Bool} {sk : SK} {ss : List D} {mc : M Bool} {me : M D} {k : D → Env → Prop} (ys : List γ) (f : γ → D) (I : Env → Prop) (P : γ → D → Prop) (hnn : nn = false)
    (hms : itemsD sk ss = some (ys.map f)) (hss : D.cleanL ss = true) (cl : D.cleanL (ys.map f) = true) (hl : ys.length ≤ PySem.sizeLine) (h0 : I (wipeE ρ own))
    (ht : ∀ y ∈ ys, ∀ ρ0, I ρ0 → oK (asnD tg one (f y) ρ0) fun ρ1 => W (mc ρ1) (fun b ρ2 => (b = true → W (me ρ2) (fun d ρ3 => P y d ∧ I (wipeE ρ3 own)) fun _ _ => False) ∧ (b = false → I (wipeE ρ2 own))) fun _ _ => False)
    (hk : ∀ (zs : List γ) (ds : List D) (ρ' : Env), zs.Sublist ys → All2 P zs ds → I ρ' → k (D.lst true ds) (backE ρ ρ' own)) : W (lcR own tg one sk mc me nn ss ρ) k h := by
  subst hnn
  have main : ∀ xs : List γ, (∀ y ∈ xs, y ∈ ys) → ∀ ρ0, I ρ0 → ∃ zs ds ρ1, zs.Sublist xs ∧ All2 P zs ds ∧ I ρ1 ∧ lcL (lcT own tg one mc me false) (xs.map f) ρ0 = .ok ds ρ1 := by
    intro xs
    induction xs with
    | nil => intro _ ρ0 i0; exact ⟨[], [], ρ0, List.Sublist.refl _, .nil, i0, rfl⟩
    | cons x xs ih =>
      intro hx ρ0 i0
      have q := ht x (hx x List.mem_cons_self) ρ0 i0
      show ∃ zs ds ρ1, _ ∧ _ ∧ _ ∧ M.bind (lcT own tg one mc me false (f x)) (fun r => M.bind (lcL _ (xs.map f)) fun rs => M.pure (consO r rs)) ρ0 = _
      have step : ∃ (r : Option D) (ρ1 : Env), lcT own tg one mc me false (f x) ρ0 = .ok r ρ1 ∧ I ρ1 ∧ (∀ d, r = some d → P x d) := by
        unfold lcT
        cases ha : asnD tg one (f x) ρ0 with
        | none => rw [ha] at q; exact q.elim
        | some ρ1 =>
          rw [ha] at q
          obtain ⟨b, ρ2, e4, q1, q2⟩ := W_get (show W (mc ρ1) _ _ from q)
          simp only [e4]
          cases b with
          | true =>
            obtain ⟨d, ρ3, e5, e6, e7⟩ := W_get (q1 rfl)
            simp only [e5]
            exact ⟨_, _, rfl, e7, fun d' h => by cases h; exact e6⟩
          | false => exact ⟨_, _, rfl, q2 rfl, fun d' h => by cases h⟩
      obtain ⟨r, ρ1, s1, s2, s3⟩ := step
      obtain ⟨zs, ds, ρ2, t1, t2, t3, t4⟩ := ih (fun y hy => hx y (List.mem_cons_of_mem _ hy)) ρ1 s2
      rw [z_bind, s1, z_bok, z_bind, t4, z_bok]
      cases r with
      | none => exact ⟨zs, ds, ρ2, t1.cons x, t2, t3, rfl⟩
      | some d => exact ⟨x :: zs, d :: ds, ρ2, t1.cons₂ x, .cons (s3 d rfl) t2, t3, rfl⟩
  obtain ⟨zs, ds, ρ1, m1, m2, m3, m4⟩ := main ys (fun _ h => h) _ h0
  unfold lcR lcE
  rw [z_bind, z_pure, z_bok]
  simp only [hms, cl, hss, Bool.true_or, Bool.and_true]
  rw [m4]
  show W (if decide (ds.length ≤ sizeLine) = true then _ else _) k h
  have hlen : ds.length ≤ ys.length := by rw [← m2.length_eq]; exact m1.length_le
  rw [if_pos (decide_eq_true (by omega)), w_ok]
  exact hk zs ds ρ1 m1 m2 m3
/-- .. with no test: one for each -/
theorem w_lcJ {own tg : List Nat} {one nn : Bool} {sk : SK} {ss : List D} {me : M D} {k : D → Env → Prop} (ys : List γ) (f : γ → D) (I : Env → Prop) (P : γ → D → Prop) (hnn : nn = false)
    (hms : itemsD sk ss = some (ys.map f)) (hss : D.cleanL ss = true) (cl : D.cleanL (ys.map f) = true) (hl : ys.length ≤ PySem.sizeLine) (h0 : I (wipeE ρ own))
    (ht : ∀ y ∈ ys, ∀ ρ0, I ρ0 → oK (asnD tg one (f y) ρ0) fun ρ1 => W (me ρ1) (fun d ρ3 => P y d ∧ I (wipeE ρ3 own)) fun _ _ => False)
    (hk : ∀ (ds : List D) (ρ' : Env), All2 P ys ds → I ρ' → k (D.lst true ds) (backE ρ ρ' own)) : W (lcR own tg one sk (evC C []) me nn ss ρ) k h := by
  subst hnn
  have main : ∀ xs : List γ, (∀ y ∈ xs, y ∈ ys) → ∀ ρ0, I ρ0 → ∃ ds ρ1, All2 P xs ds ∧ I ρ1 ∧ lcL (lcT own tg one (evC C []) me false) (xs.map f) ρ0 = .ok ds ρ1 := by
    intro xs
    induction xs with
    | nil => intro _ ρ0 i0; exact ⟨[], ρ0, .nil, i0, rfl⟩
    | cons x xs ih =>
      intro hx ρ0 i0
      have q := ht x (hx x List.mem_cons_self) ρ0 i0
      show ∃ ds ρ1, _ ∧ _ ∧ M.bind (lcT own tg one (evC C []) me false (f x)) (fun r => M.bind (lcL _ (xs.map f)) fun rs => M.pure (consO r rs)) ρ0 = _
      have step : ∃ (d : D) (ρ1 : Env), lcT own tg one (evC C []) me false (f x) ρ0 = .ok (some d) ρ1 ∧ I ρ1 ∧ P x d := by
        unfold lcT
        cases ha : asnD tg one (f x) ρ0 with
        | none => rw [ha] at q; exact q.elim
        | some ρ1 =>
          rw [ha] at q
          obtain ⟨d, ρ3, e5, e6, e7⟩ := W_get (show W (me ρ1) _ _ from q)
          refine ⟨d, wipeE ρ3 own, ?_, e7, e6⟩
          show (match me ρ1 with
            | .ok d ρ3 => R.ok (some d) (sel false ρ0 (wipeE ρ3 own))
            | _ => .unk) = _
          rw [e5]
          rfl
      obtain ⟨d, ρ1, s1, s2, s3⟩ := step
      obtain ⟨ds, ρ2, t2, t3, t4⟩ := ih (fun y hy => hx y (List.mem_cons_of_mem _ hy)) ρ1 s2
      rw [z_bind, s1, z_bok, z_bind, t4, z_bok]
      exact ⟨d :: ds, ρ2, .cons s3 t2, t3, rfl⟩
  obtain ⟨ds, ρ1, m2, m3, m4⟩ := main ys (fun _ h => h) _ h0
  unfold lcR lcE
  rw [z_bind, z_pure, z_bok]
  simp only [hms, cl, hss, Bool.true_or, Bool.and_true]
  rw [m4]
  show W (if decide (ds.length ≤ sizeLine) = true then _ else _) k h
  rw [if_pos (decide_eq_true (by rw [← m2.length_eq]; exact hl)), w_ok]
  exact hk ds ρ1 m2 m3
@[simp] theorem k_XQ (f : Env → Fl) (Q : Fl → Prop) : kX (kQ f Q) = kX Q := id rfl
@[simp] theorem k_XR (bs : List Bool) (Q : D → List D → Prop) : kX (kR bs Q) = fun _ _ => False := id rfl
/-! ## loops -/
/-- the loop's body's ends -/
def kL (I : Env → Prop) (Q : Fl → Prop) : Fl → Prop := fun r => match r with
  | .nx ρ => I ρ
  | .ct ρ => I ρ
  | .bk ρ => Q (.nx ρ)
  | r => Q r
@[simp] theorem k_Lnx (I : Env → Prop) (Q : Fl → Prop) : kL I Q (.nx ρ) = I ρ := id rfl
@[simp] theorem k_Lct (I : Env → Prop) (Q : Fl → Prop) : kL I Q (.ct ρ) = I ρ := id rfl
@[simp] theorem k_Lbk (I : Env → Prop) (Q : Fl → Prop) : kL I Q (.bk ρ) = Q (.nx ρ) := id rfl
@[simp] theorem k_Lrt (I : Env → Prop) (Q : Fl → Prop) (d : D) : kL I Q (.rt d ρ) = Q (.rt d ρ) := id rfl
@[simp] theorem k_Lex (I : Env → Prop) (Q : Fl → Prop) (x : Exn) : kL I Q (.ex x ρ) = Q (.ex x ρ) := id rfl
@[simp] theorem k_XL (I : Env → Prop) (Q : Fl → Prop) : kX (kL I Q) = kX Q := id rfl
theorem x_loop {r : Fl} {f : Env → Fl} {I : Env → Prop} {Q : Fl → Prop} (h : sX r (kL I Q)) (hI : ∀ ρ, I ρ → sX (f ρ) Q) : sX (loopS r f) Q := by
  cases r with
  | nx ρ => exact hI ρ h.run
  | ct ρ => exact hI ρ h.run
  | bk ρ => exact ⟨h.run⟩
  | rt d ρ => exact ⟨h.run⟩
  | ex x ρ => exact ⟨h.run⟩
  | unk => exact h.run.elim
theorem x_forF {a : D → Env → Option Env} {b : Env → Fl} {Q : Fl → Prop} (ys : List γ) (f : γ → D) (I : List γ → Env → Prop) (h0 : I [] ρ)
    (ht : ∀ ds y rs, ys = ds ++ y :: rs → ∀ ρ0, I ds ρ0 → oK (a (f y) ρ0) fun ρ1 => sX (b ρ1) (kL (I (ds ++ [y])) Q)) (hq : ∀ ρ', I ys ρ' → Q (.nx ρ')) : sX (forF a b (ys.map f) ρ) Q := by
  have main : ∀ (rs ds : List γ), ys = ds ++ rs → ∀ ρ0, I ds ρ0 → sX (forF a b (rs.map f) ρ0) Q := by
    intro rs
    induction rs with
    | nil =>
      intro ds e ρ0 i0
      rw [List.append_nil] at e
      subst e
      exact ⟨hq ρ0 i0⟩
    | cons y rs ih =>
      intro ds e ρ0 i0
      have q := ht ds y rs e ρ0 i0
      show sX (match a (f y) ρ0 with
        | some ρ1 => loopS (b ρ1) (forF a b (rs.map f))
        | none => .unk) Q
      cases ha : a (f y) ρ0 with
      | none => rw [ha] at q; exact q.elim
      | some ρ1 =>
        rw [ha] at q
        exact x_loop q fun ρ2 i2 => ih (ds ++ [y]) (by rw [e]; simp) ρ2 i2
  exact main ys [] rfl ρ h0
def forG (A tg : List Nat) (one : Bool) (sk : SK) (b : Env → Fl) (ss : List D) (ρ : Env) : Fl := forS A tg one sk (M.pure ss) b ρ
def kFo (A tg : List Nat) (one : Bool) (sk : SK) (b : Env → Fl) (Q : Fl → Prop) : List D → Env → Prop := fun ss ρ => sX (forG A tg one sk b ss ρ) Q
@[simp] theorem x_forS {A tg : List Nat} {one : Bool} {sk : SK} {ms : M (List D)} {b : Env → Fl} {Q : Fl → Prop} : sX (forS A tg one sk ms b ρ) Q = W (ms ρ) (kFo A tg one sk b Q) (kX Q) := by
  unfold kFo forG forS
  rw [s_st, x_st]
  rfl
@[simp] theorem k_Fo {A tg : List Nat} {one : Bool} {sk : SK} {b : Env → Fl} {Q : Fl → Prop} {ss : List D} : kFo A tg one sk b Q ss ρ = sX (forG A tg one sk b ss ρ) Q := id rfl
theorem x_for {A tg : List Nat} {one : Bool} {sk : SK} {ss : List D} {b : Env → Fl} {Q : Fl → Prop} (ys : List γ) (f : γ → D) (I : List γ → Env → Prop)
    (hms : itemsD sk ss = some (ys.map f)) (hss : D.cleanL ss = true) (cl : D.cleanL (ys.map f) = true) (htg : tg.all (fun i => decide (i ∈ A)) = true) (h0 : I [] ρ)
    (ht : ∀ ds y rs, ys = ds ++ y :: rs → ∀ ρ0, I ds ρ0 → oK (asnD tg one (f y) ρ0) fun ρ1 => sX (b ρ1) (kL (I (ds ++ [y])) Q)) (hq : ∀ ρ', I ys ρ' → Q (.nx ρ')) : sX (forG A tg one sk b ss ρ) Q := by
  unfold forG forS stS
  simp only [z_pure, hms, cl, hss, htg, Bool.and_self, if_true]
  exact x_forF ys f I h0 ht hq
/-- while: a measure v falls -/
theorem x_whl {t : M Bool} {b : Env → Fl} {Q : Fl → Prop} (I : Nat → Env → Prop) : ∀ (n v : Nat) (ρ : Env), v < n → I v ρ →
    (∀ v ρ0, I v ρ0 → W (t ρ0) (fun c ρ1 => (c = true → sX (b ρ1) (kL (fun ρ2 => ∃ v', v' < v ∧ I v' ρ2) Q)) ∧ (c = false → Q (.nx ρ1))) (kX Q)) → sX (whlF t b n ρ) Q
  | 0, v, ρ, hv, _, _ => absurd hv (Nat.not_lt_zero _)
  | n + 1, v, ρ, hv, i0, ht => by
    have q := ht v ρ i0
    show sX (stS t _ ρ) Q
    unfold stS
    cases ht1 : t ρ with
    | ok c ρ1 =>
      rw [ht1] at q
      cases c with
      | true =>
        exact x_loop (q.run.1 rfl) fun ρ2 ⟨v', h1, h2⟩ => x_whl I n v' ρ2 (by omega) h2 ht
      | false => exact ⟨q.run.2 rfl⟩
    | ex x ρ1 => rw [ht1] at q; exact ⟨q.run⟩
    | unk => rw [ht1] at q; exact q.run.elim
@[simp] theorem s_for (A : List Nat) (fu : Nat) (tg : List Nat) (one : Bool) (sk : SK) (src : List E) (body : List S) : exS C A fu (.for_ tg one sk src body) ρ = forS A tg one sk (evP C src) (exL C A fu body) ρ := id rfl
@[simp] theorem s_whl (A : List Nat) (fu : Nat) (c : E) (body : List S) : exS C A fu (.whl c body) ρ = whlF (tst (ev C true c)) (exL C A fu body) fu ρ := id rfl
end
end Ev

set_option Elab.async false
set_option linter.all false
set_option maxRecDepth 100000
set_option maxHeartbeats 4000000
/-! more equations: changes at places, typed lists -/
namespace Ev
open PySem PySem.Spec L2
section
variable {C : Calls} {ρ : Env} {p : Bool}
def argO (C : Calls) (es : List E) (ρ : Env) : Option (Option D) → R (List D)
  | some (some _) => (evA C es ρ).bnd fun xs => M.pure (D.non :: xs)
  | _ => .unk
@[simp] theorem z_argS (e : E) (es : List E) (i : Nat) : argM C e es (some i) ρ = argO C es ρ ρ[i]? := by
  show (match ρ[i]? with
      | some (some _) => M.bind (evA C es) (fun xs => M.pure (D.non :: xs)) ρ
      | _ => .unk) = _
  rcases ρ[i]? with _ | _ | d <;> rfl
@[simp] theorem z_argO (es : List E) (d : D) : argO C es ρ (some (some d)) = (evA C es ρ).bnd fun xs => M.pure (D.non :: xs) := id rfl
@[simp] theorem z_evC0 : evC C [] ρ = .ok true ρ := id rfl
@[simp] theorem z_evC1 (e : E) : evC C [e] ρ = (ev C true e ρ).bnd tstB := id rfl
@[simp] theorem o_some {α : Type} (a : α) (k : α → Prop) : oK (some a) k = k a := id rfl
def muE (k : MK) (i : Nat) (js : List Nat) (nn : Bool) (ρ : Env) : List D → M D := fun ds ρ1 => match js with
  | [] => mutM k i [] ds ρ1
  | _ :: _ => M.chk nn (fun _ => mutM k i js ds ρ) ρ1
def muP (C : Calls) (k : MK) (es : List E) (ρ : Env) : Option (Nat × List Nat) → R D
  | some (i, js) => M.chk (lstAt ρ i js) (M.bind (evs C es) (muE k i js (nmL es) ρ)) ρ
  | none => .unk
@[simp] theorem z_mut (k : MK) (pl : E) (es : List E) : ev C p (.mut k pl es) ρ = (muP C k es ρ (path C pl ρ)).fn p := by
  show fin p _ ρ = _
  unfold fin R.fn
  have e : ∀ r : R D, (match path C pl ρ with
    | some (i, js) => M.chk (lstAt ρ i js) (M.bind (evs C es) (fun ds ρ1 => match js with
      | [] => mutM k i [] ds ρ1
      | _ :: _ => M.chk (nmL es) (fun _ => mutM k i js ds ρ) ρ1)) ρ
    | none => .unk) = r → muP C k es ρ (path C pl ρ) = r := by
    intro r h
    rw [← h]
    cases path C pl ρ with
    | none => rfl
    | some q => obtain ⟨i, js⟩ := q; rfl
  rw [e _ rfl]
  all_goals rfl
@[simp] theorem z_mutP (k : MK) (es : List E) (i : Nat) (js : List Nat) : muP C k es ρ (some (i, js)) = M.chk (lstAt ρ i js) (M.bind (evs C es) (muE k i js (nmL es) ρ)) ρ := id rfl
@[simp] theorem z_mutE0 (k : MK) (i : Nat) (nn : Bool) (ρ0 : Env) (ds : List D) : muE k i [] nn ρ0 ds ρ = mutM k i [] ds ρ := id rfl
@[simp] theorem z_mutE1 (k : MK) (i j : Nat) (js : List Nat) (ρ0 : Env) (ds : List D) : muE k i (j :: js) true ρ0 ds ρ = mutM k i (j :: js) ds ρ0 := id rfl
/-- the node at js, what comes of it, put back -/
def modR (i : Nat) (js : List Nat) (d : D) (ρ : Env) : Option (D × D) → R D
  | some (x', r) => match D.mod (fun _ => some x') js d with
        | some d' => .ok r (ρ.set i (some d'))
        | none => .unk
  | none => .unk
def getR (k : MK) (ds : List D) (i : Nat) (js : List Nat) (d : D) (ρ : Env) : Option D → R D
  | some x => modR i js d ρ (mutD k ds x)
  | none => .unk
def sloR (k : MK) (ds : List D) (i : Nat) (js : List Nat) (ρ : Env) : Option (Option D) → R D
  | some (some d) => getR k ds i js d ρ (D.get js d)
  | _ => .unk
@[simp] theorem z_mutM (k : MK) (ds : List D) (i : Nat) (js : List Nat) : mutM k i js ds ρ = sloR k ds i js ρ ρ[i]? := by
  unfold mutM sloR getR modR
  rcases ρ[i]? with _ | _ | d
  · rfl
  · rfl
  · (dsimp only) <;>
    cases D.get js d with
    | none => rfl
    | some x =>
      (dsimp only) <;>
      cases mutD k ds x with
      | none => rfl
      | some q => rfl
@[simp] theorem z_sloR (k : MK) (ds : List D) (i : Nat) (js : List Nat) (d : D) : sloR k ds i js ρ (some (some d)) = getR k ds i js d ρ (D.get js d) := id rfl
@[simp] theorem z_getR (k : MK) (ds : List D) (i : Nat) (js : List Nat) (d x : D) : getR k ds i js d ρ (some x) = modR i js d ρ (mutD k ds x) := id rfl
def putBk (i : Nat) (r : D) (ρ : Env) : Option D → R D
  | some d' => .ok r (ρ.set i (some d'))
  | none => .unk
@[simp] theorem z_modR (i : Nat) (js : List Nat) (d x r : D) : modR i js d ρ (some (x, r)) = putBk i r ρ (D.mod (fun _ => some x) js d) := by
  show (match D.mod (fun _ => some x) js d with
    | some d' => R.ok r (ρ.set i (some d'))
    | none => .unk) = _
  cases D.mod (fun _ => some x) js d <;> rfl
@[simp] theorem z_putBk (i : Nat) (r d : D) : putBk i r ρ (some d) = .ok r (ρ.set i (some d)) := id rfl
@[simp] theorem z_mod0 (f : D → Option D) (d : D) : D.mod f [] d = f d := by cases d <;> rfl
def ndO (k : Kd) (m : Bool) : Option (List D) → Option D
  | some xs => some (.nd k m xs)
  | none => none
@[simp] theorem z_mod1 (f : D → Option D) (j : Nat) (js : List Nat) (k : Kd) (m : Bool) (xs : List D) : D.mod f (j :: js) (.nd k m xs) = ndO k m (setAt (D.mod f js) j xs) := by
  show (setAt (D.mod f js) j xs).map (D.nd k m) = _
  cases setAt (D.mod f js) j xs <;> rfl
@[simp] theorem z_ndO (k : Kd) (m : Bool) (xs : List D) : ndO k m (some xs) = some (.nd k m xs) := id rfl
@[simp] theorem z_set0 {α : Type} (f : α → Option α) (x : α) (xs : List α) : setAt f 0 (x :: xs) = (f x).map (· :: xs) := id rfl
@[simp] theorem z_setS {α : Type} (f : α → Option α) (n : Nat) (x : α) (xs : List α) : setAt f (n + 1) (x :: xs) = (setAt f n xs).map (x :: ·) := id rfl
@[simp] theorem z_omap {α β : Type} (f : α → β) (a : α) : (some a).map f = some (f a) := id rfl
@[simp] theorem b_app {y : D} {xs : List D} (h : xs.length < sizeLine) : mutD .append [y] (.nd .lst true xs) = some (D.lst true (xs ++ [y]), D.non) := by
  show (if decide (xs.length < sizeLine) = true then _ else _) = _
  rw [if_pos (decide_eq_true h)]
/-! stores of fields -/
def stfK (f : Nat) (v : D) (ρ : Env) : Option (Nat × List Nat) → Fl
  | some (i, js) => stfM i js f v ρ
  | none => .unk
variable {A : List Nat} {fu : Nat}
@[simp] theorem s_stf (a : E) (f : Nat) (e : E) : exS C A fu (.sto (.fld a f) e) ρ = (ev C false e ρ).st fun v ρ1 => stfK f v ρ1 (path C a ρ1) := by
  show stfS f (path C a) (ev C false e) ρ = _
  unfold stfS stS R.st
  cases ev C false e ρ with
  | ex x ρ' => rfl
  | unk => rfl
  | ok v ρ1 =>
    dsimp only
    cases path C a ρ1 with
    | none => rfl
    | some q => obtain ⟨i, js⟩ := q; rfl
def stfN (i : Nat) (ρ : Env) : Option D → Fl
  | some d' => .nx (ρ.set i (some d'))
  | none => .unk
def stfX (i : Nat) (js : List Nat) (d : D) (ρ : Env) : Option D → Fl
  | some x' => stfN i ρ (D.mod (fun _ => some x') js d)
  | none => .unk
def stfG (f : Nat) (v : D) (i : Nat) (js : List Nat) (d : D) (ρ : Env) : Option D → Fl
  | some x => stfX i js d ρ (stfD f v x)
  | none => .unk
def stfL (f : Nat) (v : D) (i : Nat) (js : List Nat) (ρ : Env) : Option (Option D) → Fl
  | some (some d) => stfG f v i js d ρ (D.get js d)
  | _ => .unk
@[simp] theorem s_stfK (f : Nat) (v : D) (i : Nat) (js : List Nat) : stfK f v ρ (some (i, js)) = stfL f v i js ρ ρ[i]? := by
  show stfM i js f v ρ = _
  unfold stfM stfL stfG stfX stfN
  rcases ρ[i]? with _ | _ | d
  · rfl
  · rfl
  · (dsimp only) <;>
    cases D.get js d with
    | none => rfl
    | some x =>
      (dsimp only) <;>
      cases stfD f v x with
      | none => rfl
      | some q => (dsimp only) <;> (cases D.mod (fun _ => some q) js d <;> rfl)
@[simp] theorem s_stfL (f : Nat) (v : D) (i : Nat) (js : List Nat) (d : D) : stfL f v i js ρ (some (some d)) = stfG f v i js d ρ (D.get js d) := id rfl
@[simp] theorem s_stfG (f : Nat) (v : D) (i : Nat) (js : List Nat) (d x : D) : stfG f v i js d ρ (some x) = stfX i js d ρ (stfD f v x) := id rfl
@[simp] theorem s_stfX (i : Nat) (js : List Nat) (d x : D) : stfX i js d ρ (some x) = stfN i ρ (D.mod (fun _ => some x) js d) := id rfl
@[simp] theorem s_stfN (i : Nat) (d : D) : stfN i ρ (some d) = .nx (ρ.set i (some d)) := id rfl
@[simp] theorem s_stfD {f c : Nat} {v : D} {fs : List Nat} {xs : List D} (h : fs.length < 1000) : stfD f v (.nd (.obj c fs) true xs) = (match posK f fs with
    | some j => some (.nd (.obj c fs) true (xs.set j v))
    | none => some (.nd (.obj c (fs ++ [f])) true (xs ++ [v]))) := by
  show (if decide (fs.length < 1000) = true then _ else _) = _
  rw [if_pos (decide_eq_true h)]
  cases posK f fs <;> rfl
/-! the same for stores of items at deeper places -/
/-! names -/
def augQ (A : List Nat) (i : Nat) (o : BO) (a : Int) (ρ1 : Env) : D → Fl
  | .at (.int b) => (match augI o a b with
      | some c => setS A i (D.int c) ρ1
      | none => .unk)
  | _ => .unk
def augT (A : List Nat) (i : Nat) (ρ1 : Env) : Option D → Fl
  | some c => setS A i c ρ1
  | none => .unk
def augO (C : Calls) (A : List Nat) (i : Nat) (o : BO) (e : E) (ρ : Env) : Option (Option D) → Fl
  | some (some (.at (.int a))) => (ev C false e ρ).st fun d ρ1 => augQ A i o a ρ1 d
  | some (some (.nd .tup false xs)) => (ev C false e ρ).st fun d ρ1 => augT A i ρ1 (augI2 o xs d)
  | _ => .unk
@[simp] theorem s_aug (i : Nat) (o : BO) (e : E) : exS C A fu (.aug i o e) ρ = augO C A i o e ρ ρ[i]? := by
  show augS A i o (ev C false e) ρ = _
  unfold augS augO
  rcases ρ[i]? with _ | _ | d
  · rfl
  · rfl
  · cases d with
    | «at» a =>
      cases a with
      | int a =>
        dsimp only
        unfold stS R.st
        cases ev C false e ρ with
        | ok d ρ1 => dsimp only; unfold augQ; cases d with
          | «at» b => cases b <;> rfl
          | nd k m xs => rfl
        | ex x ρ1 => rfl
        | unk => rfl
      | _ => rfl
    | nd k m xs =>
      cases k <;> cases m <;> rfl
@[simp] theorem s_augI (i : Nat) (o : BO) (e : E) (a : Int) : augO C A i o e ρ (some (some (.at (.int a)))) = (ev C false e ρ).st fun d ρ1 => augQ A i o a ρ1 d := id rfl
@[simp] theorem s_augX (i : Nat) (o : BO) (e : E) (xs : List D) : augO C A i o e ρ (some (some (.nd .tup false xs))) = (ev C false e ρ).st fun d ρ1 => augT A i ρ1 (augI2 o xs d) := id rfl
@[simp] theorem s_augAdd (i : Nat) (a b : Int) : augQ A i .add a ρ (.at (.int b)) = setS A i (D.int (a + b)) ρ := id rfl
@[simp] theorem s_augSub (i : Nat) (a b : Int) : augQ A i .sub a ρ (.at (.int b)) = setS A i (D.int (a - b)) ρ := id rfl
@[simp] theorem s_augT (i : Nat) (d : D) : augT A i ρ (some d) = setS A i d ρ := id rfl
@[simp] theorem s_augTup {xs ys : List D} (h : (lineB (xs.length + ys.length) && (D.cleanL xs && D.cleanL ys)) = true) : augI2 .add xs (.nd .tup false ys) = some (D.tup (xs ++ ys)) := if_pos h
@[simp] theorem s_unpS {is : List Nat} {d : D} (h : (is.all (fun i => decide (i ∈ A)) && d.clean) = true) : unpS A is d ρ = optS (asnD is false d ρ) := if_pos h
@[simp] theorem s_optS (ρ : Env) : optS (some ρ) = .nx ρ := id rfl
@[simp] theorem z_mk (c : Nat) (es : List E) : ev C p (.mk c es) ρ = ((evs C es ρ).bnd fun ds => mkM C c (ds.map D.frz)).fn p := id rfl
def mkR (ρ : Env) (r : CR) : R D := match r with
    | .ok d [r] => if isNon d then .ok r ρ else .unk
    | .ex x _ => .ex x ρ
    | _ => .unk
def mkI (C : Calls) (c : Nat) (ds : List D) (ρ : Env) : Option Nat → R D
  | some f => mkR ρ (C.call f (true :: ds.map fun _ => false) (.nd (.obj c []) true [] :: ds))
  | none => .unk
@[simp] theorem z_mkM (c : Nat) (ds : List D) : mkM C c ds ρ = mkI C c ds ρ (C.init c) := by
  unfold mkM mkI mkR
  cases C.init c <;> rfl
@[simp] theorem z_mkI (c f : Nat) (ds : List D) : mkI C c ds ρ (some f) = mkR ρ (C.call f (true :: ds.map fun _ => false) (.nd (.obj c []) true [] :: ds)) := id rfl
@[simp] theorem z_mkR (r : D) : mkR ρ (.ok D.non [r]) = .ok r ρ := id rfl
theorem z_sh (i : Nat) : ev C p (.sh i) ρ = (match ρ[i]? with
    | some (some d) => .ok d.frz (ρ.set i (some d.frz))
    | _ => .unk) := id rfl
@[simp] theorem z_par (i j : Nat) (a b : E) : exS C A fu (.par i j a b) ρ = (evs C [a, b] ρ).st fun ds ρ => parS A i j ds ρ := id rfl
@[simp] theorem s_parS {i j : Nat} {a b : D} (h : ((decide (i ∈ A) && decide (j ∈ A)) && (decide (i < ρ.length) && decide (j < ρ.length))) = true) : parS A i j [a, b] ρ = .nx ((ρ.set i (some a)).set j (some b)) := if_pos h
def tyA (C : Calls) (x : D) (ts : List Ty) : Bool := ts.any (tyD C.sub x)
end
/-! typed lists -/
abbrev dN (n : Nat) : D := D.int n
abbrev tM {α : Type} (f : α → D) (xs : List α) : D := .nd .tup false (xs.map f)
abbrev lM {α : Type} (f : α → D) (xs : List α) : D := .nd .lst false (xs.map f)
abbrev oM {α : Type} (f : α → D) (xs : List α) : D := .nd .lst true (xs.map f)
abbrev tN (ns : List Nat) : D := tM dN ns
abbrev dB (b : Bool) : D := D.bl b
@[simp] theorem q_clL {α : Type} (f : α → D) (xs : List α) (h : ∀ x, (f x).clean = true) : D.cleanL (xs.map f) = true := cl_all fun d hd => by
  obtain ⟨x, _, rfl⟩ := List.mem_map.mp hd
  exact h x
theorem cl_tM {α : Type} (f : α → D) (xs : List α) (h : ∀ x, (f x).clean = true) : (tM f xs).clean = true := by
  show (!false && D.cleanL (xs.map f)) = true
  rw [q_clL f xs h]; rfl
theorem cl_lM {α : Type} (f : α → D) (xs : List α) (h : ∀ x, (f x).clean = true) : (lM f xs).clean = true := by
  show (!false && D.cleanL (xs.map f)) = true
  rw [q_clL f xs h]; rfl
@[simp] theorem q_clN (ns : List Nat) : D.cleanL (ns.map dN) = true := q_clL _ _ fun _ => rfl
@[simp] theorem q_clB (ns : List Bool) : D.cleanL (ns.map dB) = true := q_clL _ _ fun _ => rfl
@[simp] theorem q_clT (xs : List (List Nat)) : D.cleanL (xs.map tN) = true := q_clL _ _ fun x => cl_tM _ _ fun _ => rfl
@[simp] theorem q_clTT (xs : List (List (List Nat))) : D.cleanL (xs.map (tM tN)) = true := q_clL _ _ fun x => cl_tM _ _ fun y => cl_tM _ _ fun _ => rfl
@[simp] theorem q_clLB (xs : List (List Bool)) : D.cleanL (xs.map (lM dB)) = true := q_clL _ _ fun x => cl_lM _ _ fun _ => rfl
@[simp] theorem q_cl0 : D.cleanL [] = true := id rfl
@[simp] theorem q_cl1 (x : D) (xs : List D) : D.cleanL (x :: xs) = (x.clean && D.cleanL xs) := id rfl
@[simp] theorem q_clA (xs ys : List D) : D.cleanL (xs ++ ys) = (D.cleanL xs && D.cleanL ys) := by
  rw [cleanL_all, cleanL_all, cleanL_all, List.all_append]
@[simp] theorem q_clnd (k : Kd) (m : Bool) (xs : List D) : (D.nd k m xs).clean = (!m && D.cleanL xs) := id rfl
/-- frozen -/
@[simp] theorem q_frz (k : Kd) (m : Bool) (xs : List D) : (D.nd k m xs).frz = .nd k false (D.frzL xs) := id rfl
@[simp] theorem q_frzM {α : Type} (f : α → D) (xs : List α) (h : ∀ x, (f x).clean = true) : D.frzL (xs.map f) = xs.map f := frzL_of_clean _ (q_clL f xs h)
@[simp] theorem q_frzN (ns : List Nat) : D.frzL (ns.map dN) = ns.map dN := frzL_of_clean _ (q_clN ns)
@[simp] theorem q_frzB (ns : List Bool) : D.frzL (ns.map dB) = ns.map dB := frzL_of_clean _ (q_clB ns)
@[simp] theorem q_frzT (ns : List (List Nat)) : D.frzL (ns.map tN) = ns.map tN := frzL_of_clean _ (q_clT ns)
@[simp] theorem q_frzTT (ns : List (List (List Nat))) : D.frzL (ns.map (tM tN)) = ns.map (tM tN) := frzL_of_clean _ (q_clTT ns)
@[simp] theorem q_frzLB (ns : List (List Bool)) : D.frzL (ns.map (lM dB)) = ns.map (lM dB) := frzL_of_clean _ (q_clLB ns)
@[simp] theorem q_frz0 : D.frzL [] = [] := id rfl
@[simp] theorem q_frz1 (x : D) (xs : List D) : D.frzL (x :: xs) = x.frz :: D.frzL xs := id rfl
@[simp] theorem q_frzA (xs ys : List D) : D.frzL (xs ++ ys) = D.frzL xs ++ D.frzL ys := by rw [frzL_map, frzL_map, frzL_map, List.map_append]
/-! items of sources -/
theorem range_ys (lo n : Nat) : rngD lo n = (List.range' lo n).map dN := by
  unfold rngD
  rw [List.range'_eq_map_range, List.map_map]
  refine List.map_congr_left fun i _ => ?_
  show D.int ((lo : Int) + i) = D.int ((lo + i : Nat) : Int)
  rw [Int.natCast_add]
theorem range_ys0 (n : Nat) : rngD 0 n = (List.range n).map dN := by
  have := range_ys 0 n
  rw [show ((0 : Nat) : Int) = 0 from rfl] at this
  rw [this, List.range_eq_range']
theorem enum_ys {α : Type} (f : α → D) : ∀ (xs : List α) (n : Nat), enumD n (xs.map f) = (xs.zipIdx n).map fun p => D.tup [dN p.2, f p.1]
  | [], _ => rfl
  | x :: xs, n => by
    rw [List.map_cons, List.zipIdx_cons, List.map_cons]
    show D.tup [D.int n, f x] :: enumD (n + 1) (xs.map f) = _
    rw [enum_ys f xs (n + 1)]
theorem smallN {n : Nat} (h : n < 4611686018427387904) : smallI n = true := by
  unfold smallI
  rw [Bool.and_eq_true, decide_eq_true_eq, decide_eq_true_eq]
  constructor <;> omega
theorem it_rng {n : Nat} (h : n < 4611686018427387904) : itemsD .range [.at (.int n)] = some ((List.range n).map dN) := by
  show (if smallI n = true then some (rngD 0 (n : Int).toNat) else none) = _
  rw [if_pos (smallN h), Int.toNat_natCast, range_ys0]
theorem it_rng2 {a b : Nat} (h : a < 4611686018427387904) (h2 : b < 4611686018427387904) : itemsD .range [.at (.int a), .at (.int b)] = some ((List.range' a (b - a)).map dN) := by
  show (if (smallI a && smallI b) = true then some (rngD a ((b : Int) - a).toNat) else none) = _
  rw [if_pos (by rw [smallN h, smallN h2]; rfl), ← range_ys]
  congr 2
  omega
theorem it_rng1 {b : Nat} (h2 : b < 4611686018427387904) : itemsD .range [.at (.int 1), .at (.int b)] = some ((List.range' 1 (b - 1)).map dN) := it_rng2 (a := 1) (by decide) h2
theorem it_rngS {i : Int} {n : Nat} (e : i = n) (h : n < 4611686018427387904) : itemsD .range [.at (.int i)] = some ((List.range n).map dN) := by subst e; exact it_rng h
theorem it_rng2S {i j : Int} {a b : Nat} (e1 : i = a) (e2 : j = b) (h : a < 4611686018427387904) (h2 : b < 4611686018427387904) : itemsD .range [.at (.int i), .at (.int j)] = some ((List.range' a (b - a)).map dN) := by subst e1; subst e2; exact it_rng2 h h2
@[simp] theorem q_seqT (xs : List D) : itemsD .seq [.nd .tup false xs] = some xs := id rfl
@[simp] theorem q_seqL {m : Bool} (xs : List D) : itemsD .seq [.nd .lst m xs] = some xs := id rfl
@[simp] theorem q_enT {α : Type} (f : α → D) {m : Bool} (xs : List α) : itemsD .enum [.nd .tup m (xs.map f)] = some ((xs.zipIdx).map fun p => D.tup [dN p.2, f p.1]) := by
  show some (enumD 0 (xs.map f)) = _
  rw [enum_ys]
@[simp] theorem q_enL {α : Type} (f : α → D) {m : Bool} (xs : List α) : itemsD .enum [.nd .lst m (xs.map f)] = some ((xs.zipIdx).map fun p => D.tup [dN p.2, f p.1]) := by
  show some (enumD 0 (xs.map f)) = _
  rw [enum_ys]
theorem zipWith_map {α β : Type} (f : α → D) (g : β → D) : ∀ (xs : List α) (ys : List β), List.zipWith (fun x y => D.tup [x, y]) (xs.map f) (ys.map g) = (xs.zip ys).map fun p => D.tup [f p.1, g p.2]
  | [], _ => by simp
  | _ :: _, [] => by simp
  | x :: xs, y :: ys => by
    rw [List.map_cons, List.map_cons, List.zipWith_cons_cons, List.zip_cons_cons, List.map_cons, zipWith_map f g xs ys]
theorem it_zipT {α β : Type} (f : α → D) (g : β → D) {m m2 : Bool} (xs : List α) (ys : List β) (h : (D.cleanL (xs.map f) && D.cleanL (ys.map g)) = true) : itemsD .zip [.nd .tup m (xs.map f), .nd .tup m2 (ys.map g)] = some ((xs.zip ys).map fun p => D.tup [f p.1, g p.2]) := by
  show (if (D.cleanL (xs.map f) && D.cleanL (ys.map g)) = true then _ else _) = _
  rw [if_pos h, zipWith_map]
/-! all, any, tuple, len .. -/
@[simp] theorem q_len {m : Bool} (xs : List D) : b1D .len (.nd .tup m xs) = some (D.int xs.length) := id rfl
@[simp] theorem q_lenL {m : Bool} (xs : List D) : b1D .len (.nd .lst m xs) = some (D.int xs.length) := id rfl
@[simp] theorem q_lenS {m : Bool} (xs : List D) : b1D .len (.nd .scr m xs) = some (D.int xs.length) := id rfl
@[simp] theorem q_all {α : Type} {m : Bool} (g : α → Bool) (xs : List α) : b1D .all (.nd .lst m (xs.map fun x => D.bl (g x))) = some (D.bl (xs.all g)) := by
  show (blsOf _).map _ = _
  rw [bls_map]
  show some (D.bl ((xs.map g).all id)) = _
  rw [List.all_map]; rfl
@[simp] theorem q_any {α : Type} {m : Bool} (g : α → Bool) (xs : List α) : b1D .any (.nd .lst m (xs.map fun x => D.bl (g x))) = some (D.bl (xs.any g)) := by
  show (blsOf _).map _ = _
  rw [bls_map]
  show some (D.bl ((xs.map g).any id)) = _
  rw [List.any_map]; rfl
@[simp] theorem q_tup {m : Bool} {xs : List D} (h : D.cleanL xs = true) : b1D .tuple (.nd .lst m xs) = some (D.tup xs) := if_pos h
@[simp] theorem q_tupT {xs : List D} (h : D.cleanL xs = true) : b1D .tuple (.nd .tup false xs) = some (D.tup xs) := if_pos h
@[simp] theorem q_lst {m : Bool} {xs : List D} (h : D.cleanL xs = true) : b1D .list (.nd .lst m xs) = some (D.lst true xs) := if_pos h
@[simp] theorem q_lstT {xs : List D} (h : D.cleanL xs = true) : b1D .list (.nd .tup false xs) = some (D.lst true xs) := if_pos h
/-! equality, in -/
theorem eqv_int (a b : Int) : D.eqv (.at (.int a)) (.at (.int b)) = (a == b) := id rfl
theorem eqv_nd (xs ys : List D) {m m2 : Bool} : D.eqv (.nd .tup m xs) (.nd .tup m2 ys) = D.eqvL xs ys := by
  rw [D.eqv]
theorem eqv_ndL (xs ys : List D) {m m2 : Bool} : D.eqv (.nd .lst m xs) (.nd .lst m2 ys) = D.eqvL xs ys := by
  rw [D.eqv]
theorem eqvL_map {α : Type} [DecidableEq α] (f : α → D) (h : ∀ a b, D.eqv (f a) (f b) = decide (a = b)) : ∀ xs ys : List α, D.eqvL (xs.map f) (ys.map f) = decide (xs = ys)
  | [], [] => rfl
  | [], _ :: _ => by simp [D.eqvL]
  | _ :: _, [] => by simp [D.eqvL]
  | x :: xs, y :: ys => by
    show (D.eqv (f x) (f y) && D.eqvL (xs.map f) (ys.map f)) = _
    rw [h, eqvL_map f h xs ys]
    by_cases h1 : x = y <;> by_cases h2 : xs = ys <;> simp [h1, h2]
theorem eqv_dN (a b : Nat) : D.eqv (dN a) (dN b) = decide (a = b) := by
  show ((a : Int) == b) = _
  by_cases h : a = b
  · subst h; simp
  · rw [decide_eq_false h]
    have : ¬ (a : Int) = b := fun e => h (by omega)
    simpa using this
theorem eqv_tN (a b : List Nat) : D.eqv (tN a) (tN b) = decide (a = b) := by
  show D.eqv (.nd .tup false _) (.nd .tup false _) = _
  rw [eqv_nd, eqvL_map _ eqv_dN]
theorem eqv_tT (a b : List (List Nat)) : D.eqv (tM tN a) (tM tN b) = decide (a = b) := by
  show D.eqv (.nd .tup false _) (.nd .tup false _) = _
  rw [eqv_nd, eqvL_map _ eqv_tN]
theorem shpL_map {α : Type} (n : Nat) (f : α → D) (h : ∀ a, D.shp n (f a) = true) : ∀ xs : List α, D.shpL n (xs.map f) = true
  | [] => rfl
  | x :: xs => by show (D.shp n (f x) && D.shpL n (xs.map f)) = true; rw [h, shpL_map n f h xs]; rfl
theorem shp_dN (n a : Nat) : D.shp n (dN a) = true := by cases n <;> rfl
theorem shp_tM {α : Type} (n : Nat) (f : α → D) (h : ∀ a, D.shp n (f a) = true) (xs : List α) : D.shp (n + 1) (tM f xs) = true := shpL_map n f h xs
theorem shp_tN (n : Nat) (a : List Nat) : D.shp (n + 1) (tN a) = true := shp_tM n dN (shp_dN n) a
theorem shp_tT (n : Nat) (a : List (List Nat)) : D.shp (n + 2) (tM tN a) = true := shp_tM (n + 1) tN (shp_tN n) a
@[simp] theorem q_eqT (a b : List Nat) : cmpD .eq (tN a) (tN b) = some (decide (a = b)) := by
  show (if (D.shp 64 (tN a) && D.shp 64 (tN b)) = true then some (D.eqv (tN a) (tN b)) else none) = _
  rw [shp_tN 63, shp_tN 63, eqv_tN]; rfl
@[simp] theorem q_neT (a b : List Nat) : cmpD .ne (tN a) (tN b) = some (!decide (a = b)) := by
  show (if (D.shp 64 (tN a) && D.shp 64 (tN b)) = true then some (!D.eqv (tN a) (tN b)) else none) = _
  rw [shp_tN 63, shp_tN 63, eqv_tN]; rfl
@[simp] theorem q_eqTT (a b : List (List Nat)) : cmpD .eq (tM tN a) (tM tN b) = some (decide (a = b)) := by
  show (if (D.shp 64 (tM tN a) && D.shp 64 (tM tN b)) = true then some (D.eqv (tM tN a) (tM tN b)) else none) = _
  rw [shp_tT 62, shp_tT 62, eqv_tT]; rfl
@[simp] theorem q_neTT (a b : List (List Nat)) : cmpD .ne (tM tN a) (tM tN b) = some (!decide (a = b)) := by
  show (if (D.shp 64 (tM tN a) && D.shp 64 (tM tN b)) = true then some (!D.eqv (tM tN a) (tM tN b)) else none) = _
  rw [shp_tT 62, shp_tT 62, eqv_tT]; rfl
theorem any_eq {α : Type} [DecidableEq α] (f : α → D) (h : ∀ a b, D.eqv (f a) (f b) = decide (a = b)) (x : α) (xs : List α) : ((xs.map f).any fun y => D.eqv y (f x)) = decide (x ∈ xs) := by
  rw [List.any_map]
  induction xs with
  | nil => simp
  | cons y ys ih =>
    rw [List.any_cons, ih]
    show (D.eqv (f y) (f x) || _) = _
    rw [h]
    by_cases h1 : y = x
    · subst h1; simp
    · have h2 : ¬ x = y := fun e => h1 e.symm
      simp [h1, h2]
@[simp] theorem q_inN (x : Nat) (xs : List Nat) {m : Bool} : cmpD .inn (.at (.int x)) (.nd .tup m (xs.map dN)) = some (decide (x ∈ xs)) := by
  show (if (D.shp 63 (dN x) && D.shpL 63 (xs.map dN)) = true then some ((xs.map dN).any fun y => D.eqv y (dN x)) else none) = _
  rw [shp_dN, shpL_map 63 dN (shp_dN 63), any_eq _ eqv_dN]; rfl
@[simp] theorem q_ninN (x : Nat) (xs : List Nat) {m : Bool} : cmpD .nin (.at (.int x)) (.nd .tup m (xs.map dN)) = some (!decide (x ∈ xs)) := by
  show (if (D.shp 63 (dN x) && D.shpL 63 (xs.map dN)) = true then some (!(xs.map dN).any fun y => D.eqv y (dN x)) else none) = _
  rw [shp_dN, shpL_map 63 dN (shp_dN 63), any_eq _ eqv_dN]; rfl
@[simp] theorem q_inNL (x : Nat) (xs : List Nat) {m : Bool} : cmpD .inn (.at (.int x)) (.nd .lst m (xs.map dN)) = some (decide (x ∈ xs)) := by
  show (if (D.shp 63 (dN x) && D.shpL 63 (xs.map dN)) = true then some ((xs.map dN).any fun y => D.eqv y (dN x)) else none) = _
  rw [shp_dN, shpL_map 63 dN (shp_dN 63), any_eq _ eqv_dN]; rfl
/-! indices -/
theorem idx_mapT {α : Type} {f : α → D} {m : Bool} {xs : List α} {k : Nat} (h : k < xs.length) : idxD (.nd .tup m (xs.map f)) (.at (.int k)) = some (f xs[k]) := by
  rw [idx_tup (by rw [List.length_map]; exact h), List.getElem?_map, List.getElem?_eq_getElem h]; rfl
theorem idx_mapL {α : Type} {f : α → D} {m : Bool} {xs : List α} {k : Nat} (h : k < xs.length) : idxD (.nd .lst m (xs.map f)) (.at (.int k)) = some (f xs[k]) := by
  rw [idx_lst (by rw [List.length_map]; exact h), List.getElem?_map, List.getElem?_eq_getElem h]; rfl
@[simp] theorem q_allT {α : Type} (xs : List α) : (xs.all fun _ => true) = true := by induction xs <;> simp_all
@[simp] theorem q_anyF {α : Type} (xs : List α) : (xs.any fun _ => false) = false := by induction xs <;> simp_all
@[simp] theorem q_line0 : lineB 0 = true := by decide
@[simp] theorem q_line1 : lineB 1 = true := by decide
@[simp] theorem q_line2 : lineB 2 = true := by decide
@[simp] theorem q_line3 : lineB 3 = true := by decide
@[simp] theorem q_line4 : lineB 4 = true := by decide
@[simp] theorem q_line5 : lineB 5 = true := by decide
@[simp] theorem q_line6 : lineB 6 = true := by decide
@[simp] theorem q_line7 : lineB 7 = true := by decide
@[simp] theorem q_line8 : lineB 8 = true := by decide
@[simp] theorem q_line9 : lineB 9 = true := by decide
@[simp] theorem q_line10 : lineB 10 = true := by decide
@[simp] theorem q_line11 : lineB 11 = true := by decide
@[simp] theorem q_line12 : lineB 12 = true := by decide
/-! isinstance -/
@[simp] theorem q_isA {s : Nat → Nat → Bool} {ts : List Ty} {a : At} : isiO s ts (.at a) = some (D.bl (ts.any (tyD s (.at a)))) := id rfl
@[simp] theorem q_isT {s : Nat → Nat → Bool} {ts : List Ty} {m : Bool} {xs : List D} : isiO s ts (.nd .tup m xs) = some (D.bl (ts.any (tyD s (.nd .tup m xs)))) := id rfl
@[simp] theorem q_isL {s : Nat → Nat → Bool} {ts : List Ty} {m : Bool} {xs : List D} : isiO s ts (.nd .lst m xs) = some (D.bl (ts.any (tyD s (.nd .lst m xs)))) := id rfl
@[simp] theorem q_isR {s : Nat → Nat → Bool} {ts : List Ty} {m : Bool} {xs : List D} : isiO s ts (.nd .scr m xs) = some (D.bl (ts.any (tyD s (.nd .scr m xs)))) := id rfl
@[simp] theorem q_isK {s : Nat → Nat → Bool} {ts : List Ty} {m : Bool} {xs : List D} {ks : List Key} : isiO s ts (.nd (.dk ks) m xs) = some (D.bl (ts.any (tyD s (.nd (.dk ks) m xs)))) := id rfl
@[simp] theorem q_isQ {s : Nat → Nat → Bool} {ts : List Ty} {m : Bool} {xs : List D} {ks : List (List Key)} : isiO s ts (.nd (.dt ks) m xs) = some (D.bl (ts.any (tyD s (.nd (.dt ks) m xs)))) := id rfl
@[simp] theorem q_isO {s : Nat → Nat → Bool} {ts : List Ty} {m : Bool} {xs : List D} {c : Nat} {fs : List Nat} : isiO s ts (.nd (.obj c fs) m xs) = some (D.bl (ts.any (tyD s (.nd (.obj c fs) m xs)))) := id rfl
@[simp] theorem q_tyI_int {s : Nat → Nat → Bool} {i : Int} : tyD s (.at (.int i)) .int = true := id rfl
@[simp] theorem q_tyI_bool {s : Nat → Nat → Bool} {i : Int} : tyD s (.at (.int i)) .bool = false := id rfl
@[simp] theorem q_tyI_str {s : Nat → Nat → Bool} {i : Int} : tyD s (.at (.int i)) .str = false := id rfl
@[simp] theorem q_tyI_tuple {s : Nat → Nat → Bool} {i : Int} : tyD s (.at (.int i)) .tuple = false := id rfl
@[simp] theorem q_tyI_list {s : Nat → Nat → Bool} {i : Int} : tyD s (.at (.int i)) .list = false := id rfl
@[simp] theorem q_tyI_dict {s : Nat → Nat → Bool} {i : Int} : tyD s (.at (.int i)) .dict = false := id rfl
@[simp] theorem q_tyI_cls {s : Nat → Nat → Bool} {i : Int} {c2 : Nat} : tyD s (.at (.int i)) (.cls c2) = false := id rfl
@[simp] theorem q_tyB_int {s : Nat → Nat → Bool} {i : Bool} : tyD s (.at (.bl i)) .int = true := id rfl
@[simp] theorem q_tyB_bool {s : Nat → Nat → Bool} {i : Bool} : tyD s (.at (.bl i)) .bool = true := id rfl
@[simp] theorem q_tyB_str {s : Nat → Nat → Bool} {i : Bool} : tyD s (.at (.bl i)) .str = false := id rfl
@[simp] theorem q_tyB_tuple {s : Nat → Nat → Bool} {i : Bool} : tyD s (.at (.bl i)) .tuple = false := id rfl
@[simp] theorem q_tyB_list {s : Nat → Nat → Bool} {i : Bool} : tyD s (.at (.bl i)) .list = false := id rfl
@[simp] theorem q_tyB_dict {s : Nat → Nat → Bool} {i : Bool} : tyD s (.at (.bl i)) .dict = false := id rfl
@[simp] theorem q_tyB_cls {s : Nat → Nat → Bool} {i : Bool} {c2 : Nat} : tyD s (.at (.bl i)) (.cls c2) = false := id rfl
@[simp] theorem q_tyS_int {s : Nat → Nat → Bool} {i : PySem.Str} : tyD s (.at (.str i)) .int = false := id rfl
@[simp] theorem q_tyS_bool {s : Nat → Nat → Bool} {i : PySem.Str} : tyD s (.at (.str i)) .bool = false := id rfl
@[simp] theorem q_tyS_str {s : Nat → Nat → Bool} {i : PySem.Str} : tyD s (.at (.str i)) .str = true := id rfl
@[simp] theorem q_tyS_tuple {s : Nat → Nat → Bool} {i : PySem.Str} : tyD s (.at (.str i)) .tuple = false := id rfl
@[simp] theorem q_tyS_list {s : Nat → Nat → Bool} {i : PySem.Str} : tyD s (.at (.str i)) .list = false := id rfl
@[simp] theorem q_tyS_dict {s : Nat → Nat → Bool} {i : PySem.Str} : tyD s (.at (.str i)) .dict = false := id rfl
@[simp] theorem q_tyS_cls {s : Nat → Nat → Bool} {i : PySem.Str} {c2 : Nat} : tyD s (.at (.str i)) (.cls c2) = false := id rfl
@[simp] theorem q_tyN_int {s : Nat → Nat → Bool}  : tyD s (.at .non) .int = false := id rfl
@[simp] theorem q_tyN_bool {s : Nat → Nat → Bool}  : tyD s (.at .non) .bool = false := id rfl
@[simp] theorem q_tyN_str {s : Nat → Nat → Bool}  : tyD s (.at .non) .str = false := id rfl
@[simp] theorem q_tyN_tuple {s : Nat → Nat → Bool}  : tyD s (.at .non) .tuple = false := id rfl
@[simp] theorem q_tyN_list {s : Nat → Nat → Bool}  : tyD s (.at .non) .list = false := id rfl
@[simp] theorem q_tyN_dict {s : Nat → Nat → Bool}  : tyD s (.at .non) .dict = false := id rfl
@[simp] theorem q_tyN_cls {s : Nat → Nat → Bool}  {c2 : Nat} : tyD s (.at .non) (.cls c2) = false := id rfl
@[simp] theorem q_tyT_int {s : Nat → Nat → Bool} {m : Bool} {xs : List D} : tyD s (.nd .tup m xs) .int = false := id rfl
@[simp] theorem q_tyT_bool {s : Nat → Nat → Bool} {m : Bool} {xs : List D} : tyD s (.nd .tup m xs) .bool = false := id rfl
@[simp] theorem q_tyT_str {s : Nat → Nat → Bool} {m : Bool} {xs : List D} : tyD s (.nd .tup m xs) .str = false := id rfl
@[simp] theorem q_tyT_tuple {s : Nat → Nat → Bool} {m : Bool} {xs : List D} : tyD s (.nd .tup m xs) .tuple = true := id rfl
@[simp] theorem q_tyT_list {s : Nat → Nat → Bool} {m : Bool} {xs : List D} : tyD s (.nd .tup m xs) .list = false := id rfl
@[simp] theorem q_tyT_dict {s : Nat → Nat → Bool} {m : Bool} {xs : List D} : tyD s (.nd .tup m xs) .dict = false := id rfl
@[simp] theorem q_tyT_cls {s : Nat → Nat → Bool} {m : Bool} {xs : List D} {c2 : Nat} : tyD s (.nd .tup m xs) (.cls c2) = false := id rfl
@[simp] theorem q_tyL_int {s : Nat → Nat → Bool} {m : Bool} {xs : List D} : tyD s (.nd .lst m xs) .int = false := id rfl
@[simp] theorem q_tyL_bool {s : Nat → Nat → Bool} {m : Bool} {xs : List D} : tyD s (.nd .lst m xs) .bool = false := id rfl
@[simp] theorem q_tyL_str {s : Nat → Nat → Bool} {m : Bool} {xs : List D} : tyD s (.nd .lst m xs) .str = false := id rfl
@[simp] theorem q_tyL_tuple {s : Nat → Nat → Bool} {m : Bool} {xs : List D} : tyD s (.nd .lst m xs) .tuple = false := id rfl
@[simp] theorem q_tyL_list {s : Nat → Nat → Bool} {m : Bool} {xs : List D} : tyD s (.nd .lst m xs) .list = true := id rfl
@[simp] theorem q_tyL_dict {s : Nat → Nat → Bool} {m : Bool} {xs : List D} : tyD s (.nd .lst m xs) .dict = false := id rfl
@[simp] theorem q_tyL_cls {s : Nat → Nat → Bool} {m : Bool} {xs : List D} {c2 : Nat} : tyD s (.nd .lst m xs) (.cls c2) = false := id rfl
@[simp] theorem q_tyR_int {s : Nat → Nat → Bool} {m : Bool} {xs : List D} : tyD s (.nd .scr m xs) .int = false := id rfl
@[simp] theorem q_tyR_bool {s : Nat → Nat → Bool} {m : Bool} {xs : List D} : tyD s (.nd .scr m xs) .bool = false := id rfl
@[simp] theorem q_tyR_str {s : Nat → Nat → Bool} {m : Bool} {xs : List D} : tyD s (.nd .scr m xs) .str = false := id rfl
@[simp] theorem q_tyR_tuple {s : Nat → Nat → Bool} {m : Bool} {xs : List D} : tyD s (.nd .scr m xs) .tuple = false := id rfl
@[simp] theorem q_tyR_list {s : Nat → Nat → Bool} {m : Bool} {xs : List D} : tyD s (.nd .scr m xs) .list = true := id rfl
@[simp] theorem q_tyR_dict {s : Nat → Nat → Bool} {m : Bool} {xs : List D} : tyD s (.nd .scr m xs) .dict = false := id rfl
@[simp] theorem q_tyR_cls {s : Nat → Nat → Bool} {m : Bool} {xs : List D} {c2 : Nat} : tyD s (.nd .scr m xs) (.cls c2) = false := id rfl
@[simp] theorem q_tyK_int {s : Nat → Nat → Bool} {m : Bool} {xs : List D} {ks : List Key} : tyD s (.nd (.dk ks) m xs) .int = false := id rfl
@[simp] theorem q_tyK_bool {s : Nat → Nat → Bool} {m : Bool} {xs : List D} {ks : List Key} : tyD s (.nd (.dk ks) m xs) .bool = false := id rfl
@[simp] theorem q_tyK_str {s : Nat → Nat → Bool} {m : Bool} {xs : List D} {ks : List Key} : tyD s (.nd (.dk ks) m xs) .str = false := id rfl
@[simp] theorem q_tyK_tuple {s : Nat → Nat → Bool} {m : Bool} {xs : List D} {ks : List Key} : tyD s (.nd (.dk ks) m xs) .tuple = false := id rfl
@[simp] theorem q_tyK_list {s : Nat → Nat → Bool} {m : Bool} {xs : List D} {ks : List Key} : tyD s (.nd (.dk ks) m xs) .list = false := id rfl
@[simp] theorem q_tyK_dict {s : Nat → Nat → Bool} {m : Bool} {xs : List D} {ks : List Key} : tyD s (.nd (.dk ks) m xs) .dict = true := id rfl
@[simp] theorem q_tyK_cls {s : Nat → Nat → Bool} {m : Bool} {xs : List D} {ks : List Key} {c2 : Nat} : tyD s (.nd (.dk ks) m xs) (.cls c2) = false := id rfl
@[simp] theorem q_tyQ_int {s : Nat → Nat → Bool} {m : Bool} {xs : List D} {ks : List (List Key)} : tyD s (.nd (.dt ks) m xs) .int = false := id rfl
@[simp] theorem q_tyQ_bool {s : Nat → Nat → Bool} {m : Bool} {xs : List D} {ks : List (List Key)} : tyD s (.nd (.dt ks) m xs) .bool = false := id rfl
@[simp] theorem q_tyQ_str {s : Nat → Nat → Bool} {m : Bool} {xs : List D} {ks : List (List Key)} : tyD s (.nd (.dt ks) m xs) .str = false := id rfl
@[simp] theorem q_tyQ_tuple {s : Nat → Nat → Bool} {m : Bool} {xs : List D} {ks : List (List Key)} : tyD s (.nd (.dt ks) m xs) .tuple = false := id rfl
@[simp] theorem q_tyQ_list {s : Nat → Nat → Bool} {m : Bool} {xs : List D} {ks : List (List Key)} : tyD s (.nd (.dt ks) m xs) .list = false := id rfl
@[simp] theorem q_tyQ_dict {s : Nat → Nat → Bool} {m : Bool} {xs : List D} {ks : List (List Key)} : tyD s (.nd (.dt ks) m xs) .dict = true := id rfl
@[simp] theorem q_tyQ_cls {s : Nat → Nat → Bool} {m : Bool} {xs : List D} {ks : List (List Key)} {c2 : Nat} : tyD s (.nd (.dt ks) m xs) (.cls c2) = false := id rfl
@[simp] theorem q_tyO_int {s : Nat → Nat → Bool} {m : Bool} {xs : List D} {c : Nat} {fs : List Nat} : tyD s (.nd (.obj c fs) m xs) .int = false := id rfl
@[simp] theorem q_tyO_bool {s : Nat → Nat → Bool} {m : Bool} {xs : List D} {c : Nat} {fs : List Nat} : tyD s (.nd (.obj c fs) m xs) .bool = false := id rfl
@[simp] theorem q_tyO_str {s : Nat → Nat → Bool} {m : Bool} {xs : List D} {c : Nat} {fs : List Nat} : tyD s (.nd (.obj c fs) m xs) .str = false := id rfl
@[simp] theorem q_tyO_tuple {s : Nat → Nat → Bool} {m : Bool} {xs : List D} {c : Nat} {fs : List Nat} : tyD s (.nd (.obj c fs) m xs) .tuple = false := id rfl
@[simp] theorem q_tyO_list {s : Nat → Nat → Bool} {m : Bool} {xs : List D} {c : Nat} {fs : List Nat} : tyD s (.nd (.obj c fs) m xs) .list = false := id rfl
@[simp] theorem q_tyO_dict {s : Nat → Nat → Bool} {m : Bool} {xs : List D} {c : Nat} {fs : List Nat} : tyD s (.nd (.obj c fs) m xs) .dict = false := id rfl
@[simp] theorem q_tyO_cls {s : Nat → Nat → Bool} {m : Bool} {xs : List D} {c : Nat} {fs : List Nat} {c2 : Nat} : tyD s (.nd (.obj c fs) m xs) (.cls c2) = s c c2 := id rfl
end Ev

set_option Elab.async false
set_option linter.all false
set_option maxRecDepth 100000
set_option maxHeartbeats 4000000
/-! cuts, slices, sorted pairs .. -/
namespace Ev
open PySem PySem.Spec L2
theorem exL_app {C : Calls} {A : List Nat} {fu : Nat} : ∀ (xs ys : List S) (ρ : Env), exL C A fu (xs ++ ys) ρ = seqS (exL C A fu xs ρ) (exL C A fu ys)
  | [], ys, ρ => rfl
  | x :: xs, ys, ρ => by
    show seqS (exS C A fu x ρ) (exL C A fu (xs ++ ys)) = seqS (seqS (exS C A fu x ρ) (exL C A fu xs)) (exL C A fu ys)
    cases exS C A fu x ρ with
    | nx ρ' => exact exL_app xs ys ρ'
    | _ => rfl
/-- the first n statements come to an end, and I holds there -/
theorem x_cut {C : Calls} {A : List Nat} {fu : Nat} {ss : List S} {ρ : Env} {Q : Fl → Prop} (n : Nat) (I : Env → Prop) (h1 : sX (exL C A fu (ss.take n) ρ) fun f => ∃ ρ', f = .nx ρ' ∧ I ρ')
    (h2 : ∀ ρ', I ρ' → sX (exL C A fu (ss.drop n) ρ') Q) : sX (exL C A fu ss ρ) Q := by
  have e : ss = ss.take n ++ ss.drop n := (List.take_append_drop n ss).symm
  rw [e, exL_app, x_seq]
  refine sX_mono h1 ?_
  rintro f ⟨ρ', rfl, i⟩
  exact (h2 ρ' i).run |> fun h => by rw [k_Qnx]; exact ⟨h⟩
/-- .. or tell by themselves -/
theorem x_cutQ {C : Calls} {A : List Nat} {fu : Nat} {ss : List S} {ρ : Env} {Q : Fl → Prop} (n : Nat) (I : Env → Prop) (h1 : sX (exL C A fu (ss.take n) ρ) fun f => (∃ ρ', f = .nx ρ' ∧ I ρ') ∨ ((∀ ρ', f ≠ .nx ρ') ∧ Q f))
    (h2 : ∀ ρ', I ρ' → sX (exL C A fu (ss.drop n) ρ') Q) : sX (exL C A fu ss ρ) Q := by
  have e : ss = ss.take n ++ ss.drop n := (List.take_append_drop n ss).symm
  rw [e, exL_app, x_seq]
  refine sX_mono h1 ?_
  rintro f (⟨ρ', rfl, i⟩ | ⟨hn, q⟩)
  · rw [k_Qnx]; exact h2 ρ' i
  · cases f with
    | nx ρ' => exact absurd rfl (hn ρ')
    | _ => exact q
theorem sX_ret {r : Fl} {bs : List Bool} {Q : D → List D → Prop} (h : sX r (kR bs Q)) : cW (retC bs r) Q := by rw [c_ret]; exact h
@[simp] theorem q_sort2 {m : Bool} {a b : Int} : b1D .sorted (.nd .lst m [.at (.int a), .at (.int b)]) = some (D.lst true (if a ≤ b then [D.int a, D.int b] else [D.int b, D.int a])) := by
  show some (D.lst true ((isort [a, b]).map D.int)) = _
  show some (D.lst true ((insSort a (insSort b [])).map D.int)) = _
  show some (D.lst true ((if a ≤ b then a :: [b] else b :: insSort a []).map D.int)) = _
  by_cases h : a ≤ b
  · rw [if_pos h, if_pos h]; rfl
  · rw [if_neg h, if_neg h]; rfl
@[simp] theorem q_cutTo {xs : List D} {i : Int} (h : 0 ≤ i) : cutD xs none (some i) = xs.take i.toNat := by
  obtain ⟨k, rfl⟩ := Int.eq_ofNat_of_zero_le h
  unfold cutD
  rw [HT.sIx_nat]
  show (xs.drop 0).take (min k xs.length - 0) = _
  rw [List.drop_zero, Nat.sub_zero, Int.toNat_natCast]
  by_cases hk : k ≤ xs.length
  · rw [Nat.min_eq_left hk]
  · rw [Nat.min_eq_right (by omega), List.take_length, List.take_of_length_le (by omega)]
@[simp] theorem q_cutFrom {xs : List D} {i : Int} (h : 0 ≤ i) : cutD xs (some i) none = xs.drop i.toNat := by
  obtain ⟨k, rfl⟩ := Int.eq_ofNat_of_zero_le h
  unfold cutD
  rw [HT.sIx_nat]
  show (xs.drop (min k xs.length)).take (xs.length - min k xs.length) = _
  rw [Int.toNat_natCast]
  by_cases hk : k ≤ xs.length
  · rw [Nat.min_eq_left hk]; exact List.take_of_length_le (by rw [List.length_drop]; exact Nat.le_refl _)
  · rw [Nat.min_eq_right (by omega), List.drop_length, List.drop_of_length_le (by omega)]; simp
@[simp] theorem q_slcL {m : Bool} {xs : List D} {lo hi : Option Int} (h : D.cleanL xs = true) : slcD (.nd .lst m xs) lo hi = some (D.lst true (cutD xs lo hi)) := if_pos h
@[simp] theorem q_slcT {xs : List D} {lo hi : Option Int} (h : D.cleanL xs = true) : slcD (.nd .tup false xs) lo hi = some (D.tup (cutD xs lo hi)) := if_pos h
@[simp] theorem q_revT {xs : List D} (h : D.cleanL xs = true) : revD (.nd .tup false xs) = some (D.tup xs.reverse) := if_pos h
@[simp] theorem q_revL {m : Bool} {xs : List D} (h : D.cleanL xs = true) : revD (.nd .lst m xs) = some (D.lst true xs.reverse) := if_pos h
@[simp] theorem q_modN {a b : Nat} (h : 0 < b) : binD .mod (.at (.int a)) (.at (.int b)) = some (dN (a % b)) := by
  rw [b_mod (by omega)]
  rfl
@[simp] theorem q_catT {xs ys : List D} (h : (lineB (xs.length + ys.length) && (D.cleanL xs && D.cleanL ys)) = true) : binD .add (.nd .tup false xs) (.nd .tup false ys) = some (D.tup (xs ++ ys)) := if_pos h
@[simp] theorem q_catL {m m2 : Bool} {xs ys : List D} (h : (lineB (xs.length + ys.length) && (D.cleanL xs && D.cleanL ys)) = true) : binD .add (.nd .lst m xs) (.nd .lst m2 ys) = some (D.lst true (xs ++ ys)) := if_pos h
theorem line_of {n : Nat} (h : n ≤ 16777216) : lineB n = true := decide_eq_true (by rw [PySem.sizeLine_eq]; exact h)
theorem lineQ_of {n : Nat} (h : n < 16777216) : n < PySem.sizeLine := by rw [PySem.sizeLine_eq]; exact h
/-- a name for an int that is no less than 0 -/
theorem nat_of {i : Int} (h : 0 ≤ i) : ∃ n : Nat, i = n := Int.eq_ofNat_of_zero_le h
@[simp] theorem q_idx0T {x : D} {xs : List D} {m : Bool} : idxD (.nd .tup m (x :: xs)) (.at (.int 0)) = some x := (idx_tup (j := 0) (by simp [List.length_cons])).trans rfl
@[simp] theorem q_idx0L {x : D} {xs : List D} {m : Bool} : idxD (.nd .lst m (x :: xs)) (.at (.int 0)) = some x := (idx_lst (j := 0) (by simp [List.length_cons])).trans rfl
@[simp] theorem q_idx1T {x y : D} {xs : List D} {m : Bool} : idxD (.nd .tup m (x :: y :: xs)) (.at (.int 1)) = some y := (idx_tup (j := 1) (by simp [List.length_cons])).trans rfl
@[simp] theorem q_idx1L {x y : D} {xs : List D} {m : Bool} : idxD (.nd .lst m (x :: y :: xs)) (.at (.int 1)) = some y := (idx_lst (j := 1) (by simp [List.length_cons])).trans rfl
@[simp] theorem q_idx2T {x y z : D} {xs : List D} {m : Bool} : idxD (.nd .tup m (x :: y :: z :: xs)) (.at (.int 2)) = some z := (idx_tup (j := 2) (by simp [List.length_cons])).trans rfl
@[simp] theorem q_idx2L {x y z : D} {xs : List D} {m : Bool} : idxD (.nd .lst m (x :: y :: z :: xs)) (.at (.int 2)) = some z := (idx_lst (j := 2) (by simp [List.length_cons])).trans rfl
@[simp] theorem q_idx3T {x y z u : D} {xs : List D} {m : Bool} : idxD (.nd .tup m (x :: y :: z :: u :: xs)) (.at (.int 3)) = some u := (idx_tup (j := 3) (by simp [List.length_cons])).trans rfl
@[simp] theorem q_idx3L {x y z u : D} {xs : List D} {m : Bool} : idxD (.nd .lst m (x :: y :: z :: u :: xs)) (.at (.int 3)) = some u := (idx_lst (j := 3) (by simp [List.length_cons])).trans rfl
@[simp] theorem q_idx4T {x y z u v : D} {xs : List D} {m : Bool} : idxD (.nd .tup m (x :: y :: z :: u :: v :: xs)) (.at (.int 4)) = some v := (idx_tup (j := 4) (by simp [List.length_cons])).trans rfl
@[simp] theorem q_idx4L {x y z u v : D} {xs : List D} {m : Bool} : idxD (.nd .lst m (x :: y :: z :: u :: v :: xs)) (.at (.int 4)) = some v := (idx_lst (j := 4) (by simp [List.length_cons])).trans rfl
@[simp] theorem q_fld {f c : Nat} {fs : List Nat} {m : Bool} {xs : List D} : fldD f (.nd (.obj c fs) m xs) = fldAt f fs xs := id rfl
@[simp] theorem q_fldAt {f g : Nat} {fs : List Nat} {x : D} {xs : List D} : fldAt f (g :: fs) (x :: xs) = if g = f then some x else fldAt f fs xs := id rfl
@[simp] theorem q_isN {x : D} : cmpD .is x (.at .non) = some (isNon x) := by cases x with
  | «at» a => cases a <;> rfl
  | nd k m xs => cases k <;> rfl
@[simp] theorem q_isnN {x : D} : cmpD .isn x (.at .non) = some (!isNon x) := by cases x with
  | «at» a => cases a <;> rfl
  | nd k m xs => cases k <;> rfl
@[simp] theorem q_nonN : isNon (.at .non) = true := id rfl
@[simp] theorem q_nonI {i : Int} : isNon (.at (.int i)) = false := id rfl
@[simp] theorem q_nonD {k : Kd} {m : Bool} {xs : List D} : isNon (.nd k m xs) = false := id rfl
theorem q_takeM {α β : Type} (f : α → β) (n : Nat) (xs : List α) : (xs.map f).take n = (xs.take n).map f := List.map_take.symm
theorem q_dropM {α β : Type} (f : α → β) (n : Nat) (xs : List α) : (xs.map f).drop n = (xs.drop n).map f := List.map_drop.symm
theorem q_revM {α β : Type} (f : α → β) (xs : List α) : (xs.map f).reverse = xs.reverse.map f := List.map_reverse.symm
@[simp] theorem q_beqN (a b : Nat) : ((a : Int) == (b : Int)) = decide (a = b) := by
  by_cases h : a = b
  · subst h; simp
  · rw [decide_eq_false h]
    have : ¬ (a : Int) = b := fun e => h (by omega)
    simpa using this
@[simp] theorem q_intB {b : Bool} : b1D .int (.at (.bl b)) = some (D.int (b2i b)) := id rfl
end Ev

set_option Elab.async false
set_option linter.all false
set_option maxRecDepth 100000
set_option maxHeartbeats 4000000
namespace Ev
open PySem PySem.Spec L2
@[simp] theorem q_eqB {a b : Bool} : cmpD .eq (.at (.bl a)) (.at (.bl b)) = some (a == b) := id rfl
@[simp] theorem q_neB {a b : Bool} : cmpD .ne (.at (.bl a)) (.at (.bl b)) = some (!(a == b)) := id rfl
theorem eqvL_N (xs ys : List Nat) : D.eqvL (xs.map dN) (ys.map dN) = decide (xs = ys) := eqvL_map _ eqv_dN xs ys
@[simp] theorem q_eqLN {xs ys : List Nat} {m m2 : Bool} : cmpD .eq (.nd .lst m (xs.map dN)) (.nd .lst m2 (ys.map dN)) = some (decide (xs = ys)) := by
  show (if (D.shpL 63 (xs.map dN) && D.shpL 63 (ys.map dN)) = true then some (D.eqv (.nd .lst m (xs.map dN)) (.nd .lst m2 (ys.map dN))) else none) = _
  rw [shpL_map 63 dN (shp_dN 63), shpL_map 63 dN (shp_dN 63), eqv_ndL, eqvL_N]; rfl
@[simp] theorem q_neLN {xs ys : List Nat} {m m2 : Bool} : cmpD .ne (.nd .lst m (xs.map dN)) (.nd .lst m2 (ys.map dN)) = some (!decide (xs = ys)) := by
  show (if (D.shpL 63 (xs.map dN) && D.shpL 63 (ys.map dN)) = true then some (!D.eqv (.nd .lst m (xs.map dN)) (.nd .lst m2 (ys.map dN))) else none) = _
  rw [shpL_map 63 dN (shp_dN 63), shpL_map 63 dN (shp_dN 63), eqv_ndL, eqvL_N]; rfl
def shO (i : Nat) (ρ : Env) : Option (Option D) → R D
  | some (some d) => .ok d.frz (ρ.set i (some d.frz))
  | _ => .unk
@[simp] theorem k_sh {C : Calls} {p : Bool} {ρ : Env} (i : Nat) : ev C p (.sh i) ρ = shO i ρ ρ[i]? := by
  rw [z_sh]
  rcases ρ[i]? with _ | _ | d <;> rfl
@[simp] theorem k_shO {ρ : Env} (i : Nat) (d : D) : shO i ρ (some (some d)) = .ok d.frz (ρ.set i (some d.frz)) := id rfl
@[simp] theorem b_ext {xs ys : List D} {m : Bool} (h : lineB (xs.length + ys.length) = true) (hc : D.cleanL ys = true) : mutD .extend [.nd .lst m ys] (.nd .lst true xs) = some (D.lst true (xs ++ ys), D.non) := by
  show (if (lineB (xs.length + ys.length) && D.cleanL ys) = true then _ else _) = _
  rw [if_pos (by rw [h, hc]; rfl)]
@[simp] theorem q_sum {m : Bool} {xs : List Nat} : b1D .sum (.nd .lst m (xs.map dN)) = some (dN xs.sum) := by
  have e : ∀ xs : List Nat, intsOf (xs.map dN) = some (xs.map fun (n : Nat) => (n : Int)) := by
    intro xs
    induction xs with
    | nil => rfl
    | cons x xs ih =>
      show (intsOf (xs.map dN)).map (fun r => (x : Int) :: r) = _
      rw [ih]; rfl
  have e2 : ∀ xs : List Nat, (xs.map fun (n : Nat) => (n : Int)).sum = (xs.sum : Nat) := by
    intro xs
    induction xs with
    | nil => rfl
    | cons x xs ih => rw [List.map_cons, List.sum_cons, ih, List.sum_cons]; omega
  show (intsOf (xs.map dN)).map (fun is => D.int is.sum) = _
  rw [e]
  show some (D.int (xs.map fun (n : Nat) => (n : Int)).sum) = _
  rw [e2]
end Ev

set_option Elab.async false
set_option linter.all false
set_option maxRecDepth 100000
set_option maxHeartbeats 4000000
/-! augmented stores, dict.update, {k: v}, methods, bits -/
namespace Ev
open PySem PySem.Spec L2
section
variable {C : Calls} {ρ : Env} {p : Bool} {A : List Nat} {fu : Nat}
/-! stores at any place -/
def stoQ4 (i : Nat) (ρ : Env) : Option D → Fl
  | some d' => .nx (ρ.set i (some d'))
  | none => .unk
def stoQ3 (i : Nat) (js : List Nat) (d : D) (ρ : Env) : Option D → Fl
  | some x' => stoQ4 i ρ (D.mod (fun _ => some x') js d)
  | none => .unk
def stoQ2 (i : Nat) (js : List Nat) (k v d : D) (ρ : Env) : Option D → Fl
  | some x => stoQ3 i js d ρ (stoD k v x)
  | none => .unk
def stoQ (i : Nat) (js : List Nat) (k v : D) (ρ : Env) : Option (Option D) → Fl
  | some (some d) => stoQ2 i js k v d ρ (D.get js d)
  | _ => .unk
@[simp] theorem s_stoM (i : Nat) (js : List Nat) (k v : D) : stoM i js k v ρ = stoQ i js k v ρ ρ[i]? := by
  unfold stoM stoQ stoQ2 stoQ3 stoQ4
  rcases ρ[i]? with _ | _ | d
  · rfl
  · rfl
  · (dsimp only) <;>
    cases D.get js d with
    | none => rfl
    | some x =>
      (dsimp only) <;>
      cases stoD k v x with
      | none => rfl
      | some q => (dsimp only) <;> (cases D.mod (fun _ => some q) js d <;> rfl)
@[simp] theorem s_stoQ (i : Nat) (js : List Nat) (k v d : D) : stoQ i js k v ρ (some (some d)) = stoQ2 i js k v d ρ (D.get js d) := id rfl
@[simp] theorem s_stoQ2 (i : Nat) (js : List Nat) (k v d x : D) : stoQ2 i js k v d ρ (some x) = stoQ3 i js d ρ (stoD k v x) := id rfl
@[simp] theorem s_stoQ3 (i : Nat) (js : List Nat) (d x : D) : stoQ3 i js d ρ (some x) = stoQ4 i ρ (D.mod (fun _ => some x) js d) := id rfl
@[simp] theorem s_stoQ4 (i : Nat) (d : D) : stoQ4 i ρ (some d) = .nx (ρ.set i (some d)) := id rfl
def stoP (C : Calls) (kx : E) (v : D) (ρ : Env) : Option (Nat × List Nat) → Fl
  | some (i, js) => (ev C true kx ρ).st fun k _ => stoM i js k v ρ
  | none => .unk
theorem s_stoI (a kx e : E) : exS C A fu (.sto (.idx a kx) e) ρ = (ev C false e ρ).st fun v ρ1 => stoP C kx v ρ1 (path C a ρ1) := by
  show stoS (path C a) (ev C true kx) (ev C false e) ρ = _
  unfold stoS stS R.st stoP
  cases ev C false e ρ with
  | ex x ρ' => rfl
  | unk => rfl
  | ok v ρ1 =>
    (dsimp only) <;>
    cases path C a ρ1 with
    | none => rfl
    | some q => obtain ⟨i, js⟩ := q; rfl
@[simp] theorem s_stoF (a : E) (f : Nat) (kx e : E) : exS C A fu (.sto (.idx (.fld a f) kx) e) ρ = (ev C false e ρ).st fun v ρ1 => stoP C kx v ρ1 (path C (.fld a f) ρ1) := s_stoI _ _ _
@[simp] theorem s_stoII (a b kx e : E) : exS C A fu (.sto (.idx (.idx a b) kx) e) ρ = (ev C false e ρ).st fun v ρ1 => stoP C kx v ρ1 (path C (.idx a b) ρ1) := s_stoI _ _ _
@[simp] theorem s_stoP (kx : E) (v : D) (i : Nat) (js : List Nat) : stoP C kx v ρ (some (i, js)) = (ev C true kx ρ).st fun k _ => stoM i js k v ρ := id rfl
/-! augmented -/
def augP6 (i : Nat) (js : List Nat) (k : D) (ρ : Env) : Option Int → Fl
  | some c => stoM i js k (D.int c) ρ
  | none => .unk
def augP5 (o : BO) (a : Int) (i : Nat) (js : List Nat) (k : D) (ρ : Env) : D → Fl
  | .at (.int b) => augP6 i js k ρ (augI o a b)
  | _ => .unk
def augP4 (C : Calls) (e : E) (o : BO) (i : Nat) (js : List Nat) (ρ : Env) (k : D) : Option Int → Fl
  | some a => (ev C true e ρ).st fun y _ => augP5 o a i js k ρ y
  | none => .unk
def augP3 (C : Calls) (kx e : E) (o : BO) (i : Nat) (js : List Nat) (ρ : Env) : Option D → Fl
  | some x => (ev C true kx ρ).st fun k _ => augP4 C e o i js ρ k (augG x k)
  | none => .unk
def augP2 (C : Calls) (kx e : E) (o : BO) (i : Nat) (js : List Nat) (ρ : Env) : Option (Option D) → Fl
  | some (some d) => augP3 C kx e o i js ρ (D.get js d)
  | _ => .unk
def augP1 (C : Calls) (kx e : E) (o : BO) (ρ : Env) : Option (Nat × List Nat) → Fl
  | some (i, js) => augP2 C kx e o i js ρ ρ[i]?
  | none => .unk
@[simp] theorem s_augs (a kx : E) (o : BO) (e : E) : exS C A fu (.augs (.idx a kx) o e) ρ = augP1 C kx e o ρ (path C a ρ) := by
  show augsS (path C a) (ev C true kx) (ev C true e) o ρ = _
  unfold augsS augP1
  cases path C a ρ with
  | none => rfl
  | some q =>
    obtain ⟨i, js⟩ := q
    unfold augP2
    dsimp only
    rcases ρ[i]? with _ | _ | d
    · rfl
    · rfl
    · dsimp only
      unfold augP3
      cases D.get js d with
      | none => rfl
      | some x =>
        dsimp only
        unfold stS R.st
        cases ev C true kx ρ with
        | ex y ρ' => rfl
        | unk => rfl
        | ok k ρ1 =>
          dsimp only
          unfold augP4
          cases augG x k with
          | none => rfl
          | some a0 =>
            dsimp only
            unfold R.st
            cases ev C true e ρ with
            | ex y ρ' => rfl
            | unk => rfl
            | ok y ρ2 =>
              dsimp only
              cases y with
              | nd _ _ _ => rfl
              | «at» b => cases b with
                | int b => unfold augP5 augP6; (dsimp only) <;> (cases augI o a0 b <;> rfl)
                | _ => rfl
@[simp] theorem s_augP1 (kx e : E) (o : BO) (i : Nat) (js : List Nat) : augP1 C kx e o ρ (some (i, js)) = augP2 C kx e o i js ρ ρ[i]? := id rfl
@[simp] theorem s_augP2 (kx e : E) (o : BO) (i : Nat) (js : List Nat) (d : D) : augP2 C kx e o i js ρ (some (some d)) = augP3 C kx e o i js ρ (D.get js d) := id rfl
@[simp] theorem s_augP3 (kx e : E) (o : BO) (i : Nat) (js : List Nat) (x : D) : augP3 C kx e o i js ρ (some x) = (ev C true kx ρ).st fun k _ => augP4 C e o i js ρ k (augG x k) := id rfl
@[simp] theorem s_augP4 (e : E) (o : BO) (i : Nat) (js : List Nat) (k : D) (a : Int) : augP4 C e o i js ρ k (some a) = (ev C true e ρ).st fun y _ => augP5 o a i js k ρ y := id rfl
@[simp] theorem s_augP5 (o : BO) (a b : Int) (i : Nat) (js : List Nat) (k : D) : augP5 o a i js k ρ (.at (.int b)) = augP6 i js k ρ (augI o a b) := id rfl
@[simp] theorem s_augP6 (i : Nat) (js : List Nat) (k : D) (c : Int) : augP6 i js k ρ (some c) = stoM i js k (D.int c) ρ := id rfl
@[simp] theorem s_augBor (a b : Int) : augI .bor a b = some (Builtin.bitOr a b) := id rfl
@[simp] theorem s_augBand (a b : Int) : augI .band a b = some (Builtin.bitAnd a b) := id rfl
@[simp] theorem s_augAdd2 (a b : Int) : augI .add a b = some (a + b) := id rfl
@[simp] theorem s_augSub2 (a b : Int) : augI .sub a b = some (a - b) := id rfl
@[simp] theorem s_augQ (i : Nat) (o : BO) (a b : Int) : augQ A i o a ρ (.at (.int b)) = augT A i ρ ((augI o a b).map D.int) := by
  show (match augI o a b with
      | some c => setS A i (D.int c) ρ
      | none => .unk) = _
  cases augI o a b <;> rfl
theorem augG_L {m : Bool} {xs : List Int} {k : Nat} (h : k < xs.length) : augG (.nd .lst m (xs.map D.int)) (.at (.int k)) = some xs[k] := by
  show (if decide (0 ≤ (k : Int)) then (match atI (xs.map D.int) k with
      | some (.at (.int a)) => some a
      | _ => none) else none) = _
  rw [if_pos (decide_eq_true (by omega)), atI_nat (by rw [List.length_map]; exact h), List.getElem?_map, List.getElem?_eq_getElem h]
  rfl
theorem stoD_L {xs : List D} {k : Nat} {v : D} (h : k < xs.length) : stoD (.at (.int k)) v (.nd .lst true xs) = some (.nd .lst true (xs.set k v)) := by
  show (ixN xs.length (k : Int)).map (fun j => D.lst true (xs.set j v)) = _
  rw [ixN_nat h]
  rfl
/-! methods by reference -/
def mthFf (C : Calls) (i : Nat) (es : List E) (ρ : Env) : Option Nat → R D
  | some f => (evA C es ρ).bnd fun ds => callM C f (.rf i :: es) (D.non :: ds)
  | none => .unk
def mthRr (C : Calls) (m i : Nat) (es : List E) (ρ : Env) : Option (Option D) → R D
  | some (some (.nd (.obj c _) _ _)) => mthFf C i es ρ (C.meth c m)
  | _ => .unk
@[simp] theorem z_mthR (m i : Nat) (es : List E) : ev C p (.mth m (.rf i) es) ρ = (mthRr C m i es ρ ρ[i]?).fn p := by
  have e : ev C p (.mth m (.rf i) es) ρ = R.fn (match ρ[i]? with
      | some (some (.nd (.obj c _) _ _)) => match C.meth c m with
        | some f => M.bind (evA C es) (fun ds => callM C f (.rf i :: es) (D.non :: ds)) ρ
        | none => .unk
      | _ => .unk) p := rfl
  rw [e]
  congr 1
  all_goals (
    generalize ρ[i]? = o
    rcases o with _ | _ | d
    · rfl
    · rfl
    · cases d with
      | «at» _ => rfl
      | nd k mk xs =>
        cases k <;> rfl)
@[simp] theorem z_mthO (m i c : Nat) (es : List E) (fs : List Nat) (b : Bool) (xs : List D) : mthRr C m i es ρ (some (some (.nd (.obj c fs) b xs))) = mthFf C i es ρ (C.meth c m) := id rfl
@[simp] theorem z_mthF (i f : Nat) (es : List E) : mthFf C i es ρ (some f) = (evA C es ρ).bnd fun ds => callM C f (.rf i :: es) (D.non :: ds) := id rfl
/-! dicts -/
@[simp] theorem z_dis (k v : E) : ev C p (.dis k v) ρ = ((ev C false k ρ).bnd fun x => M.bind (ev C false v) fun y => M.lift (disD x y)).fn p := id rfl
@[simp] theorem q_disI (i : Int) (v : D) : disD (.at (.int i)) v = some (.nd (.dk [.inl i]) true [v]) := id rfl
def dupK3 (i : Nat) (ρ : Env) : Option D → Fl
  | some d' => .nx (ρ.set i (some d'))
  | none => .unk
def dupK2 (i : Nat) (js : List Nat) (d : D) (ρ : Env) : Option D → Fl
  | some x' => dupK3 i ρ (D.mod (fun _ => some x') js d)
  | none => .unk
@[simp] theorem s_dupK (i : Nat) (js : List Nat) (d x y : D) : dupK i js d x ρ [y] = dupK2 i js d ρ (updD x y) := by
  show (match updD x y with
    | some x' => match D.mod (fun _ => some x') js d with
      | some d' => Fl.nx (ρ.set i (some d'))
      | none => .unk
    | none => .unk) = _
  unfold dupK2 dupK3
  cases updD x y with
  | none => rfl
  | some x' => (dsimp only) <;> (cases D.mod (fun _ => some x') js d <;> rfl)
@[simp] theorem s_dupK2 (i : Nat) (js : List Nat) (d x : D) : dupK2 i js d ρ (some x) = dupK3 i ρ (D.mod (fun _ => some x) js d) := id rfl
@[simp] theorem s_dupK3 (i : Nat) (d : D) : dupK3 i ρ (some d) = .nx (ρ.set i (some d)) := id rfl
def dupP4 (C : Calls) (es : List E) (i : Nat) (js : List Nat) (d x : D) (ρ : Env) : Bool → Fl
  | true => (evs C es ρ).st fun ys _ => dupK i js d x ρ ys
  | false => .unk
def dupP3 (C : Calls) (es : List E) (i : Nat) (js : List Nat) (d : D) (ρ : Env) : Option D → Fl
  | some x => dupP4 C es i js d x ρ (isDk x)
  | none => .unk
def dupP2 (C : Calls) (es : List E) (i : Nat) (js : List Nat) (ρ : Env) : Option (Option D) → Fl
  | some (some d) => dupP3 C es i js d ρ (D.get js d)
  | _ => .unk
def dupP1 (C : Calls) (es : List E) (ρ : Env) : Option (Nat × List Nat) → Fl
  | some (i, js) => dupP2 C es i js ρ ρ[i]?
  | none => .unk
@[simp] theorem s_dup (pl : E) (es : List E) : exS C A fu (.dup pl es) ρ = dupP1 C es ρ (path C pl ρ) := by
  show dupS (path C pl) (evs C es) ρ = _
  unfold dupS dupP1
  cases path C pl ρ with
  | none => rfl
  | some q =>
    obtain ⟨i, js⟩ := q
    unfold dupP2
    dsimp only
    rcases ρ[i]? with _ | _ | d
    · rfl
    · rfl
    · dsimp only
      unfold dupP3
      cases D.get js d with
      | none => rfl
      | some x =>
        dsimp only
        cases isDk x <;> rfl
@[simp] theorem s_dupP1 (es : List E) (i : Nat) (js : List Nat) : dupP1 C es ρ (some (i, js)) = dupP2 C es i js ρ ρ[i]? := id rfl
@[simp] theorem s_dupP2 (es : List E) (i : Nat) (js : List Nat) (d : D) : dupP2 C es i js ρ (some (some d)) = dupP3 C es i js d ρ (D.get js d) := id rfl
@[simp] theorem s_dupP3 (es : List E) (i : Nat) (js : List Nat) (d x : D) : dupP3 C es i js d ρ (some x) = dupP4 C es i js d x ρ (isDk x) := id rfl
@[simp] theorem s_dupP4 (es : List E) (i : Nat) (js : List Nat) (d x : D) : dupP4 C es i js d x ρ true = (evs C es ρ).st fun ys _ => dupK i js d x ρ ys := id rfl
@[simp] theorem q_isDk (ks : List Key) (vs : List D) : isDk (.nd (.dk ks) true vs) = true := id rfl
/-! a set of numbers: a dict with True at each -/
def kN (n : Nat) : Key := .inl n
def dS (m : Bool) (ks : List Nat) : D := .nd (.dk (ks.map kN)) m (ks.map fun _ => D.bl true)
def addK (ks : List Nat) (k : Nat) : List Nat := if k ∈ ks then ks else ks ++ [k]
def addKs (ks : List Nat) : List Nat → List Nat
  | [] => ks
  | k :: r => addKs (addK ks k) r
theorem kN_inj {a b : Nat} (h : kN a = kN b) : a = b := by
  have : ((a : Int)) = b := Sum.inl.inj h
  omega
theorem posK_N (k : Nat) : ∀ ks : List Nat, posK (kN k) (ks.map kN) = if k ∈ ks then posK k ks else none
  | [] => by simp [posK]
  | q :: ks => by
    rw [List.map_cons]
    unfold posK
    by_cases hq : q = k
    · subst hq
      rw [if_pos rfl, if_pos List.mem_cons_self, if_pos rfl]
    · rw [if_neg fun e => hq (kN_inj e), if_neg hq, posK_N k ks]
      by_cases hk : k ∈ ks
      · rw [if_pos hk, if_pos (List.mem_cons_of_mem _ hk)]
      · rw [if_neg hk, if_neg fun e => (List.mem_cons.mp e).elim (fun z => hq z.symm) hk]; rfl
theorem set_same {α : Type} (a : α) : ∀ (xs : List Nat) (j : Nat), (xs.map fun _ => a).set j a = xs.map fun _ => a
  | [], _ => rfl
  | _ :: xs, 0 => rfl
  | _ :: xs, j + 1 => by rw [List.map_cons, List.set_cons_succ, set_same a xs j]
theorem putP_S (ks : List Nat) (k : Nat) : putP (kN k) (D.bl true) (ks.map kN, ks.map fun _ => D.bl true) = ((addK ks k).map kN, (addK ks k).map fun _ => D.bl true) := by
  unfold putP addK
  rw [posK_N]
  by_cases hk : k ∈ ks
  · rw [if_pos hk, if_pos hk]
    cases h : posK k ks with
    | none => exact absurd hk (posK_none h)
    | some j => (dsimp only) <;> rw [set_same]
  · rw [if_neg hk, if_neg hk]
    simp
theorem mergeD_S : ∀ (r ks : List Nat), mergeD (r.map fun k => (kN k, D.bl true)) (ks.map kN, ks.map fun _ => D.bl true) = ((addKs ks r).map kN, (addKs ks r).map fun _ => D.bl true)
  | [], ks => rfl
  | k :: r, ks => by
    rw [List.map_cons]
    show mergeD (r.map fun k => (kN k, D.bl true)) (putP (kN k) (D.bl true) (ks.map kN, ks.map fun _ => D.bl true)) = _
    rw [putP_S, mergeD_S r]
    rfl
theorem pairsD_S : ∀ r : List Nat, pairsD (r.map fun k => D.tup [dN k, D.bl true]) = some (r.map fun k => (kN k, D.bl true))
  | [] => rfl
  | k :: r => by
    show (match pairD (D.tup [dN k, D.bl true]), pairsD (r.map fun k => D.tup [dN k, D.bl true]) with
      | some p, some ps => some (p :: ps)
      | _, _ => none) = _
    rw [pairsD_S r]
    rfl
theorem updD_S {m : Bool} (ks r : List Nat) (h : lineB (ks.length + r.length) = true) : updD (dS true ks) (.nd .lst m (r.map fun k => D.tup [dN k, D.bl true])) = some (dS true (addKs ks r)) := by
  show (match pairsD (r.map fun k => D.tup [dN k, D.bl true]) with
    | some ps => if lineB ((ks.map kN).length + ps.length) && D.cleanL (ks.map fun _ => D.bl true) then some (D.nd (.dk (mergeD ps (ks.map kN, ks.map fun _ => D.bl true)).1) true (mergeD ps (ks.map kN, ks.map fun _ => D.bl true)).2) else none
    | none => none) = _
  rw [pairsD_S]
  dsimp only
  rw [if_pos (by rw [List.length_map, List.length_map, h, q_clL _ _ fun _ => rfl]; rfl), mergeD_S]
  rfl
theorem mem_addK (ks : List Nat) (k x : Nat) : x ∈ addK ks k ↔ x ∈ ks ∨ x = k := by
  unfold addK
  split
  · rename_i h
    constructor
    · exact .inl
    · rintro (h' | rfl)
      · exact h'
      · exact h
  · simp
theorem mem_addKs : ∀ (r ks : List Nat) (x : Nat), x ∈ addKs ks r ↔ x ∈ ks ∨ x ∈ r
  | [], ks, x => by simp [addKs]
  | k :: r, ks, x => by
    show x ∈ addKs (addK ks k) r ↔ _
    rw [mem_addKs r, mem_addK, List.mem_cons, or_assoc]
theorem nd_addK {ks : List Nat} {k : Nat} (h : ks.Nodup) : (addK ks k).Nodup := by
  unfold addK
  split
  · exact h
  · rename_i hk
    exact List.nodup_append.mpr ⟨h, by simp, fun a ha b hb e => hk (by rw [List.mem_singleton.mp hb] at e; rw [← e]; exact ha)⟩
theorem nd_addKs : ∀ {r ks : List Nat}, ks.Nodup → (addKs ks r).Nodup
  | [], ks, h => h
  | k :: r, ks, h => nd_addKs (r := r) (nd_addK h)
theorem q_listS {m : Bool} (ks : List Nat) : b1D .list (dS m ks) = some (oM dN ks) := by
  show some (D.lst true ((ks.map kN).map keyD)) = _
  rw [List.map_map]
  rfl
theorem isort_nd {xs : List Nat} : (isort (xs.map fun (n : Nat) => (n : Int))).Pairwise (· ≤ ·) := isort_sorted _
/-- sorted(l), numbers -/
def sortN (xs : List Nat) : List Nat := (isort (xs.map fun (n : Nat) => (n : Int))).map Int.toNat
theorem q_sortN {m : Bool} (xs : List Nat) : b1D .sorted (.nd .lst m (xs.map dN)) = some (oM dN (sortN xs)) := by
  have e : ∀ xs : List Nat, intsOf (xs.map dN) = some (xs.map fun (n : Nat) => (n : Int)) := by
    intro xs
    induction xs with
    | nil => rfl
    | cons x xs ih =>
      show (intsOf (xs.map dN)).map (fun r => (x : Int) :: r) = _
      rw [ih]; rfl
  show (intsOf (xs.map dN)).map (fun is => D.lst true ((isort is).map D.int)) = _
  rw [e]
  show some (D.lst true ((isort (xs.map fun (n : Nat) => (n : Int))).map D.int)) = some (.nd .lst true ((sortN xs).map dN))
  congr 2
  unfold sortN
  rw [List.map_map]
  refine List.map_congr_left fun i hi => ?_
  have hm := (isort_perm (xs.map fun (n : Nat) => (n : Int))).mem_iff.mp hi
  obtain ⟨n, _, rfl⟩ := List.mem_map.mp hm
  rfl
theorem mem_sortN {xs : List Nat} {x : Nat} : x ∈ sortN xs ↔ x ∈ xs := by
  unfold sortN
  rw [List.mem_map]
  constructor
  · rintro ⟨i, hi, rfl⟩
    obtain ⟨n, hn, rfl⟩ := List.mem_map.mp ((isort_perm _).mem_iff.mp hi)
    exact hn
  · intro h
    exact ⟨(x : Int), (isort_perm _).mem_iff.mpr (List.mem_map.mpr ⟨x, h, rfl⟩), rfl⟩
theorem sortN_lt {xs : List Nat} (h : xs.Nodup) : (sortN xs).Pairwise (· < ·) := by
  unfold sortN
  rw [List.pairwise_map]
  have h1 := isort_sorted (xs.map fun (n : Nat) => (n : Int))
  have h2 : (isort (xs.map fun (n : Nat) => (n : Int))).Nodup := (isort_perm _).nodup_iff.mpr (by
    refine List.pairwise_map.mpr (h.imp ?_)
    intro a b hne e
    exact hne (by omega))
  refine (List.Pairwise.and h1 h2).imp_of_mem ?_
  intro a b ha hb hab
  obtain ⟨n, _, rfl⟩ := List.mem_map.mp ((isort_perm _).mem_iff.mp ha)
  obtain ⟨m, _, rfl⟩ := List.mem_map.mp ((isort_perm _).mem_iff.mp hb)
  obtain ⟨q1, q2⟩ := hab
  simp only [Int.toNat_natCast]
  have q2 : (n : Int) ≠ m := q2
  omega
/-- two rising lists with the same things -/
theorem rise_eq : ∀ {xs ys : List Nat}, xs.Pairwise (· < ·) → ys.Pairwise (· < ·) → (∀ x, x ∈ xs ↔ x ∈ ys) → xs = ys
  | [], [], _, _, _ => rfl
  | [], y :: ys, _, _, h => by have := (h y).mpr List.mem_cons_self; cases this
  | x :: xs, [], _, _, h => by have := (h x).mp List.mem_cons_self; cases this
  | x :: xs, y :: ys, hx, hy, h => by
    rw [List.pairwise_cons] at hx hy
    have e : x = y := by
      have h1 := (h x).mp List.mem_cons_self
      have h2 := (h y).mpr List.mem_cons_self
      rcases List.mem_cons.mp h1 with h1 | h1
      · exact h1
      · rcases List.mem_cons.mp h2 with h2 | h2
        · exact h2.symm
        · have := hx.1 y h2
          have := hy.1 x h1
          omega
    subst e
    rw [rise_eq hx.2 hy.2 fun z => ?_]
    have := h z
    constructor
    · intro hz
      rcases List.mem_cons.mp (this.mp (List.mem_cons_of_mem _ hz)) with e | e
      · subst e; exact absurd (hx.1 z hz) (Nat.lt_irrefl _)
      · exact e
    · intro hz
      rcases List.mem_cons.mp (this.mpr (List.mem_cons_of_mem _ hz)) with e | e
      · subst e; exact absurd (hy.1 z hz) (Nat.lt_irrefl _)
      · exact e
/-! bits -/
@[simp] theorem q_blen (i : Int) : unD .blen (.at (.int i)) = some (D.int (Builtin.Int.intBits i : Nat)) := id rfl
@[simp] theorem q_neg (i : Int) : unD .neg (.at (.int i)) = some (D.int (-i)) := id rfl
theorem bor_N (a b : Nat) : Builtin.bitOr (a : Int) (b : Int) = ((a ||| b : Nat) : Int) := by
  rw [bitOr_nn (by omega) (by omega), Int.toNat_natCast, Int.toNat_natCast]
theorem shl_1 {n : Nat} (h : n ≤ 1000000) : binD .shl (.at (.int 1)) (.at (.int (n : Int))) = some (dN (2 ^ n)) := by
  show (if powB 1 (n : Int) then some ((1 : Int) * 2 ^ (n : Int).toNat) else none).map D.int = _
  have hp : powB 1 (n : Int) = true := by
    unfold powB
    rw [decide_eq_true (by omega : (0 : Int) ≤ n), decide_eq_true (by omega : (n : Int) ≤ 1000000)]
    decide
  rw [if_pos hp, Int.toNat_natCast, Int.one_mul]
  show some (D.int ((2 : Int) ^ n)) = some (D.int ((2 ^ n : Nat) : Int))
  rw [Int.natCast_pow]
  rfl
theorem shr_N (a n : Nat) : binD .shr (.at (.int (a : Int))) (.at (.int (n : Int))) = some (dN (a / 2 ^ n)) := by
  show (if decide (0 ≤ (n : Int)) then some ((a : Int) / 2 ^ (n : Int).toNat) else none).map D.int = _
  rw [if_pos (decide_eq_true (by omega)), Int.toNat_natCast]
  show some (D.int ((a : Int) / 2 ^ n)) = some (D.int ((a / 2 ^ n : Nat) : Int))
  rw [Int.natCast_ediv, Int.natCast_pow]
  rfl
theorem band_1 (a : Nat) : binD .band (.at (.int (a : Int))) (.at (.int 1)) = some (dN (a % 2)) := by
  show some (D.int (Builtin.bitAnd (a : Int) 1)) = _
  have : Builtin.bitAnd (a : Int) 1 = ((a &&& 1 : Nat) : Int) := by
    unfold Builtin.bitAnd
    simp
  rw [this, Nat.and_one_is_mod]
theorem bit_iff (a n : Nat) : (a / 2 ^ n % 2 = 1) ↔ a.testBit n = true := by
  rw [Nat.testBit_eq_decide_div_mod_eq, decide_eq_true_eq]
theorem bits_lt {a n : Nat} (h : a.testBit n = true) : n < Builtin.Int.intBits (a : Int) := by
  have h1 := Nat.ge_two_pow_of_testBit h
  have ha : a ≠ 0 := by
    intro e
    subst e
    simp at h
  unfold Builtin.Int.intBits
  have e : (((a : Int)) == 0) = false := by simpa using ha
  rw [e]
  simp only [Bool.false_eq_true, if_false, Int.natAbs_natCast]
  have := (Nat.le_log2 ha).mpr h1
  omega
end
end Ev

set_option Elab.async false
set_option linter.all false
set_option maxRecDepth 100000
set_option maxHeartbeats 4000000
/-! ranges as values, d.get, written dicts -/
namespace Ev
open PySem PySem.Spec L2
section
variable {C : Calls} {ρ : Env} {p : Bool}
@[simp] theorem z_dg (a k : E) (df : Option At) : ev C p (.dg a k df) ρ = (ev C true a ρ).bnd fun x => M.chk (isDct x) (M.bind (ev C true k) fun j => M.chk (x.clean || nm k) (M.bind (M.lift (dgD (df.getD .non) x j)) fun d => plc p d)) := id rfl
@[simp] theorem z_dsp (kvs : List (At × At)) : ev C p (.dsp kvs) ρ = (M.lift (dspD kvs) ρ).fn p := id rfl
def mthX (C : Calls) (o : E) (es : List E) (x : D) : Option Nat → M D
  | some f => M.bind (evA C es) fun ds => M.chk x.clean (callM C f (o :: es) (x :: ds))
  | none => fun _ => .unk
def mthY (C : Calls) (m : Nat) (o : E) (es : List E) (x : D) : M D := match x with
  | .nd (.obj c _) _ _ => mthX C o es x (C.meth c m)
  | _ => fun _ => .unk
theorem mthY_eq (m : Nat) (o : E) (es : List E) : (fun x : D => (match x with
      | .nd (.obj c _) _ _ => match C.meth c m with
        | some f => M.bind (evA C es) fun ds => M.chk x.clean (callM C f (o :: es) (x :: ds))
        | none => fun _ => .unk
      | _ => fun _ => .unk : M D)) = mthY C m o es := by
  funext x
  cases x with
  | «at» a => rfl
  | nd k b xs => cases k <;> first | rfl | (rename_i c fs; show (match C.meth c m with | some f => _ | none => _) = mthX C o es _ (C.meth c m); cases C.meth c m <;> rfl)
@[simp] theorem z_mthV (m i : Nat) (es : List E) : ev C p (.mth m (.var i) es) ρ = ((ev C true (.var i) ρ).bnd (mthY C m (.var i) es)).fn p := by
  rw [← mthY_eq]; rfl
@[simp] theorem z_mthF2 (m f : Nat) (a : E) (es : List E) : ev C p (.mth m (.fld a f) es) ρ = ((ev C true (.fld a f) ρ).bnd (mthY C m (.fld a f) es)).fn p := by
  rw [← mthY_eq]; rfl
@[simp] theorem z_mthI2 (m : Nat) (a i : E) (es : List E) : ev C p (.mth m (.idx a i) es) ρ = ((ev C true (.idx a i) ρ).bnd (mthY C m (.idx a i) es)).fn p := by
  rw [← mthY_eq]; rfl
@[simp] theorem z_mthC2 (m f : Nat) (as es : List E) : ev C p (.mth m (.call f as) es) ρ = ((ev C true (.call f as) ρ).bnd (mthY C m (.call f as) es)).fn p := by
  rw [← mthY_eq]; rfl
@[simp] theorem z_mthY (m : Nat) (o : E) (es : List E) (c : Nat) (fs : List Nat) (b : Bool) (xs : List D) : mthY C m o es (.nd (.obj c fs) b xs) ρ = mthX C o es (.nd (.obj c fs) b xs) (C.meth c m) ρ := id rfl
@[simp] theorem z_mthX (o : E) (es : List E) (x : D) (f : Nat) : mthX C o es x (some f) ρ = ((evA C es ρ).bnd fun ds => M.chk x.clean (callM C f (o :: es) (x :: ds))) := id rfl
@[simp] theorem q_isnB {a b : Bool} : cmpD .isn (.at (.bl a)) (.at (.bl b)) = some (!(a == b)) := by cases a <;> cases b <;> rfl
@[simp] theorem q_isB {a b : Bool} : cmpD .is (.at (.bl a)) (.at (.bl b)) = some (a == b) := by cases a <;> cases b <;> rfl
@[simp] theorem z_dicF : ev C p (.dic false) ρ = ((R.ok (.nd (.dk []) true []) ρ : R D)).fn p := id rfl
@[simp] theorem z_dicT : ev C p (.dic true) ρ = ((R.ok (.nd (.dt []) true []) ρ : R D)).fn p := id rfl
@[simp] theorem q_dctK {ks : List Key} {m : Bool} {xs : List D} : isDct (.nd (.dk ks) m xs) = true := id rfl
@[simp] theorem q_dctT {ks : List (List Key)} {m : Bool} {xs : List D} : isDct (.nd (.dt ks) m xs) = true := id rfl
@[simp] theorem q_rg1 {j : Int} : b1D .range (.at (.int j)) = some (.nd (.rng 0 j) false []) := id rfl
@[simp] theorem q_rg2 {i j : Int} : b2D .range (.at (.int i)) (.at (.int j)) = some (.nd (.rng i j) false []) := id rfl
theorem rgB_N {a b : Nat} (ha : a ≤ 16777216) (hb : b ≤ 16777216) : rgB (a : Int) (b : Int) = true := by
  unfold rgB
  rw [smallN (by omega), smallN (by omega)]
  simp
  omega
theorem q_lstR {n : Nat} {m : Bool} {xs : List D} (h : n ≤ 16777216) : b1D .list (.nd (.rng 0 (n : Int)) m xs) = some (oM dN (List.range n)) := by
  show (if rgB 0 (n : Int) then some (D.lst true (rngD 0 ((n : Int) - 0).toNat)) else none) = _
  have := rgB_N (a := 0) (b := n) (by omega) h
  rw [show ((0 : Nat) : Int) = 0 from rfl] at this
  rw [this, if_pos rfl, show ((n : Int) - 0).toNat = n by omega, range_ys0]
theorem q_tupR {n : Nat} {m : Bool} {xs : List D} (h : n ≤ 16777216) : b1D .tuple (.nd (.rng 0 (n : Int)) m xs) = some (tN (List.range n)) := by
  show (if rgB 0 (n : Int) then some (D.tup (rngD 0 ((n : Int) - 0).toNat)) else none) = _
  have := rgB_N (a := 0) (b := n) (by omega) h
  rw [show ((0 : Nat) : Int) = 0 from rfl] at this
  rw [this, if_pos rfl, show ((n : Int) - 0).toNat = n by omega, range_ys0]
theorem q_lstR2 {a b : Nat} {m : Bool} {xs : List D} (ha : a ≤ 16777216) (h : b ≤ 16777216) : b1D .list (.nd (.rng (a : Int) (b : Int)) m xs) = some (oM dN (List.range' a (b - a))) := by
  show (if rgB (a : Int) (b : Int) then some (D.lst true (rngD a ((b : Int) - a).toNat)) else none) = _
  rw [rgB_N ha h, if_pos rfl, show ((b : Int) - a).toNat = b - a by omega, range_ys]
theorem it_seqR {a b : Nat} {m : Bool} {xs : List D} (ha : a < 4611686018427387904) (hb : b < 4611686018427387904) : itemsD .seq [.nd (.rng (a : Int) (b : Int)) m xs] = some ((List.range' a (b - a)).map dN) := by
  show (if smallI (a : Int) && smallI (b : Int) then some (rngD a ((b : Int) - a).toNat) else none) = _
  rw [smallN ha, smallN hb, show ((b : Int) - a).toNat = b - a by omega, range_ys]
  rfl
theorem it_seqR0 {b : Nat} {m : Bool} {xs : List D} (hb : b < 4611686018427387904) : itemsD .seq [.nd (.rng 0 (b : Int)) m xs] = some ((List.range b).map dN) := by
  have := it_seqR (a := 0) (m := m) (xs := xs) (by omega) hb
  rw [show ((0 : Nat) : Int) = 0 from rfl] at this
  rw [this, List.range_eq_range']
  rfl
end
end Ev

set_option Elab.async false
set_option linter.all false
set_option maxRecDepth 100000
set_option maxHeartbeats 0
namespace LW
open PySem PySem.Spec PyProof.Rows L2 Ev
def top (i : Nat) : Stmt := PySem.Challenge.pw_latestword_k25_whole_newer_news.main.body.getD i (.Pass ⟨0, 0, 0, 0⟩)
def F_is_integer : FnD := ⟨["thing"], 1, [
.ret (.and_ (.isi (.var 0) [.int]) (.not_ (.isi (.var 0) [.bool])))], []⟩
def F_is_within : FnD := ⟨["thing", "least", "most"], 3, [
.ret (.and_ (.call 0 [.var 0]) (.chn .le .le (.var 1) (.var 0) (.var 2)))], []⟩
def F_is_lot : FnD := ⟨["thing", "below", "item", "at"], 2, [
.if_ (.or_ (.not_ (.isi (.var 0) [.tuple])) (.not_ (.b1 .all (.lc [2] [2] true .seq [.var 0] [] (.call 1 [.var 2, .cn (.int 0), .bin .sub (.var 1) (.cn (.int 1))]))))) [
.ret (.cn (.bl false))] [], 
.ret (.b1 .all (.lc [3] [3] true .range [.cn (.int 1), .b1 .len (.var 0)] [] (.cmp .lt (.idx (.var 0) (.bin .sub (.var 3) (.cn (.int 1)))) (.idx (.var 0) (.var 3)))))], []⟩
def F_are_works : FnD := ⟨["desks", "thing", "lot"], 2, [
.if_ (.or_ (.not_ (.isi (.var 1) [.tuple])) (.not_ (.chn .le .le (.cn (.int 1)) (.b1 .len (.var 1)) (.gl (.int 10))))) [
.ret (.cn (.bl false))] [], 
.ret (.b1 .all (.lc [2] [2] true .seq [.var 1] [] (.and_ (.call 2 [.var 2, .var 0]) (.cmp .gt (.b1 .len (.var 2)) (.cn (.int 0))))))], []⟩
def F_Office_init : FnD := ⟨["self", "desks", "works", "desk", "work", "lot", "other"], 3, [
.if_ (.not_ (.call 1 [.var 1, .cn (.int 1), .gl (.int 6)])) [
.nev] [], 
.if_ (.not_ (.call 3 [.var 1, .var 2])) [
.nev] [], 
.sto (.fld (.var 0) 0) (.var 1), 
.sto (.fld (.var 0) 1) (.var 2), 
.sto (.fld (.var 0) 2) (.lst []), 
.for_ [3] true .range [.var 1] [
.e (.mut .append (.fld (.var 0) 2) [.b1 .tuple (.lc [4, 5] [4, 5] false .enum [.var 2] [.cmp .inn (.var 3) (.var 5)] (.var 4))])], 
.sto (.fld (.var 0) 3) (.lst []), 
.for_ [5] true .seq [.var 2] [
.e (.mut .append (.fld (.var 0) 3) [.lc [6] [6] true .seq [.var 2] [] (.b1 .any (.lc [3] [3] true .seq [.var 5] [] (.cmp .inn (.var 3) (.var 6))))])]], [3, 5]⟩
def F_is_work : FnD := ⟨["office", "thing"], 2, [
.ret (.call 1 [.var 1, .cn (.int 0), .bin .sub (.b1 .len (.fld (.var 0) 1)) (.cn (.int 1))])], []⟩
def F_check_desk : FnD := ⟨["office", "thing"], 2, [
.if_ (.not_ (.call 1 [.var 1, .cn (.int 0), .bin .sub (.fld (.var 0) 0) (.cn (.int 1))])) [
.nev] []], []⟩
def F_is_row_of : FnD := ⟨["office", "thing", "work"], 2, [
.ret (.and_ (.isi (.var 1) [.tuple]) (.b1 .all (.lc [2] [2] true .seq [.var 1] [] (.call 5 [.var 0, .var 2]))))], []⟩
def F_check_row : FnD := ⟨["office", "thing"], 2, [
.if_ (.not_ (.call 7 [.var 0, .var 1])) [
.nev] []], []⟩
def F_History_init : FnD := ⟨["self", "office", "row", "desk", "place", "work"], 3, [
.sto (.fld (.var 0) 4) (.var 1), 
.sto (.fld (.var 0) 5) (.lst []), 
.sto (.fld (.var 0) 6) (.lc [3] [3] true .range [.fld (.var 1) 0] [] (.cn .non)), 
.sto (.fld (.var 0) 7) (.lc [3] [3] true .range [.fld (.var 1) 0] [] (.cn (.int 0))), 
.for_ [4, 5] false .enum [.var 2] [
.e (.mth 0 (.rf 0) [.var 4, .idx (.fld (.var 1) 1) (.var 5)])]], [4, 5]⟩
def F_History_put : FnD := ⟨["self", "place", "lot", "mask", "desk"], 3, [
.setF 3 (.bin .shl (.cn (.int 1)) (.var 1)), 
.for_ [4] true .seq [.var 2] [
.if_ (.cmp .isn (.idx (.fld (.var 0) 6) (.var 4)) (.cn .non)) [
.aug 3 .bor (.idx (.fld (.var 0) 5) (.idx (.fld (.var 0) 6) (.var 4)))] []], 
.e (.mut .append (.fld (.var 0) 5) [.var 3]), 
.for_ [4] true .seq [.var 2] [
.sto (.idx (.fld (.var 0) 6) (.var 4)) (.var 1), 
.augs (.idx (.fld (.var 0) 7) (.var 4)) .bor (.bin .shl (.cn (.int 1)) (.var 1))]], [3, 4]⟩
def F_History_view_of : FnD := ⟨["self", "lot", "mask", "desk"], 2, [
.setF 2 (.cn (.int 0)), 
.for_ [3] true .seq [.var 1] [
.if_ (.cmp .isn (.idx (.fld (.var 0) 6) (.var 3)) (.cn .non)) [
.aug 2 .bor (.idx (.fld (.var 0) 5) (.idx (.fld (.var 0) 6) (.var 3)))] []], 
.ret (.mv 2)], [2, 3]⟩
def F_newer : FnD := ⟨["office", "row", "one", "other", "desk", "history", "first", "second"], 5, [
.e (.call 8 [.var 0, .var 1]), 
.e (.call 6 [.var 0, .var 2]), 
.e (.call 6 [.var 0, .var 3]), 
.e (.call 6 [.var 0, .var 4]), 
.setF 5 (.mk 1 [.var 0, .var 1]), 
.setF 6 (.bin .band (.mth 1 (.var 5) [.tup [.var 2]]) (.idx (.fld (.var 5) 7) (.var 4))), 
.setF 7 (.bin .band (.mth 1 (.var 5) [.tup [.var 3]]) (.idx (.fld (.var 5) 7) (.var 4))), 
.if_ (.cmp .eq (.un .blen (.var 6)) (.un .blen (.var 7))) [
.ret (.cn (.str "same"))] [], 
.ret (.ife (.cmp .gt (.un .blen (.var 6)) (.un .blen (.var 7))) (.cn (.str "one")) (.cn (.str "other")))], [5, 6, 7]⟩
def F_law_dice : FnD := ⟨["_law_script", "_law_cell"], 1, [
.ret (.lst [.lc [1] [1] true .seq [.slc (.var 0) [] [.cn (.int 63)]] [] (.b1 .abs (.b1 .int (.var 1))), .cn (.int 0), .cn (.int 0), .cn (.int 1), .cn (.int 0)])], []⟩
def F_law_draw : FnD := ⟨["_law_dice_here", "_law_sides", "_law_cell", "_law_digit", "_law_mixed"], 2, [
.if_ (.and_ (.cmp .eq (.idx (.var 0) (.cn (.int 2))) (.cn (.int 0))) (.cmp .lt (.idx (.var 0) (.cn (.int 1))) (.b1 .len (.idx (.var 0) (.cn (.int 0)))))) [
.setF 2 (.idx (.idx (.var 0) (.cn (.int 0))) (.idx (.var 0) (.cn (.int 1)))), 
.sto (.idx (.var 0) (.cn (.int 1))) (.bin .add (.idx (.var 0) (.cn (.int 1))) (.cn (.int 1))), 
.if_ (.cmp .ge (.var 2) (.bin .pow (.cn (.int 10)) (.cn (.int 18)))) [
.sto (.idx (.var 0) (.cn (.int 2))) (.var 2)] [
.sto (.idx (.var 0) (.cn (.int 3))) (.bin .mod (.b1 .int (.bin .add (.bin .add (.bin .mul (.idx (.var 0) (.cn (.int 3))) (.cn (.int 69621))) (.bin .mul (.var 2) (.cn (.int 40692)))) (.idx (.var 0) (.cn (.int 1))))) (.cn (.int 2147483647)))]] [], 
.if_ (.cmp .gt (.idx (.var 0) (.cn (.int 2))) (.cn (.int 0))) [
.setF 3 (.bin .mod (.b1 .int (.idx (.var 0) (.cn (.int 2)))) (.var 1)), 
.sto (.idx (.var 0) (.cn (.int 2))) (.bin .fdiv (.b1 .int (.idx (.var 0) (.cn (.int 2)))) (.var 1)), 
.ret (.mv 3)] [], 
.sto (.idx (.var 0) (.cn (.int 4))) (.bin .add (.idx (.var 0) (.cn (.int 4))) (.cn (.int 1))), 
.sto (.idx (.var 0) (.cn (.int 3))) (.bin .mod (.b1 .int (.bin .add (.bin .add (.bin .mul (.idx (.var 0) (.cn (.int 3))) (.cn (.int 48271))) (.bin .mul (.idx (.var 0) (.cn (.int 4))) (.cn (.int 7919)))) (.cn (.int 1)))) (.cn (.int 2147483647))), 
.setF 4 (.bin .mod (.b1 .int (.bin .mul (.idx (.var 0) (.cn (.int 3))) (.bin .add (.bin .fdiv (.idx (.var 0) (.cn (.int 3))) (.cn (.int 1009))) (.cn (.int 69623))))) (.cn (.int 2147483399))), 
.setF 4 (.bin .mod (.b1 .int (.bin .mul (.var 4) (.bin .add (.bin .fdiv (.var 4) (.cn (.int 2003))) (.cn (.int 40693))))) (.cn (.int 2147483563))), 
.ret (.bin .mod (.b1 .int (.bin .fdiv (.var 4) (.cn (.int 16)))) (.var 1))], [2, 3, 4]⟩
def F_law_parts : FnD := ⟨["_law_dice_here", "_law_most", "_law_desks", "_law_kind", "_law_lots", "_law_desk", "_law_turn", "_law_lot"], 2, [
.setF 2 (.bin .add (.cn (.int 1)) (.call 14 [.rf 0, .var 1])), 
.setF 3 (.call 14 [.rf 0, .cn (.int 4)]), 
.set 4 (.lst []), 
.if_ (.and_ (.cmp .eq (.var 3) (.cn (.int 1))) (.cmp .gt (.var 2) (.cn (.int 2)))) [
.set 4 (.lc [5] [5] true .range [.var 2] [] (.b1 .tuple (.b1 .sorted (.lst [.var 5, .bin .mod (.b1 .int (.bin .add (.var 5) (.cn (.int 1)))) (.var 2)]))))] [], 
.if_ (.cmp .eq (.var 3) (.cn (.int 2))) [
.set 4 (.lc [5] [5] true .range [.var 2] [] (.tup [.var 5]))] [], 
.if_ (.and_ (.cmp .eq (.var 3) (.cn (.int 3))) (.cmp .gt (.var 2) (.cn (.int 1)))) [
.set 4 (.lc [5] [5] true .range [.cn (.int 1), .var 2] [] (.tup [.cn (.int 0), .var 5]))] [], 
.for_ [6] true .range [.bin .add (.cn (.int 1)) (.call 14 [.rf 0, .cn (.int 4)])] [
.setF 7 (.b1 .tuple (.lc [5] [5] true .range [.var 2] [.cmp .eq (.call 14 [.rf 0, .cn (.int 2)]) (.cn (.int 0))] (.var 5))), 
.e (.mut .append (.var 4) [.ife (.cmp .gt (.b1 .len (.var 7)) (.cn (.int 0))) (.var 7) (.tup [.call 14 [.rf 0, .var 2]])])], 
.ret (.tup [.var 2, .b1 .tuple (.slc (.var 4) [] [.cn (.int 10)])])], [2, 3, 4, 6, 7]⟩
def F_law_made : FnD := ⟨["_law_parts_here"], 1, [
.ret (.mk 0 [.idx (.var 0) (.cn (.int 0)), .idx (.var 0) (.cn (.int 1))])], []⟩
def F_law_some_parts : FnD := ⟨["_law_dice_here"], 1, [
.ret (.call 15 [.rf 0, .ife (.cmp .eq (.call 14 [.rf 0, .cn (.int 8)]) (.cn (.int 0))) (.cn (.int 6)) (.cn (.int 4))])], []⟩
def F_law_row : FnD := ⟨["_law_dice_here", "_law_parts_here", "_law_most", "_law_turn"], 3, [
.ret (.b1 .tuple (.lc [3] [3] true .range [.call 14 [.rf 0, .bin .add (.var 2) (.cn (.int 1))]] [] (.call 14 [.rf 0, .b1 .len (.idx (.var 1) (.cn (.int 1)))])))], []⟩
def F_law_meets : FnD := ⟨["_law_parts_here", "_law_one", "_law_other", "_law_desk"], 3, [
.ret (.b1 .any (.lc [3] [3] true .seq [.idx (.idx (.var 0) (.cn (.int 1))) (.var 1)] [] (.cmp .inn (.var 3) (.idx (.idx (.var 0) (.cn (.int 1))) (.var 2)))))], []⟩
def F_law_pasts : FnD := ⟨["_law_parts_here", "_law_row_here", "_law_found", "_law_place", "_law_here", "_law_event", "_law_other"], 2, [
.set 2 (.lst []), 
.for_ [3] true .range [.b1 .len (.var 1)] [
.set 4 (.dis (.var 3) (.cn (.bl true))), 
.for_ [5] true .range [.var 3] [
.if_ (.call 19 [.var 0, .idx (.var 1) (.var 5), .idx (.var 1) (.var 3)]) [
.dup (.var 4) [.lc [6] [6] true .seq [.idx (.var 2) (.var 5)] [] (.tup [.var 6, .cn (.bl true)])]] []], 
.e (.mut .append (.var 2) [.b1 .sorted (.b1 .list (.var 4))])], 
.ret (.mv 2)], [2, 3, 4, 5]⟩
def F_law_view : FnD := ⟨["_law_parts_here", "_law_row_here", "_law_pasts_here", "_law_lot", "_law_found", "_law_place", "_law_desk", "_law_event"], 4, [
.set 4 (.dic false), 
.for_ [5] true .range [.b1 .len (.var 1)] [
.if_ (.cmp .gt (.b1 .len (.lc [6] [6] true .seq [.var 3] [.cmp .inn (.var 6) (.idx (.idx (.var 0) (.cn (.int 1))) (.idx (.var 1) (.var 5)))] (.var 6))) (.cn (.int 0))) [
.dup (.var 4) [.lc [7] [7] true .seq [.idx (.var 2) (.var 5)] [] (.tup [.var 7, .cn (.bl true)])]] []], 
.ret (.b1 .sorted (.b1 .list (.var 4)))], [4, 5]⟩
def F_law_last : FnD := ⟨["_law_parts_here", "_law_row_here", "_law_events", "_law_desk", "_law_mine", "_law_event"], 4, [
.set 4 (.lc [5] [5] true .seq [.var 2] [.cmp .inn (.var 3) (.idx (.idx (.var 0) (.cn (.int 1))) (.idx (.var 1) (.var 5)))] (.var 5)), 
.ret (.ife (.cmp .gt (.b1 .len (.var 4)) (.cn (.int 0))) (.b1 .max (.var 4)) (.cn .non))], [4]⟩
def F_law_lasts : FnD := ⟨["_law_parts_here", "_law_row_here", "_law_events", "_law_desk"], 3, [
.ret (.b1 .tuple (.lc [3] [3] true .range [.idx (.var 0) (.cn (.int 0))] [] (.call 22 [.var 0, .var 1, .var 2, .var 3])))], []⟩
def F_law_behind : FnD := ⟨["_law_parts_here", "_law_row_here", "_law_pasts_here", "_law_event"], 4, [
.ret (.call 23 [.var 0, .var 1, .ife (.cmp .is (.var 3) (.cn .non)) (.lst []) (.idx (.var 2) (.var 3))])], []⟩
def F_law_two : FnD := ⟨["_law_parts_here", "_law_row_here", "_law_pasts_here", "_law_desk", "_law_first", "_law_event"], 4, [
.setF 4 (.call 23 [.var 0, .var 1, .call 21 [.var 0, .var 1, .var 2, .tup [.var 3]]]), 
.ret (.tup [.var 4, .b1 .tuple (.lc [5] [5] true .seq [.var 4] [] (.call 24 [.var 0, .var 1, .var 2, .var 5]))])], [4]⟩
def F_law_news : FnD := ⟨["_law_parts_here", "_law_row_here", "_law_pasts_here", "_law_desk", "_law_first", "_law_second", "_law_third", "_law_events", "_law_event"], 4, [
.unp [4, 5] (.call 25 [.var 0, .var 1, .var 2, .var 3]), 
.set 6 (.lst []), 
.for_ [7] true .seq [.var 5] [
.e (.mut .append (.var 6) [.b1 .tuple (.lc [8] [8] true .seq [.var 7] [] (.call 24 [.var 0, .var 1, .var 2, .var 8]))])], 
.ret (.tup [.var 4, .var 5, .b1 .tuple (.var 6)])], [4, 5, 6, 7]⟩
def F_law : FnD := ⟨["_law_script", "_law_dice_here", "_law_turn", "_law_parts_here", "_law_office", "_law_row_here", "_law_pasts_here", "_law_told", "_law_desk", "_law_triples", "_law_k", "_law_one", "_law_other", "_law_first", "_law_second", "_law_due", "_law_turned"], 1, [
.set 1 (.call 13 [.var 0]), 
.for_ [2] true .range [.cn (.int 2)] [
.setF 3 (.call 17 [.rf 1]), 
.setF 4 (.call 16 [.var 3]), 
.setF 5 (.call 18 [.rf 1, .var 3, .ife (.cmp .eq (.call 14 [.rf 1, .cn (.int 8)]) (.cn (.int 0))) (.cn (.int 60)) (.cn (.int 12))]), 
.setF 6 (.call 20 [.var 3, .var 5]), 
.set 7 (.lc [8] [8] true .range [.idx (.var 3) (.cn (.int 0))] [] (.idx (.call 26 [.var 3, .var 5, .var 6, .var 8]) (.cn (.int 0)))), 
.set 9 (.lc [10] [10] true .range [.cn (.int 20)] [] (.tup [.call 14 [.rf 1, .idx (.var 3) (.cn (.int 0))], .call 14 [.rf 1, .idx (.var 3) (.cn (.int 0))], .call 14 [.rf 1, .idx (.var 3) (.cn (.int 0))]])), 
.for_ [11, 12, 8] false .seq [.sh 9] [
.setF 13 (.ife (.cmp .is (.idx (.idx (.var 7) (.var 11)) (.var 8)) (.cn .non)) (.un .neg (.cn (.int 1))) (.idx (.idx (.var 7) (.var 11)) (.var 8))), 
.setF 14 (.ife (.cmp .is (.idx (.idx (.var 7) (.var 12)) (.var 8)) (.cn .non)) (.un .neg (.cn (.int 1))) (.idx (.idx (.var 7) (.var 12)) (.var 8))), 
.setF 15 (.ife (.cmp .eq (.var 13) (.var 14)) (.cn (.str "same")) (.idx (.lst [.cn (.str "other"), .cn (.str "one")]) (.b1 .int (.cmp .gt (.var 13) (.var 14))))), 
.if_ (.cmp .ne (.call 12 [.var 4, .var 5, .var 11, .var 12, .var 8]) (.var 15)) [
.ret (.cn (.bl false))] [], 
.setF 16 (.dg (.dsp [(.str "one", .str "other"), (.str "other", .str "one"), (.str "same", .str "same")]) (.var 15) none), 
.if_ (.or_ (.cmp .ne (.call 12 [.var 4, .var 5, .var 12, .var 11, .var 8]) (.var 16)) (.cmp .ne (.call 12 [.var 4, .var 5, .var 11, .var 11, .var 8]) (.cn (.str "same")))) [
.ret (.cn (.bl false))] [], 
.if_ (.cmp .eq (.call 12 [.var 4, .var 5, .var 8, .var 12, .var 8]) (.cn (.str "other"))) [
.ret (.cn (.bl false))] []]], 
.ret (.cn (.bl true))], [1, 2, 3, 4, 5, 6, 7, 9, 11, 12, 8, 13, 14, 15, 16]⟩
def rows : List (FnD × He.DefD) := [
  (F_is_integer, (⟨("is_integer", none), "is_integer", "is_integer", defArgs (top 7), defBody (top 7), defScope (top 7), [], []⟩ : He.DefD)),
  (F_is_within, (⟨("is_within", none), "is_within", "is_within", defArgs (top 8), defBody (top 8), defScope (top 8), [], []⟩ : He.DefD)),
  (F_is_lot, (⟨("is_lot", none), "is_lot", "is_lot", defArgs (top 9), defBody (top 9), defScope (top 9), [], []⟩ : He.DefD)),
  (F_are_works, (⟨("are_works", none), "are_works", "are_works", defArgs (top 13), defBody (top 13), defScope (top 13), [], []⟩ : He.DefD)),
  (F_Office_init, (⟨("Office", some "__init__"), "__init__", "Office.__init__", defArgs (inClass (top 14) 0), defBody (inClass (top 14) 0), defScope (inClass (top 14) 0), [], []⟩ : He.DefD)),
  (F_is_work, (⟨("is_work", none), "is_work", "is_work", defArgs (top 15), defBody (top 15), defScope (top 15), [], []⟩ : He.DefD)),
  (F_check_desk, (⟨("check_desk", none), "check_desk", "check_desk", defArgs (top 16), defBody (top 16), defScope (top 16), [], []⟩ : He.DefD)),
  (F_is_row_of, (⟨("is_row_of", none), "is_row_of", "is_row_of", defArgs (top 17), defBody (top 17), defScope (top 17), [], []⟩ : He.DefD)),
  (F_check_row, (⟨("check_row", none), "check_row", "check_row", defArgs (top 18), defBody (top 18), defScope (top 18), [], []⟩ : He.DefD)),
  (F_History_init, (⟨("History", some "__init__"), "__init__", "History.__init__", defArgs (inClass (top 20) 0), defBody (inClass (top 20) 0), defScope (inClass (top 20) 0), [], []⟩ : He.DefD)),
  (F_History_put, (⟨("History", some "put"), "put", "History.put", defArgs (inClass (top 20) 1), defBody (inClass (top 20) 1), defScope (inClass (top 20) 1), [], []⟩ : He.DefD)),
  (F_History_view_of, (⟨("History", some "view_of"), "view_of", "History.view_of", defArgs (inClass (top 20) 2), defBody (inClass (top 20) 2), defScope (inClass (top 20) 2), [], []⟩ : He.DefD)),
  (F_newer, (⟨("newer", none), "newer", "newer", defArgs (top 21), defBody (top 21), defScope (top 21), [], []⟩ : He.DefD)),
  (F_law_dice, (⟨("_law_dice", none), "_law_dice", "_law_dice", defArgs (top 23), defBody (top 23), defScope (top 23), [], []⟩ : He.DefD)),
  (F_law_draw, (⟨("_law_draw", none), "_law_draw", "_law_draw", defArgs (top 24), defBody (top 24), defScope (top 24), [], []⟩ : He.DefD)),
  (F_law_parts, (⟨("_law_parts", none), "_law_parts", "_law_parts", defArgs (top 25), defBody (top 25), defScope (top 25), [], []⟩ : He.DefD)),
  (F_law_made, (⟨("_law_made", none), "_law_made", "_law_made", defArgs (top 26), defBody (top 26), defScope (top 26), [], []⟩ : He.DefD)),
  (F_law_some_parts, (⟨("_law_some_parts", none), "_law_some_parts", "_law_some_parts", defArgs (top 27), defBody (top 27), defScope (top 27), [], []⟩ : He.DefD)),
  (F_law_row, (⟨("_law_row", none), "_law_row", "_law_row", defArgs (top 28), defBody (top 28), defScope (top 28), [], []⟩ : He.DefD)),
  (F_law_meets, (⟨("_law_meets", none), "_law_meets", "_law_meets", defArgs (top 29), defBody (top 29), defScope (top 29), [], []⟩ : He.DefD)),
  (F_law_pasts, (⟨("_law_pasts", none), "_law_pasts", "_law_pasts", defArgs (top 30), defBody (top 30), defScope (top 30), [], []⟩ : He.DefD)),
  (F_law_view, (⟨("_law_view", none), "_law_view", "_law_view", defArgs (top 31), defBody (top 31), defScope (top 31), [], []⟩ : He.DefD)),
  (F_law_last, (⟨("_law_last", none), "_law_last", "_law_last", defArgs (top 32), defBody (top 32), defScope (top 32), [], []⟩ : He.DefD)),
  (F_law_lasts, (⟨("_law_lasts", none), "_law_lasts", "_law_lasts", defArgs (top 33), defBody (top 33), defScope (top 33), [], []⟩ : He.DefD)),
  (F_law_behind, (⟨("_law_behind", none), "_law_behind", "_law_behind", defArgs (top 34), defBody (top 34), defScope (top 34), [], []⟩ : He.DefD)),
  (F_law_two, (⟨("_law_two", none), "_law_two", "_law_two", defArgs (top 35), defBody (top 35), defScope (top 35), [], []⟩ : He.DefD)),
  (F_law_news, (⟨("_law_news", none), "_law_news", "_law_news", defArgs (top 36), defBody (top 36), defScope (top 36), [], []⟩ : He.DefD)),
  (F_law, (⟨("law", none), "law", "law", defArgs (top 37), defBody (top 37), defScope (top 37), [], []⟩ : He.DefD))]
def law : LawD := ⟨["Office", "History"], ["desks", "works", "kept_own", "kept_meets", "kept_office", "kept_pasts", "kept_lasts", "kept_events", "bit_length"], ["put", "view_of"], rows, [(0, 4), (1, 9)], [(1, 0, 10), (1, 1, 11)], ["abs", "all", "any", "bool", "enumerate", "int", "isinstance", "len", "list", "max", "range", "sorted", "tuple"], [], 1000, [("MOST_WORKS", 10), ("MOST_DESKS", 6)]⟩
theorem d0 : defB law (F_is_integer, (⟨("is_integer", none), "is_integer", "is_integer", defArgs (top 7), defBody (top 7), defScope (top 7), [], []⟩ : He.DefD)) = true := by decide +kernel
theorem d1 : defB law (F_is_within, (⟨("is_within", none), "is_within", "is_within", defArgs (top 8), defBody (top 8), defScope (top 8), [], []⟩ : He.DefD)) = true := by decide +kernel
theorem d2 : defB law (F_is_lot, (⟨("is_lot", none), "is_lot", "is_lot", defArgs (top 9), defBody (top 9), defScope (top 9), [], []⟩ : He.DefD)) = true := by decide +kernel
theorem d3 : defB law (F_are_works, (⟨("are_works", none), "are_works", "are_works", defArgs (top 13), defBody (top 13), defScope (top 13), [], []⟩ : He.DefD)) = true := by decide +kernel
theorem d4 : defB law (F_Office_init, (⟨("Office", some "__init__"), "__init__", "Office.__init__", defArgs (inClass (top 14) 0), defBody (inClass (top 14) 0), defScope (inClass (top 14) 0), [], []⟩ : He.DefD)) = true := by decide +kernel
theorem d5 : defB law (F_is_work, (⟨("is_work", none), "is_work", "is_work", defArgs (top 15), defBody (top 15), defScope (top 15), [], []⟩ : He.DefD)) = true := by decide +kernel
theorem d6 : defB law (F_check_desk, (⟨("check_desk", none), "check_desk", "check_desk", defArgs (top 16), defBody (top 16), defScope (top 16), [], []⟩ : He.DefD)) = true := by decide +kernel
theorem d7 : defB law (F_is_row_of, (⟨("is_row_of", none), "is_row_of", "is_row_of", defArgs (top 17), defBody (top 17), defScope (top 17), [], []⟩ : He.DefD)) = true := by decide +kernel
theorem d8 : defB law (F_check_row, (⟨("check_row", none), "check_row", "check_row", defArgs (top 18), defBody (top 18), defScope (top 18), [], []⟩ : He.DefD)) = true := by decide +kernel
theorem d9 : defB law (F_History_init, (⟨("History", some "__init__"), "__init__", "History.__init__", defArgs (inClass (top 20) 0), defBody (inClass (top 20) 0), defScope (inClass (top 20) 0), [], []⟩ : He.DefD)) = true := by decide +kernel
theorem d10 : defB law (F_History_put, (⟨("History", some "put"), "put", "History.put", defArgs (inClass (top 20) 1), defBody (inClass (top 20) 1), defScope (inClass (top 20) 1), [], []⟩ : He.DefD)) = true := by decide +kernel
theorem d11 : defB law (F_History_view_of, (⟨("History", some "view_of"), "view_of", "History.view_of", defArgs (inClass (top 20) 2), defBody (inClass (top 20) 2), defScope (inClass (top 20) 2), [], []⟩ : He.DefD)) = true := by decide +kernel
theorem d12 : defB law (F_newer, (⟨("newer", none), "newer", "newer", defArgs (top 21), defBody (top 21), defScope (top 21), [], []⟩ : He.DefD)) = true := by decide +kernel
theorem d13 : defB law (F_law_dice, (⟨("_law_dice", none), "_law_dice", "_law_dice", defArgs (top 23), defBody (top 23), defScope (top 23), [], []⟩ : He.DefD)) = true := by decide +kernel
theorem d14 : defB law (F_law_draw, (⟨("_law_draw", none), "_law_draw", "_law_draw", defArgs (top 24), defBody (top 24), defScope (top 24), [], []⟩ : He.DefD)) = true := by decide +kernel
theorem d15 : defB law (F_law_parts, (⟨("_law_parts", none), "_law_parts", "_law_parts", defArgs (top 25), defBody (top 25), defScope (top 25), [], []⟩ : He.DefD)) = true := by decide +kernel
theorem d16 : defB law (F_law_made, (⟨("_law_made", none), "_law_made", "_law_made", defArgs (top 26), defBody (top 26), defScope (top 26), [], []⟩ : He.DefD)) = true := by decide +kernel
theorem d17 : defB law (F_law_some_parts, (⟨("_law_some_parts", none), "_law_some_parts", "_law_some_parts", defArgs (top 27), defBody (top 27), defScope (top 27), [], []⟩ : He.DefD)) = true := by decide +kernel
theorem d18 : defB law (F_law_row, (⟨("_law_row", none), "_law_row", "_law_row", defArgs (top 28), defBody (top 28), defScope (top 28), [], []⟩ : He.DefD)) = true := by decide +kernel
theorem d19 : defB law (F_law_meets, (⟨("_law_meets", none), "_law_meets", "_law_meets", defArgs (top 29), defBody (top 29), defScope (top 29), [], []⟩ : He.DefD)) = true := by decide +kernel
theorem d20 : defB law (F_law_pasts, (⟨("_law_pasts", none), "_law_pasts", "_law_pasts", defArgs (top 30), defBody (top 30), defScope (top 30), [], []⟩ : He.DefD)) = true := by decide +kernel
theorem d21 : defB law (F_law_view, (⟨("_law_view", none), "_law_view", "_law_view", defArgs (top 31), defBody (top 31), defScope (top 31), [], []⟩ : He.DefD)) = true := by decide +kernel
theorem d22 : defB law (F_law_last, (⟨("_law_last", none), "_law_last", "_law_last", defArgs (top 32), defBody (top 32), defScope (top 32), [], []⟩ : He.DefD)) = true := by decide +kernel
theorem d23 : defB law (F_law_lasts, (⟨("_law_lasts", none), "_law_lasts", "_law_lasts", defArgs (top 33), defBody (top 33), defScope (top 33), [], []⟩ : He.DefD)) = true := by decide +kernel
theorem d24 : defB law (F_law_behind, (⟨("_law_behind", none), "_law_behind", "_law_behind", defArgs (top 34), defBody (top 34), defScope (top 34), [], []⟩ : He.DefD)) = true := by decide +kernel
theorem d25 : defB law (F_law_two, (⟨("_law_two", none), "_law_two", "_law_two", defArgs (top 35), defBody (top 35), defScope (top 35), [], []⟩ : He.DefD)) = true := by decide +kernel
theorem d26 : defB law (F_law_news, (⟨("_law_news", none), "_law_news", "_law_news", defArgs (top 36), defBody (top 36), defScope (top 36), [], []⟩ : He.DefD)) = true := by decide +kernel
theorem d27 : defB law (F_law, (⟨("law", none), "law", "law", defArgs (top 37), defBody (top 37), defScope (top 37), [], []⟩ : He.DefD)) = true := by decide +kernel
theorem defs_ok : ∀ p ∈ law.fns, defB law p = true := by
  simp only [law, rows, List.forall_mem_cons]
  exact ⟨d0, d1, d2, d3, d4, d5, d6, d7, d8, d9, d10, d11, d12, d13, d14, d15, d16, d17, d18, d19, d20, d21, d22, d23, d24, d25, d26, d27, fun _ h => nomatch h⟩
theorem law_ok : law.ok = true := by decide +kernel
def loose : List PySem.Str := (["_wall", "OfficeError", "BadOffice", "NoDesk", "NoRow", "is_integer", "is_within", "is_lot", "MOST_DESKS", "MOST_WORKS", "are_works", "Office", "is_work", "check_desk", "is_row_of", "check_row", "History", "newer", "_law_dice", "_law_draw", "_law_parts", "_law_made", "_law_some_parts", "_law_row", "_law_meets", "_law_pasts", "_law_view", "_law_last", "_law_lasts", "_law_behind"] : List PySem.Str) ++ (["_law_two", "_law_news"] : List PySem.Str)
abbrev R : PySem.W.OpenRow := PySem.W.OpenLaw.row PySem.Challenge.rw_latestword_k25_whole_newer_news
abbrev hk : PySem.W.Hook := He.hookX 4 law.fa law.fn [] [] law.ex
def ob (s : PySem.W.SharedT) := He.obsX 4 law.fa law.fn [] [] law.ex (HandSHeadRun.getT s)
theorem ob_eq (s : PySem.W.SharedT) : ob s = hk.obs s.abs := He.obsX_eq (HandSHeadRun.getT_eq s)
theorem run (w : World) : HandSHeadRun.RunEq R (PySem.W.view R.prog [37]) hk ob 20000 loose w := by
  intro os
  kernel_rfl
end LW

open PySem PySem.W PySem.Calls PyProof.Rows in
theorem LW.holds_of {n : Nat} (hn : 3 * (2 * n) + 5 < 1000) (hr : L2.Room (2 * n) callerA) (hev : ∀ ns : List Int, ns.length ≤ 63 → (Ev.dcall LW.law.pg n).call 27 [false] [Ev.scrD ns] = .ok (Ev.D.bl true) []) : PySem.Challenge.rw_latestword_k25_whole_newer_news.Holds := by
  w_on; o_law
  refine HandSHeadRun.head_any (r := OpenLaw.row PySem.Challenge.rw_latestword_k25_whole_newer_news) (q := view (OpenLaw.row PySem.Challenge.rw_latestword_k25_whole_newer_news).prog [37]) (H := LW.hk) (ob := LW.ob) (M := 20000) (loose := LW.loose) (d := HandSHeadRun.topDef (OpenLaw.row PySem.Challenge.rw_latestword_k25_whole_newer_news).prog 37) (kwd := []) LW.ob_eq
    (by kernel_rfl) (fun s => by kernel_rfl) LW.run (by kernel_rfl) (by kernel_rfl) (by kernel_rfl) (by rfl) (by first | assumption | decide +kernel) (by decide +kernel) ⟨rfl, rfl, rfl, rfl, rfl, by decide +kernel⟩ ?hw ?hc
  case hw => w_witness2
  case hc =>
    refine L2.walk_ofE (l := PySem.Challenge.rw_latestword_k25_whole_newer_news) (n := 63) (k := 2 * n) (x := "_law_script") (CX := L2.CX0) rfl (by decide) (by kernel_rfl) hr ?F (fun _ _ _ _ z => z)
    intro w mg fa h Y G hmg0
    obtain ⟨K, KX, c⟩ := Y
    have hmg : mg ("law" : PySem.Str) = some (.ref fa) := by
      have e : (HandSHeadRun.topDef (OpenLaw.row PySem.Challenge.rw_latestword_k25_whole_newer_news).prog 37).name = ("law" : PySem.Str) := by kernel_rfl
      rw [← e]
      exact hmg0
    exact Ev.law_F (P := (PySem.Challenge.rw_latestword_k25_whole_newer_news).prog) (w := w) KX G LW.defs_ok LW.law_ok c.t.d c.more hmg (f0 := 27) (d0 := LW.F_law) rfl rfl rfl hev


set_option Elab.async false
set_option linter.all false
set_option maxRecDepth 100000
set_option maxHeartbeats 4000000
/-! checks, Office(..) -/
namespace LW
open Ev
theorem is_integer_ok (n : Nat) (i : Int) : (dcall law.pg (n+1)).call 0 [false] [.at (.int i)] = .ok (.at (.bl true)) [] := by rfl
theorem is_within_ok (n : Nat) (i a b : Int) : (dcall law.pg (n+2)).call 1 [false, false, false] [.at (.int i), .at (.int a), .at (.int b)] = .ok (.at (.bl (decide (a ≤ i) && decide (i ≤ b)))) [] := by
  rw [dcall_succ law.pg (n+1) 1 _ _ (fd := F_is_within) rfl rfl]
  by_cases h : a ≤ i
  · simp [-List.getD_eq_getElem?_getD, -List.map_take, -List.map_drop, -List.map_reverse, q_takeM, q_dropM, q_revM, refsAt, env0, rfOf, isRf, fillR, putR, nm, nmL, setMany, asnD, wipeE, backE, partOf, path, D.get, fldP, posK, lstAt, isLst, F_is_within, is_integer_ok, h]
  · simp [-List.getD_eq_getElem?_getD, -List.map_take, -List.map_drop, -List.map_reverse, q_takeM, q_dropM, q_revM, refsAt, env0, rfOf, isRf, fillR, putR, nm, nmL, setMany, asnD, wipeE, backE, partOf, path, D.get, fldP, posK, lstAt, isLst, F_is_within, is_integer_ok, h]
/-- an ascending lot below a number -/
def Lot (b : Nat) (ns : List Nat) : Prop := ns.Pairwise (· < ·) ∧ ∀ x ∈ ns, x < b
theorem Lot.le {b : Nat} {ns : List Nat} (h : Lot b ns) : ns.length ≤ b := by
  have key : ∀ (ns : List Nat) (a : Nat), ns.Pairwise (· < ·) → (∀ x ∈ ns, a ≤ x ∧ x < b) → a ≤ b → ns.length + a ≤ b := by
    intro ns
    induction ns with
    | nil => intro a _ _ h; simpa using h
    | cons n ns ih =>
      intro a hp hx ha
      rw [List.pairwise_cons] at hp
      have := ih (n + 1) hp.2 (fun x hx' => ⟨hp.1 x hx', (hx x (List.mem_cons_of_mem _ hx')).2⟩) (hx n List.mem_cons_self).2
      have := (hx n List.mem_cons_self).1
      rw [List.length_cons]; omega
  simpa using key ns 0 h.1 (fun x hx => ⟨Nat.zero_le _, h.2 x hx⟩) (Nat.zero_le _)
theorem is_lot_ok (n b : Nat) (ns : List Nat) (hb : b ≤ 100000) (h : Lot b ns) : (dcall law.pg (n+3)).call 2 [false, false] [tN ns, dN b] = .ok (dB true) [] := by
  have hz := PySem.sizeLine_eq
  have hle := h.le
  rw [dcall_succ law.pg (n+2) 2 _ _ (fd := F_is_lot) rfl rfl]
  refine cW_eq ?_
  (simp [-List.getD_eq_getElem?_getD, -List.map_take, -List.map_drop, -List.map_reverse, q_takeM, q_dropM, q_revM, refsAt, env0, rfOf, isRf, fillR, putR, nm, nmL, setMany, asnD, wipeE, backE, partOf, path, D.get, fldP, posK, lstAt, isLst, F_is_lot])
  refine w_lcM (ns) (dN) (fun _ => D.bl true) (by first | with_reducible rfl | ((simp [-List.getD_eq_getElem?_getD, -List.map_take, -List.map_drop, -List.map_reverse, q_takeM, q_dropM, q_revM, refsAt, env0, rfOf, isRf, fillR, putR, nm, nmL, setMany, asnD, wipeE, backE, partOf, path, D.get, fldP, posK, lstAt, isLst]); done) | ((try (simp [-List.getD_eq_getElem?_getD, -List.map_take, -List.map_drop, -List.map_reverse, q_takeM, q_dropM, q_revM, refsAt, env0, rfOf, isRf, fillR, putR, nm, nmL, setMany, asnD, wipeE, backE, partOf, path, D.get, fldP, posK, lstAt, isLst])); first | with_reducible exact it_rng (by omega) | with_reducible exact it_rng1 (by omega) | with_reducible exact it_rng2 (by omega) (by omega) | with_reducible exact it_rngS (by simp <;> omega) (by omega) | with_reducible exact it_rng2S (by simp <;> omega) (by simp <;> omega) (by omega) (by omega) | with_reducible exact it_zipT _ _ _ _ (by (simp [-List.getD_eq_getElem?_getD, -List.map_take, -List.map_drop, -List.map_reverse, q_takeM, q_dropM, q_revM, refsAt, env0, rfOf, isRf, fillR, putR, nm, nmL, setMany, asnD, wipeE, backE, partOf, path, D.get, fldP, posK, lstAt, isLst])))) (by (simp [-List.getD_eq_getElem?_getD, -List.map_take, -List.map_drop, -List.map_reverse, q_takeM, q_dropM, q_revM, refsAt, env0, rfOf, isRf, fillR, putR, nm, nmL, setMany, asnD, wipeE, backE, partOf, path, D.get, fldP, posK, lstAt, isLst])) (by first | (have hz' := PySem.sizeLine_eq; omega) | (have hz' := PySem.sizeLine_eq; simp; omega)) (fun q hq => ?_) ?_
  · have := h.2 q hq
    (simp [-List.getD_eq_getElem?_getD, -List.map_take, -List.map_drop, -List.map_reverse, q_takeM, q_dropM, q_revM, refsAt, env0, rfOf, isRf, fillR, putR, nm, nmL, setMany, asnD, wipeE, backE, partOf, path, D.get, fldP, posK, lstAt, isLst, is_within_ok])
    omega
  (simp [-List.getD_eq_getElem?_getD, -List.map_take, -List.map_drop, -List.map_reverse, q_takeM, q_dropM, q_revM, refsAt, env0, rfOf, isRf, fillR, putR, nm, nmL, setMany, asnD, wipeE, backE, partOf, path, D.get, fldP, posK, lstAt, isLst])
  refine w_lcM (List.range' 1 (ns.length - 1)) (dN) (fun _ => D.bl true) (by first | with_reducible rfl | ((simp [-List.getD_eq_getElem?_getD, -List.map_take, -List.map_drop, -List.map_reverse, q_takeM, q_dropM, q_revM, refsAt, env0, rfOf, isRf, fillR, putR, nm, nmL, setMany, asnD, wipeE, backE, partOf, path, D.get, fldP, posK, lstAt, isLst]); done) | ((try (simp [-List.getD_eq_getElem?_getD, -List.map_take, -List.map_drop, -List.map_reverse, q_takeM, q_dropM, q_revM, refsAt, env0, rfOf, isRf, fillR, putR, nm, nmL, setMany, asnD, wipeE, backE, partOf, path, D.get, fldP, posK, lstAt, isLst])); first | with_reducible exact it_rng (by omega) | with_reducible exact it_rng1 (by omega) | with_reducible exact it_rng2 (by omega) (by omega) | with_reducible exact it_rngS (by simp <;> omega) (by omega) | with_reducible exact it_rng2S (by simp <;> omega) (by simp <;> omega) (by omega) (by omega) | with_reducible exact it_zipT _ _ _ _ (by (simp [-List.getD_eq_getElem?_getD, -List.map_take, -List.map_drop, -List.map_reverse, q_takeM, q_dropM, q_revM, refsAt, env0, rfOf, isRf, fillR, putR, nm, nmL, setMany, asnD, wipeE, backE, partOf, path, D.get, fldP, posK, lstAt, isLst])))) (by (simp [-List.getD_eq_getElem?_getD, -List.map_take, -List.map_drop, -List.map_reverse, q_takeM, q_dropM, q_revM, refsAt, env0, rfOf, isRf, fillR, putR, nm, nmL, setMany, asnD, wipeE, backE, partOf, path, D.get, fldP, posK, lstAt, isLst])) (by first | (have hz' := PySem.sizeLine_eq; omega) | (have hz' := PySem.sizeLine_eq; simp; omega)) (fun q hq => ?_) ?_
  · obtain ⟨h1, h2⟩ := List.mem_range'_1.mp hq
    have e1 : idxD (tN ns) (.at (.int ((q : Int) - 1))) = some (dN (ns[q-1]'(by omega))) := by
      rw [show (q : Int) - 1 = ((q - 1 : Nat) : Int) by omega]
      exact idx_mapT (by omega)
    have e2 : idxD (tN ns) (.at (.int (q : Int))) = some (dN (ns[q]'(by omega))) := idx_mapT (by omega)
    have e3 := List.pairwise_iff_getElem.mp h.1 (q - 1) q (by omega) (by omega) (by omega)
    (simp [-List.getD_eq_getElem?_getD, -List.map_take, -List.map_drop, -List.map_reverse, q_takeM, q_dropM, q_revM, refsAt, env0, rfOf, isRf, fillR, putR, nm, nmL, setMany, asnD, wipeE, backE, partOf, path, D.get, fldP, posK, lstAt, isLst, e1, e2])
    omega
  (simp [-List.getD_eq_getElem?_getD, -List.map_take, -List.map_drop, -List.map_reverse, q_takeM, q_dropM, q_revM, refsAt, env0, rfOf, isRf, fillR, putR, nm, nmL, setMany, asnD, wipeE, backE, partOf, path, D.get, fldP, posK, lstAt, isLst])
end LW

set_option Elab.async false
set_option linter.all false
set_option maxRecDepth 100000
set_option maxHeartbeats 4000000
namespace LW
open Ev
/-- an office: desks, works -/
structure Site where
  desks : Nat
  works : List (List Nat)
structure Site.Ok (s : Site) : Prop where
  d1 : 1 ≤ s.desks
  d6 : s.desks ≤ 6
  w1 : 1 ≤ s.works.length
  w10 : s.works.length ≤ 10
  lot : ∀ l ∈ s.works, Lot s.desks l ∧ l ≠ []
/-- the numbers of the things that pass -/
def idxs {α : Type} (c : α → Bool) (xs : List α) : List Nat := ((xs.zipIdx).filter fun p => c p.1).map fun p => p.2
def Site.own (s : Site) (d : Nat) : List Nat := idxs (fun l => decide (d ∈ l)) s.works
def Site.meet (s : Site) (l m : List Nat) : Bool := l.any fun d => decide (d ∈ m)
def Site.offT (s : Site) : D := .nd (.obj 0 [0, 1, 2, 3]) true [dN s.desks, tM tN s.works, oM tN ((List.range s.desks).map s.own), oM (oM dB) (s.works.map fun l => s.works.map fun m => s.meet l m)]
def Site.off (s : Site) : D := .nd (.obj 0 [0, 1, 2, 3]) false [dN s.desks, tM tN s.works, lM tN ((List.range s.desks).map s.own), lM (lM dB) (s.works.map fun l => s.works.map fun m => s.meet l m)]
theorem are_works_ok (n : Nat) (s : Site) (h : s.Ok) : (dcall law.pg (n+4)).call 3 [false, false] [dN s.desks, tM tN s.works] = .ok (dB true) [] := by
  have h1 := h.w1
  have h10 := h.w10
  have hd := h.d6
  rw [dcall_succ law.pg (n+3) 3 _ _ (fd := F_are_works) rfl rfl]
  refine cW_eq ?_
  have e1 : ((1 : Int) ≤ (s.works.length : Int)) := by omega
  have e2 : ((s.works.length : Int) ≤ (10 : Int)) := by omega
  (simp [-List.getD_eq_getElem?_getD, -List.map_take, -List.map_drop, -List.map_reverse, q_takeM, q_dropM, q_revM, refsAt, env0, rfOf, isRf, fillR, putR, nm, nmL, setMany, asnD, wipeE, backE, partOf, path, D.get, fldP, posK, lstAt, isLst, F_are_works, e1, e2])
  refine w_lcM (s.works) (tN) (fun _ => D.bl true) (by first | with_reducible rfl | ((simp [-List.getD_eq_getElem?_getD, -List.map_take, -List.map_drop, -List.map_reverse, q_takeM, q_dropM, q_revM, refsAt, env0, rfOf, isRf, fillR, putR, nm, nmL, setMany, asnD, wipeE, backE, partOf, path, D.get, fldP, posK, lstAt, isLst]); done) | ((try (simp [-List.getD_eq_getElem?_getD, -List.map_take, -List.map_drop, -List.map_reverse, q_takeM, q_dropM, q_revM, refsAt, env0, rfOf, isRf, fillR, putR, nm, nmL, setMany, asnD, wipeE, backE, partOf, path, D.get, fldP, posK, lstAt, isLst])); first | with_reducible exact it_rng (by omega) | with_reducible exact it_rng1 (by omega) | with_reducible exact it_rng2 (by omega) (by omega) | with_reducible exact it_rngS (by simp <;> omega) (by omega) | with_reducible exact it_rng2S (by simp <;> omega) (by simp <;> omega) (by omega) (by omega) | with_reducible exact it_zipT _ _ _ _ (by (simp [-List.getD_eq_getElem?_getD, -List.map_take, -List.map_drop, -List.map_reverse, q_takeM, q_dropM, q_revM, refsAt, env0, rfOf, isRf, fillR, putR, nm, nmL, setMany, asnD, wipeE, backE, partOf, path, D.get, fldP, posK, lstAt, isLst])))) (by (simp [-List.getD_eq_getElem?_getD, -List.map_take, -List.map_drop, -List.map_reverse, q_takeM, q_dropM, q_revM, refsAt, env0, rfOf, isRf, fillR, putR, nm, nmL, setMany, asnD, wipeE, backE, partOf, path, D.get, fldP, posK, lstAt, isLst])) (by first | (have hz' := PySem.sizeLine_eq; omega) | (have hz' := PySem.sizeLine_eq; simp; omega)) (fun q hq => ?_) ?_
  · obtain ⟨a, b⟩ := h.lot q hq
    have : 0 < q.length := List.length_pos_iff.mpr b
    (simp [-List.getD_eq_getElem?_getD, -List.map_take, -List.map_drop, -List.map_reverse, q_takeM, q_dropM, q_revM, refsAt, env0, rfOf, isRf, fillR, putR, nm, nmL, setMany, asnD, wipeE, backE, partOf, path, D.get, fldP, posK, lstAt, isLst, is_lot_ok n s.desks q (by omega) a])
    omega
  (simp [-List.getD_eq_getElem?_getD, -List.map_take, -List.map_drop, -List.map_reverse, q_takeM, q_dropM, q_revM, refsAt, env0, rfOf, isRf, fillR, putR, nm, nmL, setMany, asnD, wipeE, backE, partOf, path, D.get, fldP, posK, lstAt, isLst])
theorem mem_idxs {α : Type} (c : α → Bool) (xs : List α) (i : Nat) : i ∈ idxs c xs ↔ ∃ x, xs[i]? = some x ∧ c x = true := by
  unfold idxs
  rw [List.mem_map]
  constructor
  · rintro ⟨⟨x, j⟩, hm, rfl⟩
    rw [List.mem_filter] at hm
    obtain ⟨hm, hc⟩ := hm
    rw [List.mem_zipIdx_iff_getElem?] at hm
    exact ⟨x, hm, hc⟩
  · rintro ⟨x, hx, hc⟩
    exact ⟨(x, i), List.mem_filter.mpr ⟨by rw [List.mem_zipIdx_iff_getElem?]; exact hx, hc⟩, rfl⟩
theorem Office_init_ok (n : Nat) (s : Site) (h : s.Ok) : (dcall law.pg (n+5)).call 4 [true, false, false] [.nd (.obj 0 []) true [], dN s.desks, tM tN s.works] = .ok D.non [s.offT] := by
  have h1 := h.w1
  have h10 := h.w10
  have hd := h.d6
  have hd1 := h.d1
  have hz := PySem.sizeLine_eq
  rw [dcall_succ law.pg (n+4) 4 _ _ (fd := F_Office_init) rfl rfl]
  refine cW_eq ?_
  have e1 : ((1 : Int) ≤ (s.desks : Int)) := by omega
  have e2 : ((s.desks : Int) ≤ (6 : Int)) := by omega
  (simp [-List.getD_eq_getElem?_getD, -List.map_take, -List.map_drop, -List.map_reverse, q_takeM, q_dropM, q_revM, refsAt, env0, rfOf, isRf, fillR, putR, nm, nmL, setMany, asnD, wipeE, backE, partOf, path, D.get, fldP, posK, lstAt, isLst, F_Office_init, is_within_ok, e1, e2, are_works_ok n s h])
  refine x_for (List.range s.desks) (dN) (fun ds ρ => ∃ o, ρ = [some (.nd (.obj 0 [0, 1, 2]) true [dN s.desks, tM tN s.works, oM tN (ds.map s.own)]), some (dN s.desks), some (tM tN s.works), o, none, none, none]) (by first | with_reducible rfl | ((simp [-List.getD_eq_getElem?_getD, -List.map_take, -List.map_drop, -List.map_reverse, q_takeM, q_dropM, q_revM, refsAt, env0, rfOf, isRf, fillR, putR, nm, nmL, setMany, asnD, wipeE, backE, partOf, path, D.get, fldP, posK, lstAt, isLst]); done) | ((try (simp [-List.getD_eq_getElem?_getD, -List.map_take, -List.map_drop, -List.map_reverse, q_takeM, q_dropM, q_revM, refsAt, env0, rfOf, isRf, fillR, putR, nm, nmL, setMany, asnD, wipeE, backE, partOf, path, D.get, fldP, posK, lstAt, isLst])); first | with_reducible exact it_rng (by omega) | with_reducible exact it_rng1 (by omega) | with_reducible exact it_rng2 (by omega) (by omega) | with_reducible exact it_rngS (by simp <;> omega) (by omega) | with_reducible exact it_rng2S (by simp <;> omega) (by simp <;> omega) (by omega) (by omega) | with_reducible exact it_zipT _ _ _ _ (by (simp [-List.getD_eq_getElem?_getD, -List.map_take, -List.map_drop, -List.map_reverse, q_takeM, q_dropM, q_revM, refsAt, env0, rfOf, isRf, fillR, putR, nm, nmL, setMany, asnD, wipeE, backE, partOf, path, D.get, fldP, posK, lstAt, isLst])))) (by (simp [-List.getD_eq_getElem?_getD, -List.map_take, -List.map_drop, -List.map_reverse, q_takeM, q_dropM, q_revM, refsAt, env0, rfOf, isRf, fillR, putR, nm, nmL, setMany, asnD, wipeE, backE, partOf, path, D.get, fldP, posK, lstAt, isLst])) (by (simp [-List.getD_eq_getElem?_getD, -List.map_take, -List.map_drop, -List.map_reverse, q_takeM, q_dropM, q_revM, refsAt, env0, rfOf, isRf, fillR, putR, nm, nmL, setMany, asnD, wipeE, backE, partOf, path, D.get, fldP, posK, lstAt, isLst])) rfl ?_ (fun ds y rs hs ρ0 hI => ?_) (fun ρ0 hI => ?_)
  · exact ⟨_, rfl⟩
  · obtain ⟨o, rfl⟩ := hI
    have hlen : ds.length < PySem.sizeLine := by
      have := congrArg List.length hs
      simp at this
      omega
    (simp [-List.getD_eq_getElem?_getD, -List.map_take, -List.map_drop, -List.map_reverse, q_takeM, q_dropM, q_revM, refsAt, env0, rfOf, isRf, fillR, putR, nm, nmL, setMany, asnD, wipeE, backE, partOf, path, D.get, fldP, posK, lstAt, isLst])
    refine w_lcF (s.works.zipIdx) (fun p => D.tup [dN p.2, tN p.1]) (fun p => dN p.2) (fun p => decide (y ∈ p.1)) (by first | with_reducible rfl | ((simp [-List.getD_eq_getElem?_getD, -List.map_take, -List.map_drop, -List.map_reverse, q_takeM, q_dropM, q_revM, refsAt, env0, rfOf, isRf, fillR, putR, nm, nmL, setMany, asnD, wipeE, backE, partOf, path, D.get, fldP, posK, lstAt, isLst]); done) | ((try (simp [-List.getD_eq_getElem?_getD, -List.map_take, -List.map_drop, -List.map_reverse, q_takeM, q_dropM, q_revM, refsAt, env0, rfOf, isRf, fillR, putR, nm, nmL, setMany, asnD, wipeE, backE, partOf, path, D.get, fldP, posK, lstAt, isLst])); first | with_reducible exact it_rng (by omega) | with_reducible exact it_rng1 (by omega) | with_reducible exact it_rng2 (by omega) (by omega) | with_reducible exact it_rngS (by simp <;> omega) (by omega) | with_reducible exact it_rng2S (by simp <;> omega) (by simp <;> omega) (by omega) (by omega) | with_reducible exact it_zipT _ _ _ _ (by (simp [-List.getD_eq_getElem?_getD, -List.map_take, -List.map_drop, -List.map_reverse, q_takeM, q_dropM, q_revM, refsAt, env0, rfOf, isRf, fillR, putR, nm, nmL, setMany, asnD, wipeE, backE, partOf, path, D.get, fldP, posK, lstAt, isLst])))) (by (simp [-List.getD_eq_getElem?_getD, -List.map_take, -List.map_drop, -List.map_reverse, q_takeM, q_dropM, q_revM, refsAt, env0, rfOf, isRf, fillR, putR, nm, nmL, setMany, asnD, wipeE, backE, partOf, path, D.get, fldP, posK, lstAt, isLst])) (by first | (have hz' := PySem.sizeLine_eq; omega) | (have hz' := PySem.sizeLine_eq; simp; omega)) (fun q hq => ?_) ?_
    · (simp [-List.getD_eq_getElem?_getD, -List.map_take, -List.map_drop, -List.map_reverse, q_takeM, q_dropM, q_revM, refsAt, env0, rfOf, isRf, fillR, putR, nm, nmL, setMany, asnD, wipeE, backE, partOf, path, D.get, fldP, posK, lstAt, isLst])
    (simp [-List.getD_eq_getElem?_getD, -List.map_take, -List.map_drop, -List.map_reverse, q_takeM, q_dropM, q_revM, refsAt, env0, rfOf, isRf, fillR, putR, nm, nmL, setMany, asnD, wipeE, backE, partOf, path, D.get, fldP, posK, lstAt, isLst, b_app, hlen])
    rw [Site.own, idxs, List.map_map]
    rfl
  · obtain ⟨o, rfl⟩ := hI
    (simp [-List.getD_eq_getElem?_getD, -List.map_take, -List.map_drop, -List.map_reverse, q_takeM, q_dropM, q_revM, refsAt, env0, rfOf, isRf, fillR, putR, nm, nmL, setMany, asnD, wipeE, backE, partOf, path, D.get, fldP, posK, lstAt, isLst])
    refine x_for (s.works) (tN) (fun ds ρ => ∃ o2 o, ρ = [some (.nd (.obj 0 [0, 1, 2, 3]) true [dN s.desks, tM tN s.works, oM tN ((List.range s.desks).map s.own), oM (oM dB) (ds.map fun l => s.works.map fun m => s.meet l m)]), some (dN s.desks), some (tM tN s.works), o, none, o2, none]) (by first | with_reducible rfl | ((simp [-List.getD_eq_getElem?_getD, -List.map_take, -List.map_drop, -List.map_reverse, q_takeM, q_dropM, q_revM, refsAt, env0, rfOf, isRf, fillR, putR, nm, nmL, setMany, asnD, wipeE, backE, partOf, path, D.get, fldP, posK, lstAt, isLst]); done) | ((try (simp [-List.getD_eq_getElem?_getD, -List.map_take, -List.map_drop, -List.map_reverse, q_takeM, q_dropM, q_revM, refsAt, env0, rfOf, isRf, fillR, putR, nm, nmL, setMany, asnD, wipeE, backE, partOf, path, D.get, fldP, posK, lstAt, isLst])); first | with_reducible exact it_rng (by omega) | with_reducible exact it_rng1 (by omega) | with_reducible exact it_rng2 (by omega) (by omega) | with_reducible exact it_rngS (by simp <;> omega) (by omega) | with_reducible exact it_rng2S (by simp <;> omega) (by simp <;> omega) (by omega) (by omega) | with_reducible exact it_zipT _ _ _ _ (by (simp [-List.getD_eq_getElem?_getD, -List.map_take, -List.map_drop, -List.map_reverse, q_takeM, q_dropM, q_revM, refsAt, env0, rfOf, isRf, fillR, putR, nm, nmL, setMany, asnD, wipeE, backE, partOf, path, D.get, fldP, posK, lstAt, isLst])))) (by (simp [-List.getD_eq_getElem?_getD, -List.map_take, -List.map_drop, -List.map_reverse, q_takeM, q_dropM, q_revM, refsAt, env0, rfOf, isRf, fillR, putR, nm, nmL, setMany, asnD, wipeE, backE, partOf, path, D.get, fldP, posK, lstAt, isLst])) (by (simp [-List.getD_eq_getElem?_getD, -List.map_take, -List.map_drop, -List.map_reverse, q_takeM, q_dropM, q_revM, refsAt, env0, rfOf, isRf, fillR, putR, nm, nmL, setMany, asnD, wipeE, backE, partOf, path, D.get, fldP, posK, lstAt, isLst])) rfl ?_ (fun ds y rs hs ρ0 hI => ?_) (fun ρ0 hI => ?_)
    · exact ⟨_, _, rfl⟩
    · obtain ⟨o2, o, rfl⟩ := hI
      have hlen : ds.length < PySem.sizeLine := by
        have := congrArg List.length hs
        simp at this
        omega
      (simp [-List.getD_eq_getElem?_getD, -List.map_take, -List.map_drop, -List.map_reverse, q_takeM, q_dropM, q_revM, refsAt, env0, rfOf, isRf, fillR, putR, nm, nmL, setMany, asnD, wipeE, backE, partOf, path, D.get, fldP, posK, lstAt, isLst])
      refine w_lcM (s.works) (tN) (fun m => dB (s.meet y m)) (by first | with_reducible rfl | ((simp [-List.getD_eq_getElem?_getD, -List.map_take, -List.map_drop, -List.map_reverse, q_takeM, q_dropM, q_revM, refsAt, env0, rfOf, isRf, fillR, putR, nm, nmL, setMany, asnD, wipeE, backE, partOf, path, D.get, fldP, posK, lstAt, isLst]); done) | ((try (simp [-List.getD_eq_getElem?_getD, -List.map_take, -List.map_drop, -List.map_reverse, q_takeM, q_dropM, q_revM, refsAt, env0, rfOf, isRf, fillR, putR, nm, nmL, setMany, asnD, wipeE, backE, partOf, path, D.get, fldP, posK, lstAt, isLst])); first | with_reducible exact it_rng (by omega) | with_reducible exact it_rng1 (by omega) | with_reducible exact it_rng2 (by omega) (by omega) | with_reducible exact it_rngS (by simp <;> omega) (by omega) | with_reducible exact it_rng2S (by simp <;> omega) (by simp <;> omega) (by omega) (by omega) | with_reducible exact it_zipT _ _ _ _ (by (simp [-List.getD_eq_getElem?_getD, -List.map_take, -List.map_drop, -List.map_reverse, q_takeM, q_dropM, q_revM, refsAt, env0, rfOf, isRf, fillR, putR, nm, nmL, setMany, asnD, wipeE, backE, partOf, path, D.get, fldP, posK, lstAt, isLst])))) (by (simp [-List.getD_eq_getElem?_getD, -List.map_take, -List.map_drop, -List.map_reverse, q_takeM, q_dropM, q_revM, refsAt, env0, rfOf, isRf, fillR, putR, nm, nmL, setMany, asnD, wipeE, backE, partOf, path, D.get, fldP, posK, lstAt, isLst])) (by first | (have hz' := PySem.sizeLine_eq; omega) | (have hz' := PySem.sizeLine_eq; simp; omega)) (fun q hq => ?_) ?_
      · have hy : y.length ≤ s.desks := (h.lot y (by rw [hs]; simp)).1.le
        (simp [-List.getD_eq_getElem?_getD, -List.map_take, -List.map_drop, -List.map_reverse, q_takeM, q_dropM, q_revM, refsAt, env0, rfOf, isRf, fillR, putR, nm, nmL, setMany, asnD, wipeE, backE, partOf, path, D.get, fldP, posK, lstAt, isLst])
        refine w_lcM (y) (dN) (fun d => dB (decide (d ∈ q))) (by first | with_reducible rfl | ((simp [-List.getD_eq_getElem?_getD, -List.map_take, -List.map_drop, -List.map_reverse, q_takeM, q_dropM, q_revM, refsAt, env0, rfOf, isRf, fillR, putR, nm, nmL, setMany, asnD, wipeE, backE, partOf, path, D.get, fldP, posK, lstAt, isLst]); done) | ((try (simp [-List.getD_eq_getElem?_getD, -List.map_take, -List.map_drop, -List.map_reverse, q_takeM, q_dropM, q_revM, refsAt, env0, rfOf, isRf, fillR, putR, nm, nmL, setMany, asnD, wipeE, backE, partOf, path, D.get, fldP, posK, lstAt, isLst])); first | with_reducible exact it_rng (by omega) | with_reducible exact it_rng1 (by omega) | with_reducible exact it_rng2 (by omega) (by omega) | with_reducible exact it_rngS (by simp <;> omega) (by omega) | with_reducible exact it_rng2S (by simp <;> omega) (by simp <;> omega) (by omega) (by omega) | with_reducible exact it_zipT _ _ _ _ (by (simp [-List.getD_eq_getElem?_getD, -List.map_take, -List.map_drop, -List.map_reverse, q_takeM, q_dropM, q_revM, refsAt, env0, rfOf, isRf, fillR, putR, nm, nmL, setMany, asnD, wipeE, backE, partOf, path, D.get, fldP, posK, lstAt, isLst])))) (by (simp [-List.getD_eq_getElem?_getD, -List.map_take, -List.map_drop, -List.map_reverse, q_takeM, q_dropM, q_revM, refsAt, env0, rfOf, isRf, fillR, putR, nm, nmL, setMany, asnD, wipeE, backE, partOf, path, D.get, fldP, posK, lstAt, isLst])) (by first | (have hz' := PySem.sizeLine_eq; omega) | (have hz' := PySem.sizeLine_eq; simp; omega)) (fun q hq => ?_) ?_
        · (simp [-List.getD_eq_getElem?_getD, -List.map_take, -List.map_drop, -List.map_reverse, q_takeM, q_dropM, q_revM, refsAt, env0, rfOf, isRf, fillR, putR, nm, nmL, setMany, asnD, wipeE, backE, partOf, path, D.get, fldP, posK, lstAt, isLst])
        (simp [-List.getD_eq_getElem?_getD, -List.map_take, -List.map_drop, -List.map_reverse, q_takeM, q_dropM, q_revM, refsAt, env0, rfOf, isRf, fillR, putR, nm, nmL, setMany, asnD, wipeE, backE, partOf, path, D.get, fldP, posK, lstAt, isLst])
        rfl
      (simp [-List.getD_eq_getElem?_getD, -List.map_take, -List.map_drop, -List.map_reverse, q_takeM, q_dropM, q_revM, refsAt, env0, rfOf, isRf, fillR, putR, nm, nmL, setMany, asnD, wipeE, backE, partOf, path, D.get, fldP, posK, lstAt, isLst, b_app, hlen])
    · obtain ⟨o2, o, rfl⟩ := hI
      (simp [-List.getD_eq_getElem?_getD, -List.map_take, -List.map_drop, -List.map_reverse, q_takeM, q_dropM, q_revM, refsAt, env0, rfOf, isRf, fillR, putR, nm, nmL, setMany, asnD, wipeE, backE, partOf, path, D.get, fldP, posK, lstAt, isLst])
      rfl
end LW

set_option Elab.async false
set_option linter.all false
set_option maxRecDepth 100000
set_option maxHeartbeats 4000000
namespace LW
open Ev
structure Dice where
  cells : List Int
  pl : Int
  held : Int
  x : Int
  k : Int
def Dice.d (z : Dice) : D := .nd .lst true [.nd .lst true (z.cells.map D.int), .at (.int z.pl), .at (.int z.held), .at (.int z.x), .at (.int z.k)]
structure Dice.Ok (z : Dice) : Prop where
  cs : ∀ c ∈ z.cells, 0 ≤ c
  pl : 0 ≤ z.pl
  held : 0 ≤ z.held
  x : 0 ≤ z.x ∧ z.x < 2147483647
  k : 0 ≤ z.k
/-- the part of a draw behind the first if -/
theorem draw_held (n : Nat) (z : Dice) (h : z.Ok) (s : Int) (hs : 0 < s) (hs2 : s < 1073741824) (hp : 0 < z.held) : ∃ r z', Dice.Ok z' ∧ 0 ≤ r ∧ r < s ∧ (dcall law.pg (n+1)).call 14 [true, false] [z.d, .at (.int s)] = .ok (.at (.int r)) [z'.d] := by
  refine ⟨z.held % s, { z with held := z.held / s }, ⟨h.cs, h.pl, Int.ediv_nonneg h.held (by omega), h.x, h.k⟩, Int.emod_nonneg _ (by omega), Int.emod_lt_of_pos _ hs, ?_⟩
  rw [dcall_succ law.pg n 14 _ _ (fd := F_law_draw) rfl rfl]
  have h2 : (z.held == 0) = false := by simp; omega
  simp [-List.getD_eq_getElem?_getD, -List.map_take, -List.map_drop, -List.map_reverse, q_takeM, q_dropM, q_revM, refsAt, env0, rfOf, isRf, fillR, putR, nm, nmL, setMany, asnD, wipeE, backE, partOf, path, D.get, fldP, posK, lstAt, isLst, F_law_draw, Dice.d, h2, hp, b_mod hs, b_fdiv hs hs2]
theorem b_mul {i j : Int} (h : bigB i = true ∨ bigB j = true) : binD .mul (.at (.int i)) (.at (.int j)) = some (.at (.int (i * j))) := by
  show (if (bigB i || bigB j) = true then some (i * j) else none).map D.int = _
  rw [if_pos (by rcases h with h | h <;> rw [h] <;> simp)]; rfl
theorem bigB_of {i : Int} (h : 0 ≤ i) (h2 : i < 18446744073709551616) : bigB i = true := by
  unfold bigB
  rw [Bool.and_eq_true, decide_eq_true_eq, decide_eq_true_eq]
  constructor <;> omega
/-- all that is behind the first if -/
def tailD : List S := F_law_draw.body.drop 1
theorem draw_mix (n : Nat) (z : Dice) (h : z.Ok) (s : Int) (hs : 0 < s) (hs2 : s < 1073741824) (hp : z.held = 0) (o : Option D) : ∃ r z', Dice.Ok z' ∧ 0 ≤ r ∧ r < s ∧ ∃ ρ', exL (dcall law.pg n) [2, 3, 4] 1000 tailD [some z.d, some (.at (.int s)), o, none, none] = .rt (.at (.int r)) ρ' ∧ refsAt [true, false] ρ' = some [z'.d] := by
  have k1 : bigB 48271 = true := by decide
  have k2 : bigB 7919 = true := by decide
  have g1 : ∀ i : Int, binD .mod (.at (.int i)) (.at (.int 2147483647)) = some (.at (.int (i % 2147483647))) := fun i => b_mod (by decide)
  have g2 : ∀ i : Int, binD .mod (.at (.int i)) (.at (.int 2147483399)) = some (.at (.int (i % 2147483399))) := fun i => b_mod (by decide)
  have g3 : ∀ i : Int, binD .mod (.at (.int i)) (.at (.int 2147483563)) = some (.at (.int (i % 2147483563))) := fun i => b_mod (by decide)
  have g4 : ∀ i : Int, binD .fdiv (.at (.int i)) (.at (.int 1009)) = some (.at (.int (i / 1009))) := fun i => b_fdiv (by decide) (by decide)
  have g5 : ∀ i : Int, binD .fdiv (.at (.int i)) (.at (.int 2003)) = some (.at (.int (i / 2003))) := fun i => b_fdiv (by decide) (by decide)
  have g6 : ∀ i : Int, binD .fdiv (.at (.int i)) (.at (.int 16)) = some (.at (.int (i / 16))) := fun i => b_fdiv (by decide) (by decide)
  have m1 : ∀ i : Int, binD .mul (.at (.int i)) (.at (.int 48271)) = some (.at (.int (i * 48271))) := fun i => b_mul (.inr k1)
  have m2 : ∀ i : Int, binD .mul (.at (.int i)) (.at (.int 7919)) = some (.at (.int (i * 7919))) := fun i => b_mul (.inr k2)
  have m3 : ∀ i j m : Int, 0 < m → m ≤ 2147483647 → binD .mul (.at (.int (i % m))) (.at (.int j)) = some (.at (.int (i % m * j))) := fun i j m h1 h2 => b_mul (.inl (bigB_of (Int.emod_nonneg _ (by omega)) (by have := Int.emod_lt_of_pos i h1; omega)))
  have m4 : ∀ i j : Int, binD .mul (.at (.int (i % 2147483647))) (.at (.int j)) = some (.at (.int (i % 2147483647 * j))) := fun i j => m3 i j _ (by decide) (by decide)
  have m5 : ∀ i j : Int, binD .mul (.at (.int (i % 2147483399))) (.at (.int j)) = some (.at (.int (i % 2147483399 * j))) := fun i j => m3 i j _ (by decide) (by decide)
  let x := (z.x * 48271 + (z.k + 1) * 7919 + 1) % 2147483647
  let y := (x * (x / 1009 + 69623)) % 2147483399
  let y2 := (y * (y / 2003 + 40693)) % 2147483563
  refine ⟨y2 / 16 % s, { z with k := z.k + 1, x := x }, ⟨h.cs, h.pl, h.held, ⟨Int.emod_nonneg _ (by decide), Int.emod_lt_of_pos _ (by decide)⟩, by show 0 ≤ z.k + 1; have := h.k; omega⟩, Int.emod_nonneg _ (by omega), Int.emod_lt_of_pos _ hs, [some (Dice.d { z with k := z.k + 1, x := x }), some (.at (.int s)), o, none, some (.at (.int y2))], ?_, rfl⟩
  simp [-List.getD_eq_getElem?_getD, -List.map_take, -List.map_drop, -List.map_reverse, q_takeM, q_dropM, q_revM, refsAt, env0, rfOf, isRf, fillR, putR, nm, nmL, setMany, asnD, wipeE, backE, partOf, path, D.get, fldP, posK, lstAt, isLst, tailD, F_law_draw, Dice.d, hp, b_mod hs, g1, g2, g3, g4, g5, g6, m1, m2, m4, m5, x, y, y2]
theorem draw_none (n : Nat) (z : Dice) (h : z.Ok) (s : Int) (hs : 0 < s) (hs2 : s < 1073741824) (hp : z.held = 0) (hl : ¬ z.pl < z.cells.length) : ∃ r z', Dice.Ok z' ∧ 0 ≤ r ∧ r < s ∧ (dcall law.pg (n+1)).call 14 [true, false] [z.d, .at (.int s)] = .ok (.at (.int r)) [z'.d] := by
  obtain ⟨r, z', h1, h2, h3, ρ', h4, h5⟩ := draw_mix n z h s hs hs2 hp none
  refine ⟨r, z', h1, h2, h3, ?_⟩
  rw [dcall_succ law.pg n 14 _ _ (fd := F_law_draw) rfl rfl]
  have e : exL (dcall law.pg n) F_law_draw.A law.pg.fu F_law_draw.body (env0 F_law_draw.N.length [z.d, .at (.int s)]) = exL (dcall law.pg n) [2, 3, 4] 1000 tailD [some z.d, some (.at (.int s)), none, none, none] := by
    have e0 : F_law_draw.body = F_law_draw.body.head (by decide) :: tailD := id rfl
    rw [e0, s_cons]
    have e1 : exS (dcall law.pg n) F_law_draw.A law.pg.fu (F_law_draw.body.head (by decide)) (env0 F_law_draw.N.length [z.d, .at (.int s)]) = .nx [some z.d, some (.at (.int s)), none, none, none] := by
      simp [-List.getD_eq_getElem?_getD, -List.map_take, -List.map_drop, -List.map_reverse, q_takeM, q_dropM, q_revM, refsAt, env0, rfOf, isRf, fillR, putR, nm, nmL, setMany, asnD, wipeE, backE, partOf, path, D.get, fldP, posK, lstAt, isLst, F_law_draw, Dice.d, hp, b1D, hl]
    rw [e1, s_nx]
    rfl
  rw [e, h4, r_rt, h5, r_some]
theorem idx_lints {ns : List Int} {m : Bool} {k : Int} (h0 : 0 ≤ k) (h : k < ns.length) : idxD (.nd .lst m (ns.map D.int)) (.at (.int k)) = some (.at (.int (ns.getD k.toNat 0))) := by
  obtain ⟨j, rfl⟩ := Int.eq_ofNat_of_zero_le h0
  have h : j < ns.length := by omega
  rw [idx_lst (by rw [List.length_map]; exact h), List.getElem?_map, List.getElem?_eq_getElem h]
  simp [h]
theorem draw_cell (n : Nat) (z : Dice) (h : z.Ok) (hp : z.held = 0) (hl : z.pl < z.cells.length) : ∃ z' c, Dice.Ok z' ∧ exS (dcall law.pg n) [2, 3, 4] 1000 (F_law_draw.body.head (by decide)) = exS (dcall law.pg n) [2, 3, 4] 1000 (F_law_draw.body.head (by decide)) ∧ ∀ s : Int, exS (dcall law.pg n) [2, 3, 4] 1000 (F_law_draw.body.head (by decide)) [some z.d, some (.at (.int s)), none, none, none] = .nx [some z'.d, some (.at (.int s)), some (.at (.int c)), none, none] := by
  have i1 := idx_lints (m := true) h.pl hl
  have i2 : binD .pow (.at (.int 10)) (.at (.int 18)) = some (.at (.int 1000000000000000000)) := by rfl
  have k1 : bigB 69621 = true := by decide
  have k2 : bigB 40692 = true := by decide
  have m1 : ∀ i : Int, binD .mul (.at (.int i)) (.at (.int 69621)) = some (.at (.int (i * 69621))) := fun i => b_mul (.inr k1)
  have m2 : ∀ i : Int, binD .mul (.at (.int i)) (.at (.int 40692)) = some (.at (.int (i * 40692))) := fun i => b_mul (.inr k2)
  have g1 : ∀ i : Int, binD .mod (.at (.int i)) (.at (.int 2147483647)) = some (.at (.int (i % 2147483647))) := fun i => b_mod (by decide)
  have hpl : 0 ≤ z.pl + 1 := by have := h.pl; omega
  have hc : 0 ≤ z.cells.getD z.pl.toNat 0 := by
    have := h.pl
    have hj : z.pl.toNat < z.cells.length := by omega
    rw [List.getD_eq_getElem?_getD, List.getElem?_eq_getElem hj]
    exact h.cs _ (List.getElem_mem hj)
  generalize hcc : z.cells.getD z.pl.toNat 0 = c at i1 hc
  by_cases hb : (1000000000000000000 : Int) ≤ c
  · refine ⟨{ z with pl := z.pl + 1, held := c }, c, ⟨h.cs, hpl, hc, h.x, h.k⟩, rfl, fun s => ?_⟩
    simp [-List.getD_eq_getElem?_getD, -List.map_take, -List.map_drop, -List.map_reverse, q_takeM, q_dropM, q_revM, refsAt, env0, rfOf, isRf, fillR, putR, nm, nmL, setMany, asnD, wipeE, backE, partOf, path, D.get, fldP, posK, lstAt, isLst, F_law_draw, Dice.d, hp, b1D, hl, i1, i2, hb]
  · refine ⟨{ z with pl := z.pl + 1, x := (z.x * 69621 + c * 40692 + (z.pl + 1)) % 2147483647 }, c, ⟨h.cs, hpl, h.held, ⟨Int.emod_nonneg _ (by decide), Int.emod_lt_of_pos _ (by decide)⟩, h.k⟩, rfl, fun s => ?_⟩
    simp [-List.getD_eq_getElem?_getD, -List.map_take, -List.map_drop, -List.map_reverse, q_takeM, q_dropM, q_revM, refsAt, env0, rfOf, isRf, fillR, putR, nm, nmL, setMany, asnD, wipeE, backE, partOf, path, D.get, fldP, posK, lstAt, isLst, F_law_draw, Dice.d, hp, b1D, hl, i1, i2, hb, m1, m2, g1]
/-- a draw: a number below the sides, and the dice again -/
theorem draw_ok (n : Nat) (z : Dice) (h : z.Ok) (s : Int) (hs : 0 < s) (hs2 : s < 1073741824) : ∃ r z', Dice.Ok z' ∧ 0 ≤ r ∧ r < s ∧ (dcall law.pg (n+1)).call 14 [true, false] [z.d, .at (.int s)] = .ok (.at (.int r)) [z'.d] := by
  by_cases hp : 0 < z.held
  · exact draw_held n z h s hs hs2 hp
  have hp : z.held = 0 := by have := h.held; omega
  by_cases hl : z.pl < z.cells.length
  · obtain ⟨z1, c, h1, _, e1⟩ := draw_cell n z h hp hl
    have main : ∃ r z', Dice.Ok z' ∧ 0 ≤ r ∧ r < s ∧ ∃ ρ', exL (dcall law.pg n) [2, 3, 4] 1000 tailD [some z1.d, some (.at (.int s)), some (.at (.int c)), none, none] = .rt (.at (.int r)) ρ' ∧ refsAt [true, false] ρ' = some [z'.d] := by
      by_cases hq : 0 < z1.held
      · refine ⟨z1.held % s, { z1 with held := z1.held / s }, ⟨h1.cs, h1.pl, Int.ediv_nonneg h1.held (by omega), h1.x, h1.k⟩, Int.emod_nonneg _ (by omega), Int.emod_lt_of_pos _ hs, [some (Dice.d { z1 with held := z1.held / s }), some (.at (.int s)), some (.at (.int c)), none, none], ?_, rfl⟩
        simp [-List.getD_eq_getElem?_getD, -List.map_take, -List.map_drop, -List.map_reverse, q_takeM, q_dropM, q_revM, refsAt, env0, rfOf, isRf, fillR, putR, nm, nmL, setMany, asnD, wipeE, backE, partOf, path, D.get, fldP, posK, lstAt, isLst, tailD, F_law_draw, Dice.d, hq, b_mod hs, b_fdiv hs hs2]
      · exact draw_mix n z1 h1 s hs hs2 (by have := h1.held; omega) _
    obtain ⟨r, z', a1, a2, a3, ρ', a4, a5⟩ := main
    refine ⟨r, z', a1, a2, a3, ?_⟩
    rw [dcall_succ law.pg n 14 _ _ (fd := F_law_draw) rfl rfl]
    have e : exL (dcall law.pg n) F_law_draw.A law.pg.fu F_law_draw.body (env0 F_law_draw.N.length [z.d, .at (.int s)]) = exL (dcall law.pg n) [2, 3, 4] 1000 tailD [some z1.d, some (.at (.int s)), some (.at (.int c)), none, none] := by
      have e0 : F_law_draw.body = F_law_draw.body.head (by decide) :: tailD := id rfl
      rw [e0, s_cons]
      have e2 : exS (dcall law.pg n) F_law_draw.A law.pg.fu (F_law_draw.body.head (by decide)) (env0 F_law_draw.N.length [z.d, .at (.int s)]) = .nx [some z1.d, some (.at (.int s)), some (.at (.int c)), none, none] := e1 s
      rw [e2, s_nx]
      rfl
    rw [e, a4, r_rt, a5, r_some]
  · exact draw_none n z h s hs hs2 hp hl
theorem dice_ok (n : Nat) (ns : List Int) (hn : ns.length ≤ 63) : ∃ z, Dice.Ok z ∧ (dcall law.pg (n+1)).call 13 [false] [scrD ns] = .ok z.d [] := by
  have hz := PySem.sizeLine_eq
  have e0 : slcD (scrD ns) none (some 63) = some (D.lst true (ns.map D.int)) := by
    have : cutD (ns.map D.int) none (some 63) = ns.map D.int := by
      unfold cutD
      have e1 : HT.sIx (ns.map D.int).length 0 none = 0 := rfl
      have e2 : HT.sIx (ns.map D.int).length (ns.map D.int).length (some 63) = ns.length := by
        rw [show (some 63 : Option Int) = some ((63 : Nat) : Int) by rfl, HT.sIx_nat, List.length_map]
        omega
      rw [e1, e2, List.drop_zero, Nat.sub_zero]
      exact List.take_of_length_le (by rw [List.length_map]; exact Nat.le_refl _)
    show (if D.cleanL (ns.map D.int) = true then some (D.lst true (cutD (ns.map D.int) none (some 63))) else none) = _
    rw [cl_ints, if_pos rfl, this]
  let ab := fun i : Int => if i < 0 then -i else i
  have c1 : ∀ ρ, ρ = [some (scrD ns), none] → lcE [1] [1] true SK.seq (evP (dcall law.pg n) [E.slc (E.var 0) [] [E.cn (At.int 63)]]) (evC (dcall law.pg n) []) (ev (dcall law.pg n) false (E.b1 B1.abs (E.b1 B1.int (E.var 1)))) true ρ = .ok (D.lst true (ns.map fun i => .at (.int (ab i)))) ρ := by
    rintro ρ rfl
    refine lcE_mapI (ss := [.nd .lst false (ns.map D.int)]) ns D.int _ ?_ rfl (cl_ints ns) (fun i hi => ⟨_, rfl, [some (scrD ns), some (.at (.int i))], ?_⟩) (by omega)
    · simp [-List.getD_eq_getElem?_getD, -List.map_take, -List.map_drop, -List.map_reverse, q_takeM, q_dropM, q_revM, refsAt, env0, rfOf, isRf, fillR, putR, nm, nmL, setMany, asnD, wipeE, backE, partOf, path, D.get, fldP, posK, lstAt, isLst, partOf, e0, frz_nd, frz_int]
    · simp [-List.getD_eq_getElem?_getD, -List.map_take, -List.map_drop, -List.map_reverse, q_takeM, q_dropM, q_revM, refsAt, env0, rfOf, isRf, fillR, putR, nm, nmL, setMany, asnD, wipeE, backE, partOf, path, D.get, fldP, posK, lstAt, isLst, setMany, wipeE, b1D, ab]
  refine ⟨⟨ns.map ab, 0, 0, 1, 0⟩, ⟨fun c hc => ?_, Int.le_refl 0, Int.le_refl 0, ⟨by show (0:Int) ≤ 1; decide, by show (1:Int) < 2147483647; decide⟩, Int.le_refl 0⟩, ?_⟩
  · obtain ⟨i, _, rfl⟩ := List.mem_map.mp hc
    show 0 ≤ if i < 0 then -i else i
    split <;> omega
  · rw [dcall_succ law.pg n 13 _ _ (fd := F_law_dice) rfl rfl]
    simp [-List.getD_eq_getElem?_getD, -List.map_take, -List.map_drop, -List.map_reverse, q_takeM, q_dropM, q_revM, refsAt, env0, rfOf, isRf, fillR, putR, nm, nmL, setMany, asnD, wipeE, backE, partOf, path, D.get, fldP, posK, lstAt, isLst, F_law_dice, c1, Dice.d, lineB, hz, Function.comp_def]
/-- a draw, as a step -/
theorem w_draw {n : Nat} {z : Dice} (hz : z.Ok) {s : Int} {es : List E} {ρ : Env} {k : D → Env → Prop} {h : Exn → Env → Prop} (hs : 0 < s) (hs2 : s < 1073741824) (hl : (rfs es).length = 1)
    (hk : ∀ (r : Nat) (z' : Dice), z'.Ok → (r : Int) < s → k (dN r) (putR es [z'.d] ρ)) : W (callR es ρ ((dcall law.pg (n+1)).call 14 [true, false] [z.d, .at (.int s)])) k h := by
  obtain ⟨r, z', h1, h2, h3, e⟩ := draw_ok n z hz s hs hs2
  obtain ⟨m, rfl⟩ := Int.eq_ofNat_of_zero_le h2
  exact w_callR e hl.symm (hk m z' h1 h3)
end LW

set_option Elab.async false
set_option linter.all false
set_option maxRecDepth 100000
set_option maxHeartbeats 4000000
namespace LW
open Ev
def Site.d (s : Site) : D := .nd .tup false [dN s.desks, tM tN s.works]
theorem made_ok (n : Nat) (s : Site) (h : s.Ok) : (dcall law.pg (n+6)).call 16 [false] [s.d] = .ok s.offT [] := by
  rw [dcall_succ law.pg (n+5) 16 _ _ (fd := F_law_made) rfl rfl]
  refine cW_eq ?_
  have e : (dcall law.pg (n + 5)).init 0 = some 4 := rfl
  (simp [-List.getD_eq_getElem?_getD, -List.map_take, -List.map_drop, -List.map_reverse, q_takeM, q_dropM, q_revM, refsAt, env0, rfOf, isRf, fillR, putR, nm, nmL, setMany, asnD, wipeE, backE, partOf, path, D.get, fldP, posK, lstAt, isLst, F_law_made, Site.d, e, Office_init_ok n s h])
theorem offT_frz (s : Site) : s.offT.frz = s.off := by
  unfold Site.offT Site.off
  (simp [-List.getD_eq_getElem?_getD, -List.map_take, -List.map_drop, -List.map_reverse, q_takeM, q_dropM, q_revM, refsAt, env0, rfOf, isRf, fillR, putR, nm, nmL, setMany, asnD, wipeE, backE, partOf, path, D.get, fldP, posK, lstAt, isLst])
  have e : ∀ xs : List (List Nat), D.frzL (xs.map (oM dB ∘ fun l => List.map (fun m => s.meet l m) s.works)) = xs.map (lM dB ∘ fun l => List.map (fun m => s.meet l m) s.works) := by
    intro xs
    rw [frzL_map, List.map_map]
    refine List.map_congr_left fun l _ => ?_
    show (D.nd .lst true ((List.map (fun m => s.meet l m) s.works).map dB)).frz = D.nd .lst false ((List.map (fun m => s.meet l m) s.works).map dB)
    rw [q_frz, q_frzB]
  exact e _
def srt2 (a b : Nat) : List Nat := if a ≤ b then [a, b] else [b, a]
theorem Lot.one {b k : Nat} (h : k < b) : Lot b [k] ∧ ([k] : List Nat) ≠ [] := ⟨⟨by simp, by simpa using h⟩, by simp⟩
theorem Lot.srt2 {m a b : Nat} (h : a ≠ b) (ha : a < m) (hb : b < m) : Lot m (srt2 a b) ∧ LW.srt2 a b ≠ [] := by
  unfold LW.srt2
  by_cases hl : a ≤ b
  · rw [if_pos hl]
    exact ⟨⟨by simp; omega, by simp; omega⟩, by simp⟩
  · rw [if_neg hl]
    exact ⟨⟨by simp; omega, by simp; omega⟩, by simp⟩
/-- the lots so far -/
def PartI (most m : Nat) (ρ : Env) : Prop := ∃ (z : Dice) (ls : List (List Nat)) (k : Nat), z.Ok ∧ ls.length ≤ 6 ∧ (∀ l ∈ ls, Lot m l ∧ l ≠ []) ∧ ρ = [some z.d, some (dN most), some (dN m), some (dN k), some (oM tN ls), none, none, none]
theorem parts_ok (n : Nat) (z : Dice) (hz : z.Ok) (most : Nat) (h1 : 1 ≤ most) (h6 : most ≤ 6) : cW ((dcall law.pg (n+2)).call 15 [true, false] [z.d, dN most]) fun d rs => ∃ (s : Site) (z' : Dice), s.Ok ∧ s.desks ≤ most ∧ z'.Ok ∧ d = s.d ∧ rs = [z'.d] := by
  rw [dcall_succ law.pg (n+1) 15 _ _ (fd := F_law_parts) rfl rfl]
  refine sX_ret ?_
  refine x_cut 1 (fun ρ => ∃ (z : Dice) (m : Nat), z.Ok ∧ 1 ≤ m ∧ m ≤ most ∧ ρ = [some z.d, some (dN most), some (dN m), none, none, none, none, none]) ?_ ?_
  · (simp [-List.getD_eq_getElem?_getD, -List.map_take, -List.map_drop, -List.map_reverse, q_takeM, q_dropM, q_revM, refsAt, env0, rfOf, isRf, fillR, putR, nm, nmL, setMany, asnD, wipeE, backE, partOf, path, D.get, fldP, posK, lstAt, isLst, F_law_parts])
    refine w_draw hz ?_ ?_ ?_ (fun r z1 hz1 hr => ?_)
    · first | (have hz' := PySem.sizeLine_eq; omega) | (have hz' := PySem.sizeLine_eq; simp; omega)
    · first | (have hz' := PySem.sizeLine_eq; omega) | (have hz' := PySem.sizeLine_eq; simp; omega)
    · rfl
    (simp [-List.getD_eq_getElem?_getD, -List.map_take, -List.map_drop, -List.map_reverse, q_takeM, q_dropM, q_revM, refsAt, env0, rfOf, isRf, fillR, putR, nm, nmL, setMany, asnD, wipeE, backE, partOf, path, D.get, fldP, posK, lstAt, isLst])
    exact ⟨z1, hz1, 1 + r, by omega, by omega, rfl, rfl⟩
  rintro ρ ⟨z1, m, hz1, hm1, hm2, rfl⟩
  refine x_cut 5 (PartI most m) ?_ ?_
  · (simp [-List.getD_eq_getElem?_getD, -List.map_take, -List.map_drop, -List.map_reverse, q_takeM, q_dropM, q_revM, refsAt, env0, rfOf, isRf, fillR, putR, nm, nmL, setMany, asnD, wipeE, backE, partOf, path, D.get, fldP, posK, lstAt, isLst, F_law_parts])
    refine w_draw hz1 ?_ ?_ ?_ (fun r z2 hz2 hr => ?_)
    · first | (have hz' := PySem.sizeLine_eq; omega) | (have hz' := PySem.sizeLine_eq; simp; omega)
    · first | (have hz' := PySem.sizeLine_eq; omega) | (have hz' := PySem.sizeLine_eq; simp; omega)
    · rfl
    (simp [-List.getD_eq_getElem?_getD, -List.map_take, -List.map_drop, -List.map_reverse, q_takeM, q_dropM, q_revM, refsAt, env0, rfOf, isRf, fillR, putR, nm, nmL, setMany, asnD, wipeE, backE, partOf, path, D.get, fldP, posK, lstAt, isLst])
    have hr4 : r = 0 ∨ r = 1 ∨ r = 2 ∨ r = 3 := by omega
    rcases hr4 with rfl | rfl | rfl | rfl
    · (simp [-List.getD_eq_getElem?_getD, -List.map_take, -List.map_drop, -List.map_reverse, q_takeM, q_dropM, q_revM, refsAt, env0, rfOf, isRf, fillR, putR, nm, nmL, setMany, asnD, wipeE, backE, partOf, path, D.get, fldP, posK, lstAt, isLst])
      exact ⟨z2, [], 0, hz2, by simp, by simp, rfl⟩
    · by_cases hm : (2 : Int) < m
      · (simp [-List.getD_eq_getElem?_getD, -List.map_take, -List.map_drop, -List.map_reverse, q_takeM, q_dropM, q_revM, refsAt, env0, rfOf, isRf, fillR, putR, nm, nmL, setMany, asnD, wipeE, backE, partOf, path, D.get, fldP, posK, lstAt, isLst, hm])
        refine w_lcM (List.range m) (dN) (fun d => tN (srt2 d ((d + 1) % m))) (by first | with_reducible rfl | ((simp [-List.getD_eq_getElem?_getD, -List.map_take, -List.map_drop, -List.map_reverse, q_takeM, q_dropM, q_revM, refsAt, env0, rfOf, isRf, fillR, putR, nm, nmL, setMany, asnD, wipeE, backE, partOf, path, D.get, fldP, posK, lstAt, isLst]); done) | ((try (simp [-List.getD_eq_getElem?_getD, -List.map_take, -List.map_drop, -List.map_reverse, q_takeM, q_dropM, q_revM, refsAt, env0, rfOf, isRf, fillR, putR, nm, nmL, setMany, asnD, wipeE, backE, partOf, path, D.get, fldP, posK, lstAt, isLst])); first | with_reducible exact it_rng (by omega) | with_reducible exact it_rng1 (by omega) | with_reducible exact it_rng2 (by omega) (by omega) | with_reducible exact it_rngS (by simp <;> omega) (by omega) | with_reducible exact it_rng2S (by simp <;> omega) (by simp <;> omega) (by omega) (by omega) | with_reducible exact it_zipT _ _ _ _ (by (simp [-List.getD_eq_getElem?_getD, -List.map_take, -List.map_drop, -List.map_reverse, q_takeM, q_dropM, q_revM, refsAt, env0, rfOf, isRf, fillR, putR, nm, nmL, setMany, asnD, wipeE, backE, partOf, path, D.get, fldP, posK, lstAt, isLst])))) (by (simp [-List.getD_eq_getElem?_getD, -List.map_take, -List.map_drop, -List.map_reverse, q_takeM, q_dropM, q_revM, refsAt, env0, rfOf, isRf, fillR, putR, nm, nmL, setMany, asnD, wipeE, backE, partOf, path, D.get, fldP, posK, lstAt, isLst])) (by first | (have hz' := PySem.sizeLine_eq; omega) | (have hz' := PySem.sizeLine_eq; simp; omega)) (fun q hq => ?_) ?_
        · have hq' : q < m := List.mem_range.mp hq
          have e1 : binD .mod (.at (.int ((q : Int) + 1))) (.at (.int m)) = some (dN ((q + 1) % m)) := q_modN (a := q + 1) (by omega)
          (simp [-List.getD_eq_getElem?_getD, -List.map_take, -List.map_drop, -List.map_reverse, q_takeM, q_dropM, q_revM, refsAt, env0, rfOf, isRf, fillR, putR, nm, nmL, setMany, asnD, wipeE, backE, partOf, path, D.get, fldP, posK, lstAt, isLst, e1])
          have ec : ((q : Int) + 1) % (m : Int) = (((q + 1) % m : Nat) : Int) := by rw [Int.natCast_emod]; rfl
          try rw [ec]
          unfold srt2
          by_cases hl : q ≤ (q + 1) % m
          · rw [if_pos hl, if_pos (by omega)]
            (simp [-List.getD_eq_getElem?_getD, -List.map_take, -List.map_drop, -List.map_reverse, q_takeM, q_dropM, q_revM, refsAt, env0, rfOf, isRf, fillR, putR, nm, nmL, setMany, asnD, wipeE, backE, partOf, path, D.get, fldP, posK, lstAt, isLst])
          · rw [if_neg hl, if_neg (by omega)]
            (simp [-List.getD_eq_getElem?_getD, -List.map_take, -List.map_drop, -List.map_reverse, q_takeM, q_dropM, q_revM, refsAt, env0, rfOf, isRf, fillR, putR, nm, nmL, setMany, asnD, wipeE, backE, partOf, path, D.get, fldP, posK, lstAt, isLst])
        (simp [-List.getD_eq_getElem?_getD, -List.map_take, -List.map_drop, -List.map_reverse, q_takeM, q_dropM, q_revM, refsAt, env0, rfOf, isRf, fillR, putR, nm, nmL, setMany, asnD, wipeE, backE, partOf, path, D.get, fldP, posK, lstAt, isLst])
        refine ⟨z2, (List.range m).map fun d => srt2 d ((d + 1) % m), 1, hz2, by simp; omega, ?_, by simp⟩
        intro l hl
        obtain ⟨d, hd, rfl⟩ := List.mem_map.mp hl
        have hd := List.mem_range.mp hd
        refine Lot.srt2 ?_ hd (Nat.mod_lt _ (by omega))
        by_cases hd2 : d + 1 < m
        · rw [Nat.mod_eq_of_lt hd2]; omega
        · have : d + 1 = m := by omega
          rw [this, Nat.mod_self]; omega
      · (simp [-List.getD_eq_getElem?_getD, -List.map_take, -List.map_drop, -List.map_reverse, q_takeM, q_dropM, q_revM, refsAt, env0, rfOf, isRf, fillR, putR, nm, nmL, setMany, asnD, wipeE, backE, partOf, path, D.get, fldP, posK, lstAt, isLst, hm])
        exact ⟨z2, [], 1, hz2, by simp, by simp, rfl⟩
    · (simp [-List.getD_eq_getElem?_getD, -List.map_take, -List.map_drop, -List.map_reverse, q_takeM, q_dropM, q_revM, refsAt, env0, rfOf, isRf, fillR, putR, nm, nmL, setMany, asnD, wipeE, backE, partOf, path, D.get, fldP, posK, lstAt, isLst])
      refine w_lcM (List.range m) (dN) (fun d => tN [d]) (by first | with_reducible rfl | ((simp [-List.getD_eq_getElem?_getD, -List.map_take, -List.map_drop, -List.map_reverse, q_takeM, q_dropM, q_revM, refsAt, env0, rfOf, isRf, fillR, putR, nm, nmL, setMany, asnD, wipeE, backE, partOf, path, D.get, fldP, posK, lstAt, isLst]); done) | ((try (simp [-List.getD_eq_getElem?_getD, -List.map_take, -List.map_drop, -List.map_reverse, q_takeM, q_dropM, q_revM, refsAt, env0, rfOf, isRf, fillR, putR, nm, nmL, setMany, asnD, wipeE, backE, partOf, path, D.get, fldP, posK, lstAt, isLst])); first | with_reducible exact it_rng (by omega) | with_reducible exact it_rng1 (by omega) | with_reducible exact it_rng2 (by omega) (by omega) | with_reducible exact it_rngS (by simp <;> omega) (by omega) | with_reducible exact it_rng2S (by simp <;> omega) (by simp <;> omega) (by omega) (by omega) | with_reducible exact it_zipT _ _ _ _ (by (simp [-List.getD_eq_getElem?_getD, -List.map_take, -List.map_drop, -List.map_reverse, q_takeM, q_dropM, q_revM, refsAt, env0, rfOf, isRf, fillR, putR, nm, nmL, setMany, asnD, wipeE, backE, partOf, path, D.get, fldP, posK, lstAt, isLst])))) (by (simp [-List.getD_eq_getElem?_getD, -List.map_take, -List.map_drop, -List.map_reverse, q_takeM, q_dropM, q_revM, refsAt, env0, rfOf, isRf, fillR, putR, nm, nmL, setMany, asnD, wipeE, backE, partOf, path, D.get, fldP, posK, lstAt, isLst])) (by first | (have hz' := PySem.sizeLine_eq; omega) | (have hz' := PySem.sizeLine_eq; simp; omega)) (fun q hq => ?_) ?_
      · (simp [-List.getD_eq_getElem?_getD, -List.map_take, -List.map_drop, -List.map_reverse, q_takeM, q_dropM, q_revM, refsAt, env0, rfOf, isRf, fillR, putR, nm, nmL, setMany, asnD, wipeE, backE, partOf, path, D.get, fldP, posK, lstAt, isLst])
      (simp [-List.getD_eq_getElem?_getD, -List.map_take, -List.map_drop, -List.map_reverse, q_takeM, q_dropM, q_revM, refsAt, env0, rfOf, isRf, fillR, putR, nm, nmL, setMany, asnD, wipeE, backE, partOf, path, D.get, fldP, posK, lstAt, isLst])
      refine ⟨z2, (List.range m).map fun d => [d], 2, hz2, by simp; omega, ?_, by simp⟩
      intro l hl
      obtain ⟨d, hd, rfl⟩ := List.mem_map.mp hl
      exact Lot.one (List.mem_range.mp hd)
    · by_cases hm : (1 : Int) < m
      · (simp [-List.getD_eq_getElem?_getD, -List.map_take, -List.map_drop, -List.map_reverse, q_takeM, q_dropM, q_revM, refsAt, env0, rfOf, isRf, fillR, putR, nm, nmL, setMany, asnD, wipeE, backE, partOf, path, D.get, fldP, posK, lstAt, isLst, hm])
        refine w_lcM (List.range' 1 (m - 1)) (dN) (fun d => tN [0, d]) (by first | with_reducible rfl | ((simp [-List.getD_eq_getElem?_getD, -List.map_take, -List.map_drop, -List.map_reverse, q_takeM, q_dropM, q_revM, refsAt, env0, rfOf, isRf, fillR, putR, nm, nmL, setMany, asnD, wipeE, backE, partOf, path, D.get, fldP, posK, lstAt, isLst]); done) | ((try (simp [-List.getD_eq_getElem?_getD, -List.map_take, -List.map_drop, -List.map_reverse, q_takeM, q_dropM, q_revM, refsAt, env0, rfOf, isRf, fillR, putR, nm, nmL, setMany, asnD, wipeE, backE, partOf, path, D.get, fldP, posK, lstAt, isLst])); first | with_reducible exact it_rng (by omega) | with_reducible exact it_rng1 (by omega) | with_reducible exact it_rng2 (by omega) (by omega) | with_reducible exact it_rngS (by simp <;> omega) (by omega) | with_reducible exact it_rng2S (by simp <;> omega) (by simp <;> omega) (by omega) (by omega) | with_reducible exact it_zipT _ _ _ _ (by (simp [-List.getD_eq_getElem?_getD, -List.map_take, -List.map_drop, -List.map_reverse, q_takeM, q_dropM, q_revM, refsAt, env0, rfOf, isRf, fillR, putR, nm, nmL, setMany, asnD, wipeE, backE, partOf, path, D.get, fldP, posK, lstAt, isLst])))) (by (simp [-List.getD_eq_getElem?_getD, -List.map_take, -List.map_drop, -List.map_reverse, q_takeM, q_dropM, q_revM, refsAt, env0, rfOf, isRf, fillR, putR, nm, nmL, setMany, asnD, wipeE, backE, partOf, path, D.get, fldP, posK, lstAt, isLst])) (by first | (have hz' := PySem.sizeLine_eq; omega) | (have hz' := PySem.sizeLine_eq; simp; omega)) (fun q hq => ?_) ?_
        · (simp [-List.getD_eq_getElem?_getD, -List.map_take, -List.map_drop, -List.map_reverse, q_takeM, q_dropM, q_revM, refsAt, env0, rfOf, isRf, fillR, putR, nm, nmL, setMany, asnD, wipeE, backE, partOf, path, D.get, fldP, posK, lstAt, isLst])
        (simp [-List.getD_eq_getElem?_getD, -List.map_take, -List.map_drop, -List.map_reverse, q_takeM, q_dropM, q_revM, refsAt, env0, rfOf, isRf, fillR, putR, nm, nmL, setMany, asnD, wipeE, backE, partOf, path, D.get, fldP, posK, lstAt, isLst])
        refine ⟨z2, (List.range' 1 (m - 1)).map fun d => [0, d], 3, hz2, by simp; omega, ?_, by simp⟩
        intro l hl
        obtain ⟨d, hd, rfl⟩ := List.mem_map.mp hl
        obtain ⟨g1, g2⟩ := List.mem_range'_1.mp hd
        exact ⟨⟨by simp; omega, by simp; omega⟩, by simp⟩
      · (simp [-List.getD_eq_getElem?_getD, -List.map_take, -List.map_drop, -List.map_reverse, q_takeM, q_dropM, q_revM, refsAt, env0, rfOf, isRf, fillR, putR, nm, nmL, setMany, asnD, wipeE, backE, partOf, path, D.get, fldP, posK, lstAt, isLst, hm])
        exact ⟨z2, [], 3, hz2, by simp, by simp, rfl⟩
  rintro ρ ⟨z3, ls, k, hz3, hl6, hls, rfl⟩
  (simp [-List.getD_eq_getElem?_getD, -List.map_take, -List.map_drop, -List.map_reverse, q_takeM, q_dropM, q_revM, refsAt, env0, rfOf, isRf, fillR, putR, nm, nmL, setMany, asnD, wipeE, backE, partOf, path, D.get, fldP, posK, lstAt, isLst, F_law_parts])
  refine w_draw hz3 ?_ ?_ ?_ (fun r z4 hz4 hr => ?_)
  · first | (have hz' := PySem.sizeLine_eq; omega) | (have hz' := PySem.sizeLine_eq; simp; omega)
  · first | (have hz' := PySem.sizeLine_eq; omega) | (have hz' := PySem.sizeLine_eq; simp; omega)
  · rfl
  (simp [-List.getD_eq_getElem?_getD, -List.map_take, -List.map_drop, -List.map_reverse, q_takeM, q_dropM, q_revM, refsAt, env0, rfOf, isRf, fillR, putR, nm, nmL, setMany, asnD, wipeE, backE, partOf, path, D.get, fldP, posK, lstAt, isLst])
  refine x_for (List.range (1 + r)) (dN) (fun ds ρ => ∃ (z : Dice) (ls2 : List (List Nat)) (o6 o7 : Option D), z.Ok ∧ ls2.length = ls.length + ds.length ∧ (∀ l ∈ ls2, Lot m l ∧ l ≠ []) ∧ ρ = [some z.d, some (dN most), some (dN m), some (dN k), some (oM tN ls2), none, o6, o7]) (by first | with_reducible rfl | ((simp [-List.getD_eq_getElem?_getD, -List.map_take, -List.map_drop, -List.map_reverse, q_takeM, q_dropM, q_revM, refsAt, env0, rfOf, isRf, fillR, putR, nm, nmL, setMany, asnD, wipeE, backE, partOf, path, D.get, fldP, posK, lstAt, isLst]); done) | ((try (simp [-List.getD_eq_getElem?_getD, -List.map_take, -List.map_drop, -List.map_reverse, q_takeM, q_dropM, q_revM, refsAt, env0, rfOf, isRf, fillR, putR, nm, nmL, setMany, asnD, wipeE, backE, partOf, path, D.get, fldP, posK, lstAt, isLst])); first | with_reducible exact it_rng (by omega) | with_reducible exact it_rng1 (by omega) | with_reducible exact it_rng2 (by omega) (by omega) | with_reducible exact it_rngS (by simp <;> omega) (by omega) | with_reducible exact it_rng2S (by simp <;> omega) (by simp <;> omega) (by omega) (by omega) | with_reducible exact it_zipT _ _ _ _ (by (simp [-List.getD_eq_getElem?_getD, -List.map_take, -List.map_drop, -List.map_reverse, q_takeM, q_dropM, q_revM, refsAt, env0, rfOf, isRf, fillR, putR, nm, nmL, setMany, asnD, wipeE, backE, partOf, path, D.get, fldP, posK, lstAt, isLst])))) (by (simp [-List.getD_eq_getElem?_getD, -List.map_take, -List.map_drop, -List.map_reverse, q_takeM, q_dropM, q_revM, refsAt, env0, rfOf, isRf, fillR, putR, nm, nmL, setMany, asnD, wipeE, backE, partOf, path, D.get, fldP, posK, lstAt, isLst])) (by (simp [-List.getD_eq_getElem?_getD, -List.map_take, -List.map_drop, -List.map_reverse, q_takeM, q_dropM, q_revM, refsAt, env0, rfOf, isRf, fillR, putR, nm, nmL, setMany, asnD, wipeE, backE, partOf, path, D.get, fldP, posK, lstAt, isLst])) rfl ?_ (fun ds y rs hs ρ0 hI => ?_) (fun ρ0 hI => ?_)
  · exact ⟨z4, ls, none, none, hz4, rfl, hls, rfl⟩
  · obtain ⟨z5, ls2, o6, o7, hz5, hl2, hls2, rfl⟩ := hI
    (simp [-List.getD_eq_getElem?_getD, -List.map_take, -List.map_drop, -List.map_reverse, q_takeM, q_dropM, q_revM, refsAt, env0, rfOf, isRf, fillR, putR, nm, nmL, setMany, asnD, wipeE, backE, partOf, path, D.get, fldP, posK, lstAt, isLst])
    refine w_lcI (List.range m) (dN) (fun ρ => ∃ (z : Dice), z.Ok ∧ ρ = [some z.d, some (dN most), some (dN m), some (dN k), some (oM tN ls2), none, some (dN y), o7]) (fun a d => d = dN a) rfl (by first | with_reducible rfl | ((simp [-List.getD_eq_getElem?_getD, -List.map_take, -List.map_drop, -List.map_reverse, q_takeM, q_dropM, q_revM, refsAt, env0, rfOf, isRf, fillR, putR, nm, nmL, setMany, asnD, wipeE, backE, partOf, path, D.get, fldP, posK, lstAt, isLst]); done) | ((try (simp [-List.getD_eq_getElem?_getD, -List.map_take, -List.map_drop, -List.map_reverse, q_takeM, q_dropM, q_revM, refsAt, env0, rfOf, isRf, fillR, putR, nm, nmL, setMany, asnD, wipeE, backE, partOf, path, D.get, fldP, posK, lstAt, isLst])); first | with_reducible exact it_rng (by omega) | with_reducible exact it_rng1 (by omega) | with_reducible exact it_rng2 (by omega) (by omega) | with_reducible exact it_rngS (by simp <;> omega) (by omega) | with_reducible exact it_rng2S (by simp <;> omega) (by simp <;> omega) (by omega) (by omega) | with_reducible exact it_zipT _ _ _ _ (by (simp [-List.getD_eq_getElem?_getD, -List.map_take, -List.map_drop, -List.map_reverse, q_takeM, q_dropM, q_revM, refsAt, env0, rfOf, isRf, fillR, putR, nm, nmL, setMany, asnD, wipeE, backE, partOf, path, D.get, fldP, posK, lstAt, isLst])))) (by (simp [-List.getD_eq_getElem?_getD, -List.map_take, -List.map_drop, -List.map_reverse, q_takeM, q_dropM, q_revM, refsAt, env0, rfOf, isRf, fillR, putR, nm, nmL, setMany, asnD, wipeE, backE, partOf, path, D.get, fldP, posK, lstAt, isLst])) (by (simp [-List.getD_eq_getElem?_getD, -List.map_take, -List.map_drop, -List.map_reverse, q_takeM, q_dropM, q_revM, refsAt, env0, rfOf, isRf, fillR, putR, nm, nmL, setMany, asnD, wipeE, backE, partOf, path, D.get, fldP, posK, lstAt, isLst])) (by first | (have hz' := PySem.sizeLine_eq; omega) | (have hz' := PySem.sizeLine_eq; simp; omega)) ?_ (fun q hq ρ0 hI => ?_) (fun qs ds ρ0 hsub hall hI => ?_)
    · exact ⟨z5, hz5, rfl⟩
    · obtain ⟨z6, hz6, rfl⟩ := hI
      (simp [-List.getD_eq_getElem?_getD, -List.map_take, -List.map_drop, -List.map_reverse, q_takeM, q_dropM, q_revM, refsAt, env0, rfOf, isRf, fillR, putR, nm, nmL, setMany, asnD, wipeE, backE, partOf, path, D.get, fldP, posK, lstAt, isLst])
      refine w_draw hz6 ?_ ?_ ?_ (fun r2 z7 hz7 hr2 => ?_)
      · first | (have hz' := PySem.sizeLine_eq; omega) | (have hz' := PySem.sizeLine_eq; simp; omega)
      · first | (have hz' := PySem.sizeLine_eq; omega) | (have hz' := PySem.sizeLine_eq; simp; omega)
      · rfl
      (simp [-List.getD_eq_getElem?_getD, -List.map_take, -List.map_drop, -List.map_reverse, q_takeM, q_dropM, q_revM, refsAt, env0, rfOf, isRf, fillR, putR, nm, nmL, setMany, asnD, wipeE, backE, partOf, path, D.get, fldP, posK, lstAt, isLst])
      exact ⟨z7, hz7, rfl⟩
    · obtain ⟨z6, hz6, rfl⟩ := hI
      have ed := hall.map_eq (g := dN) fun _ _ h => h
      subst ed
      have hlot : Lot m qs := ⟨List.Pairwise.sublist hsub List.pairwise_lt_range, fun x hx => List.mem_range.mp (hsub.mem hx)⟩
      have hlen2 : ls2.length < PySem.sizeLine := by
        have := congrArg List.length hs
        simp at this
        exact lineQ_of (by omega)
      (simp [-List.getD_eq_getElem?_getD, -List.map_take, -List.map_drop, -List.map_reverse, q_takeM, q_dropM, q_revM, refsAt, env0, rfOf, isRf, fillR, putR, nm, nmL, setMany, asnD, wipeE, backE, partOf, path, D.get, fldP, posK, lstAt, isLst])
      refine w_if (fun hc => ?_) (fun hc => ?_)
      · have hne : qs ≠ [] := by intro e; subst e; simp at hc
        (simp [-List.getD_eq_getElem?_getD, -List.map_take, -List.map_drop, -List.map_reverse, q_takeM, q_dropM, q_revM, refsAt, env0, rfOf, isRf, fillR, putR, nm, nmL, setMany, asnD, wipeE, backE, partOf, path, D.get, fldP, posK, lstAt, isLst, b_app, hlen2])
        refine ⟨z6, hz6, ls2 ++ [qs], by simp [hl2]; omega, ?_, by simp⟩
        intro l hl
        rcases List.mem_append.mp hl with hl | hl
        · exact hls2 l hl
        · rw [List.mem_singleton.mp hl]; exact ⟨hlot, hne⟩
      · (simp [-List.getD_eq_getElem?_getD, -List.map_take, -List.map_drop, -List.map_reverse, q_takeM, q_dropM, q_revM, refsAt, env0, rfOf, isRf, fillR, putR, nm, nmL, setMany, asnD, wipeE, backE, partOf, path, D.get, fldP, posK, lstAt, isLst])
        refine w_draw hz6 ?_ ?_ ?_ (fun r2 z7 hz7 hr2 => ?_)
        · first | (have hz' := PySem.sizeLine_eq; omega) | (have hz' := PySem.sizeLine_eq; simp; omega)
        · first | (have hz' := PySem.sizeLine_eq; omega) | (have hz' := PySem.sizeLine_eq; simp; omega)
        · rfl
        (simp [-List.getD_eq_getElem?_getD, -List.map_take, -List.map_drop, -List.map_reverse, q_takeM, q_dropM, q_revM, refsAt, env0, rfOf, isRf, fillR, putR, nm, nmL, setMany, asnD, wipeE, backE, partOf, path, D.get, fldP, posK, lstAt, isLst, b_app, hlen2])
        refine ⟨z7, hz7, ls2 ++ [[r2]], by simp [hl2]; omega, ?_, by simp⟩
        intro l hl
        rcases List.mem_append.mp hl with hl | hl
        · exact hls2 l hl
        · rw [List.mem_singleton.mp hl]; exact Lot.one (by omega)
  · obtain ⟨z5, ls2, o6, o7, hz5, hl2, hls2, rfl⟩ := hI
    have hl3 : ls2.length = ls.length + (1 + r) := by rw [hl2, List.length_range]
    (simp [-List.getD_eq_getElem?_getD, -List.map_take, -List.map_drop, -List.map_reverse, q_takeM, q_dropM, q_revM, refsAt, env0, rfOf, isRf, fillR, putR, nm, nmL, setMany, asnD, wipeE, backE, partOf, path, D.get, fldP, posK, lstAt, isLst, q_cutTo])
    refine ⟨⟨m, ls2.take 10⟩, ⟨hm1, by show m ≤ 6; omega, by simp; omega, by simp; omega, fun l hl => hls2 l (List.mem_of_mem_take hl)⟩, hm2, z5, hz5, ?_, rfl⟩
    (simp [-List.getD_eq_getElem?_getD, -List.map_take, -List.map_drop, -List.map_reverse, q_takeM, q_dropM, q_revM, refsAt, env0, rfOf, isRf, fillR, putR, nm, nmL, setMany, asnD, wipeE, backE, partOf, path, D.get, fldP, posK, lstAt, isLst, Site.d])
end LW

set_option Elab.async false
set_option linter.all false
set_option maxRecDepth 100000
set_option maxHeartbeats 4000000
namespace LW
open Ev
def Site.at (s : Site) (w : Nat) : List Nat := s.works.getD w []
theorem Site.at_get {s : Site} {w : Nat} (h : w < s.works.length) : s.works[w] = s.at w := by
  unfold Site.at
  rw [List.getD_eq_getElem?_getD, List.getElem?_eq_getElem h]; rfl
theorem idx_works {s : Site} {w : Nat} (h : w < s.works.length) : idxD (tM tN s.works) (.at (.int w)) = some (tN (s.at w)) := by
  rw [← Site.at_get h]; exact idx_mapT h
theorem cl_off (s : Site) : s.off.clean = true := by
  rw [← offT_frz]; exact frz_clean _
theorem fr_off (s : Site) : s.off.frz = s.off := frz_of_clean _ (cl_off s)
theorem fld_works (s : Site) : fldD 1 s.off = some (tM tN s.works) := rfl
theorem fld_desks (s : Site) : fldD 0 s.off = some (dN s.desks) := rfl
def RowOk (s : Site) (r : List Nat) : Prop := (∀ w ∈ r, w < s.works.length) ∧ r.length ≤ 1000
theorem is_work_ok (n : Nat) (s : Site) (h : s.Ok) (w : Nat) (hw : w < s.works.length) : (dcall law.pg (n+3)).call 5 [false, false] [s.off, dN w] = .ok (dB true) [] := by
  rw [dcall_succ law.pg (n+2) 5 _ _ (fd := F_is_work) rfl rfl]
  refine cW_eq ?_
  (simp [-List.getD_eq_getElem?_getD, -List.map_take, -List.map_drop, -List.map_reverse, q_takeM, q_dropM, q_revM, refsAt, env0, rfOf, isRf, fillR, putR, nm, nmL, setMany, asnD, wipeE, backE, partOf, path, D.get, fldP, posK, lstAt, isLst, F_is_work, cl_off, fr_off, fld_works, is_within_ok])
  omega
theorem is_row_of_ok (n : Nat) (s : Site) (h : s.Ok) (r : List Nat) (hr : RowOk s r) : (dcall law.pg (n+4)).call 7 [false, false] [s.off, tN r] = .ok (dB true) [] := by
  rw [dcall_succ law.pg (n+3) 7 _ _ (fd := F_is_row_of) rfl rfl]
  refine cW_eq ?_
  have := hr.2
  (simp [-List.getD_eq_getElem?_getD, -List.map_take, -List.map_drop, -List.map_reverse, q_takeM, q_dropM, q_revM, refsAt, env0, rfOf, isRf, fillR, putR, nm, nmL, setMany, asnD, wipeE, backE, partOf, path, D.get, fldP, posK, lstAt, isLst, F_is_row_of])
  refine w_lcM (r) (dN) (fun _ => D.bl true) (by first | with_reducible rfl | ((simp [-List.getD_eq_getElem?_getD, -List.map_take, -List.map_drop, -List.map_reverse, q_takeM, q_dropM, q_revM, refsAt, env0, rfOf, isRf, fillR, putR, nm, nmL, setMany, asnD, wipeE, backE, partOf, path, D.get, fldP, posK, lstAt, isLst]); done) | ((try (simp [-List.getD_eq_getElem?_getD, -List.map_take, -List.map_drop, -List.map_reverse, q_takeM, q_dropM, q_revM, refsAt, env0, rfOf, isRf, fillR, putR, nm, nmL, setMany, asnD, wipeE, backE, partOf, path, D.get, fldP, posK, lstAt, isLst])); first | with_reducible exact it_rng (by omega) | with_reducible exact it_rng1 (by omega) | with_reducible exact it_rng2 (by omega) (by omega) | with_reducible exact it_rngS (by simp <;> omega) (by omega) | with_reducible exact it_rng2S (by simp <;> omega) (by simp <;> omega) (by omega) (by omega) | with_reducible exact it_zipT _ _ _ _ (by (simp [-List.getD_eq_getElem?_getD, -List.map_take, -List.map_drop, -List.map_reverse, q_takeM, q_dropM, q_revM, refsAt, env0, rfOf, isRf, fillR, putR, nm, nmL, setMany, asnD, wipeE, backE, partOf, path, D.get, fldP, posK, lstAt, isLst])))) (by (simp [-List.getD_eq_getElem?_getD, -List.map_take, -List.map_drop, -List.map_reverse, q_takeM, q_dropM, q_revM, refsAt, env0, rfOf, isRf, fillR, putR, nm, nmL, setMany, asnD, wipeE, backE, partOf, path, D.get, fldP, posK, lstAt, isLst])) (by first | (have hz' := PySem.sizeLine_eq; omega) | (have hz' := PySem.sizeLine_eq; simp; omega)) (fun q hq => ?_) ?_
  · (simp [-List.getD_eq_getElem?_getD, -List.map_take, -List.map_drop, -List.map_reverse, q_takeM, q_dropM, q_revM, refsAt, env0, rfOf, isRf, fillR, putR, nm, nmL, setMany, asnD, wipeE, backE, partOf, path, D.get, fldP, posK, lstAt, isLst, cl_off, fr_off, is_work_ok n s h q (hr.1 q hq)])
  (simp [-List.getD_eq_getElem?_getD, -List.map_take, -List.map_drop, -List.map_reverse, q_takeM, q_dropM, q_revM, refsAt, env0, rfOf, isRf, fillR, putR, nm, nmL, setMany, asnD, wipeE, backE, partOf, path, D.get, fldP, posK, lstAt, isLst])
theorem getD_get {α : Type} {xs : List α} {i : Nat} {d : α} (h : i < xs.length) : xs[i] = xs.getD i d := by
  rw [List.getD_eq_getElem?_getD, List.getElem?_eq_getElem h]; rfl
theorem idx_N {xs : List Nat} {i : Nat} (h : i < xs.length) {m : Bool} : idxD (.nd .tup m (xs.map dN)) (.at (.int i)) = some (dN (xs.getD i 0)) := by
  rw [← getD_get h]; exact idx_mapT h
theorem idx_NL {xs : List Nat} {i : Nat} (h : i < xs.length) {m : Bool} : idxD (.nd .lst m (xs.map dN)) (.at (.int i)) = some (dN (xs.getD i 0)) := by
  rw [← getD_get h]; exact idx_mapL h
theorem idx_T {xs : List (List Nat)} {i : Nat} (h : i < xs.length) {m : Bool} : idxD (.nd .tup m (xs.map tN)) (.at (.int i)) = some (tN (xs.getD i [])) := by
  rw [← getD_get h]; exact idx_mapT h
theorem some_parts_ok (n : Nat) (z : Dice) (hz : z.Ok) : cW ((dcall law.pg (n+3)).call 17 [true] [z.d]) fun d rs => ∃ (s : Site) (z' : Dice), s.Ok ∧ z'.Ok ∧ d = s.d ∧ rs = [z'.d] := by
  rw [dcall_succ law.pg (n+2) 17 _ _ (fd := F_law_some_parts) rfl rfl]
  (simp [-List.getD_eq_getElem?_getD, -List.map_take, -List.map_drop, -List.map_reverse, q_takeM, q_dropM, q_revM, refsAt, env0, rfOf, isRf, fillR, putR, nm, nmL, setMany, asnD, wipeE, backE, partOf, path, D.get, fldP, posK, lstAt, isLst, F_law_some_parts])
  refine w_draw hz ?_ ?_ ?_ (fun r z1 hz1 hr => ?_)
  · first | (have hz' := PySem.sizeLine_eq; omega) | (have hz' := PySem.sizeLine_eq; simp; omega)
  · first | (have hz' := PySem.sizeLine_eq; omega) | (have hz' := PySem.sizeLine_eq; simp; omega)
  · rfl
  have fin : ∀ (m : Nat), 1 ≤ m → m ≤ 6 → ∀ es ρ k h, (rfs es).length = 1 → (∀ (s : Site) (z' : Dice), s.Ok → z'.Ok → k s.d (putR es [z'.d] ρ)) → W (callR es ρ ((dcall law.pg (n+2)).call 15 [true, false] [z1.d, dN m])) k h := by
    intro m h1 h6 es ρ k h hl hk
    obtain ⟨d, rs, e, s, z', g1, g2, g3, rfl, rfl⟩ := cW_get (parts_ok n z1 hz1 m h1 h6)
    exact w_callR e hl.symm (hk s z' g1 g3)
  by_cases h0 : r = 0
  · subst h0
    (simp [-List.getD_eq_getElem?_getD, -List.map_take, -List.map_drop, -List.map_reverse, q_takeM, q_dropM, q_revM, refsAt, env0, rfOf, isRf, fillR, putR, nm, nmL, setMany, asnD, wipeE, backE, partOf, path, D.get, fldP, posK, lstAt, isLst])
    refine fin 6 (by omega) (by omega) _ _ _ _ rfl fun s z' g1 g2 => ?_
    (simp [-List.getD_eq_getElem?_getD, -List.map_take, -List.map_drop, -List.map_reverse, q_takeM, q_dropM, q_revM, refsAt, env0, rfOf, isRf, fillR, putR, nm, nmL, setMany, asnD, wipeE, backE, partOf, path, D.get, fldP, posK, lstAt, isLst])
    exact ⟨s, g1, z', g2, rfl, rfl⟩
  · have h0' : ((r : Int) == 0) = false := by simp; exact h0
    (simp [-List.getD_eq_getElem?_getD, -List.map_take, -List.map_drop, -List.map_reverse, q_takeM, q_dropM, q_revM, refsAt, env0, rfOf, isRf, fillR, putR, nm, nmL, setMany, asnD, wipeE, backE, partOf, path, D.get, fldP, posK, lstAt, isLst, h0'])
    refine fin 4 (by omega) (by omega) _ _ _ _ rfl fun s z' g1 g2 => ?_
    (simp [-List.getD_eq_getElem?_getD, -List.map_take, -List.map_drop, -List.map_reverse, q_takeM, q_dropM, q_revM, refsAt, env0, rfOf, isRf, fillR, putR, nm, nmL, setMany, asnD, wipeE, backE, partOf, path, D.get, fldP, posK, lstAt, isLst])
    exact ⟨s, g1, z', g2, rfl, rfl⟩
theorem row_ok (n : Nat) (z : Dice) (hz : z.Ok) (s : Site) (hs : s.Ok) (most : Nat) (hm : most ≤ 900) : cW ((dcall law.pg (n+2)).call 18 [true, false, false] [z.d, s.d, dN most]) fun d rs => ∃ (r : List Nat) (z' : Dice), (∀ w ∈ r, w < s.works.length) ∧ r.length ≤ most ∧ z'.Ok ∧ d = tN r ∧ rs = [z'.d] := by
  have hw := hs.w1
  have hw2 := hs.w10
  rw [dcall_succ law.pg (n+1) 18 _ _ (fd := F_law_row) rfl rfl]
  (simp [-List.getD_eq_getElem?_getD, -List.map_take, -List.map_drop, -List.map_reverse, q_takeM, q_dropM, q_revM, refsAt, env0, rfOf, isRf, fillR, putR, nm, nmL, setMany, asnD, wipeE, backE, partOf, path, D.get, fldP, posK, lstAt, isLst, F_law_row])
  refine w_draw hz ?_ ?_ ?_ (fun r z1 hz1 hr => ?_)
  · first | (have hz' := PySem.sizeLine_eq; omega) | (have hz' := PySem.sizeLine_eq; simp; omega)
  · first | (have hz' := PySem.sizeLine_eq; omega) | (have hz' := PySem.sizeLine_eq; simp; omega)
  · rfl
  (simp [-List.getD_eq_getElem?_getD, -List.map_take, -List.map_drop, -List.map_reverse, q_takeM, q_dropM, q_revM, refsAt, env0, rfOf, isRf, fillR, putR, nm, nmL, setMany, asnD, wipeE, backE, partOf, path, D.get, fldP, posK, lstAt, isLst])
  refine w_lcJ (List.range r) (dN) (fun ρ => ∃ (z : Dice), z.Ok ∧ ρ = [some z.d, some s.d, some (dN most), none]) (fun _ d => ∃ w : Nat, d = dN w ∧ w < s.works.length) rfl (by first | with_reducible rfl | ((simp [-List.getD_eq_getElem?_getD, -List.map_take, -List.map_drop, -List.map_reverse, q_takeM, q_dropM, q_revM, refsAt, env0, rfOf, isRf, fillR, putR, nm, nmL, setMany, asnD, wipeE, backE, partOf, path, D.get, fldP, posK, lstAt, isLst]); done) | ((try (simp [-List.getD_eq_getElem?_getD, -List.map_take, -List.map_drop, -List.map_reverse, q_takeM, q_dropM, q_revM, refsAt, env0, rfOf, isRf, fillR, putR, nm, nmL, setMany, asnD, wipeE, backE, partOf, path, D.get, fldP, posK, lstAt, isLst])); first | with_reducible exact it_rng (by omega) | with_reducible exact it_rng1 (by omega) | with_reducible exact it_rng2 (by omega) (by omega) | with_reducible exact it_rngS (by simp <;> omega) (by omega) | with_reducible exact it_rng2S (by simp <;> omega) (by simp <;> omega) (by omega) (by omega) | with_reducible exact it_zipT _ _ _ _ (by (simp [-List.getD_eq_getElem?_getD, -List.map_take, -List.map_drop, -List.map_reverse, q_takeM, q_dropM, q_revM, refsAt, env0, rfOf, isRf, fillR, putR, nm, nmL, setMany, asnD, wipeE, backE, partOf, path, D.get, fldP, posK, lstAt, isLst])))) (by (simp [-List.getD_eq_getElem?_getD, -List.map_take, -List.map_drop, -List.map_reverse, q_takeM, q_dropM, q_revM, refsAt, env0, rfOf, isRf, fillR, putR, nm, nmL, setMany, asnD, wipeE, backE, partOf, path, D.get, fldP, posK, lstAt, isLst])) (by (simp [-List.getD_eq_getElem?_getD, -List.map_take, -List.map_drop, -List.map_reverse, q_takeM, q_dropM, q_revM, refsAt, env0, rfOf, isRf, fillR, putR, nm, nmL, setMany, asnD, wipeE, backE, partOf, path, D.get, fldP, posK, lstAt, isLst])) (by first | (have hz' := PySem.sizeLine_eq; omega) | (have hz' := PySem.sizeLine_eq; simp; omega)) ?_ (fun q hq ρ0 hI => ?_) (fun ds ρ0 hall hI => ?_)
  · exact ⟨z1, hz1, rfl⟩
  · obtain ⟨z2, hz2, rfl⟩ := hI
    (simp [-List.getD_eq_getElem?_getD, -List.map_take, -List.map_drop, -List.map_reverse, q_takeM, q_dropM, q_revM, refsAt, env0, rfOf, isRf, fillR, putR, nm, nmL, setMany, asnD, wipeE, backE, partOf, path, D.get, fldP, posK, lstAt, isLst, Site.d])
    refine w_draw hz2 ?_ ?_ ?_ (fun r2 z3 hz3 hr2 => ?_)
    · first | (have hz' := PySem.sizeLine_eq; omega) | (have hz' := PySem.sizeLine_eq; simp; omega)
    · first | (have hz' := PySem.sizeLine_eq; omega) | (have hz' := PySem.sizeLine_eq; simp; omega)
    · rfl
    (simp [-List.getD_eq_getElem?_getD, -List.map_take, -List.map_drop, -List.map_reverse, q_takeM, q_dropM, q_revM, refsAt, env0, rfOf, isRf, fillR, putR, nm, nmL, setMany, asnD, wipeE, backE, partOf, path, D.get, fldP, posK, lstAt, isLst])
    exact ⟨⟨r2, rfl, by omega⟩, z3, hz3, rfl⟩
  · obtain ⟨z2, hz2, rfl⟩ := hI
    obtain ⟨vs, rfl, hv⟩ := hall.enc (e := dN) (R := fun _ w => w < s.works.length) fun _ _ h => h
    (simp [-List.getD_eq_getElem?_getD, -List.map_take, -List.map_drop, -List.map_reverse, q_takeM, q_dropM, q_revM, refsAt, env0, rfOf, isRf, fillR, putR, nm, nmL, setMany, asnD, wipeE, backE, partOf, path, D.get, fldP, posK, lstAt, isLst])
    refine ⟨vs, hv.right fun _ _ _ h => h, ?_, z2, hz2, rfl, rfl⟩
    have := hv.length_eq
    simp at this
    omega
theorem site_cl (s : Site) : (s.d).clean = true := by (simp [-List.getD_eq_getElem?_getD, -List.map_take, -List.map_drop, -List.map_reverse, q_takeM, q_dropM, q_revM, refsAt, env0, rfOf, isRf, fillR, putR, nm, nmL, setMany, asnD, wipeE, backE, partOf, path, D.get, fldP, posK, lstAt, isLst, Site.d])
theorem site_fr (s : Site) : (s.d).frz = s.d := frz_of_clean _ (site_cl s)
theorem site_0 (s : Site) : idxD s.d (.at (.int 0)) = some (dN s.desks) := q_idx0T
theorem site_1 (s : Site) : idxD s.d (.at (.int 1)) = some (tM tN s.works) := q_idx1T
theorem ifcn {C : Calls} {a b : At} {c : Bool} {ρ : Env} : zIf C (.cn a) (.cn b) (.at (.bl c)) ρ = .ok (.at (if c = true then a else b)) ρ := by cases c <;> rfl
end LW

set_option Elab.async false
set_option linter.all false
set_option maxRecDepth 100000
set_option maxHeartbeats 4000000
/-! _law_same of a thing and itself -/
namespace LW
open Ev
def SD : Nat → D → Bool
  | _, .at .non => true
  | _, .at (.bl _) => true
  | _, .at (.int _) => true
  | k+1, .nd .tup false xs => decide (xs.length ≤ 100000) && xs.all (SD k)
  | _, _ => false
theorem SD_nd {k : Nat} {xs : List D} (h1 : xs.length ≤ 100000) (h : ∀ x ∈ xs, SD k x = true) : SD (k+1) (.nd .tup false xs) = true := by
  show (decide (xs.length ≤ 100000) && xs.all (SD k)) = true
  rw [Bool.and_eq_true, decide_eq_true_eq]
  exact ⟨h1, List.all_eq_true.mpr h⟩
theorem SD_clean : ∀ (k : Nat) (d : D), SD k d = true → d.clean = true
  | _, .at _, _ => rfl
  | 0, .nd k m xs, h => by cases k <;> cases m <;> cases h
  | k+1, .nd kd m xs, h => by
    cases kd with
    | tup =>
      cases m with
      | true => cases h
      | false =>
        have h : (decide (xs.length ≤ 100000) && xs.all (SD k)) = true := h
        rw [Bool.and_eq_true] at h
        show (!false && D.cleanL xs) = true
        rw [cl_all fun x hx => SD_clean k x (List.all_eq_true.mp h.2 x hx)]
        rfl
    | _ => cases m <;> cases h
theorem SD_tN {xs : List Nat} (h : xs.length ≤ 100000) (k : Nat) : SD (k+1) (tN xs) = true := SD_nd (by simpa using h) fun x hx => by
  obtain ⟨a, _, rfl⟩ := List.mem_map.mp hx
  cases k <;> rfl
end LW

set_option Elab.async false
set_option linter.all false
set_option maxRecDepth 100000
set_option maxHeartbeats 4000000
/-! histories of rows -/
namespace LW
open Ev
/-- a number or None -/
def oN : Option Nat → D
  | some k => dN k
  | none => D.non
theorem cl_oN : ∀ o, (oN o).clean = true
  | some _ => rfl
  | none => rfl
@[simp] theorem q_clO (xs : List (Option Nat)) : D.cleanL (xs.map oN) = true := q_clL _ _ cl_oN
@[simp] theorem q_frO (xs : List (Option Nat)) : D.frzL (xs.map oN) = xs.map oN := frzL_of_clean _ (q_clO xs)
structure His where
  pasts : List Nat
  lasts : List (Option Nat)
  events : List Nat
def His.d (s : Site) (z : His) (m : Bool) : D := .nd (.obj 1 [4, 5, 6, 7]) m [s.off, .nd .lst m (z.pasts.map dN), .nd .lst m (z.lasts.map oN), .nd .lst m (z.events.map dN)]
structure His.Ok (s : Site) (z : His) : Prop where
  l1 : z.lasts.length = s.desks
  l2 : z.events.length = s.desks
  l3 : ∀ d k, z.lasts.getD d none = some k → k < z.pasts.length
def His.or (z : His) (m d : Nat) : Nat := match z.lasts.getD d none with
  | some k => m ||| z.pasts.getD k 0
  | none => m
theorem His.or_some {z : His} {m d k : Nat} (h : z.lasts.getD d none = some k) : z.or m d = m ||| z.pasts.getD k 0 := by
  unfold His.or; rw [h]
theorem His.or_none {z : His} {m d : Nat} (h : z.lasts.getD d none = none) : z.or m d = m := by
  unfold His.or; rw [h]
def His.put (z : His) (lot : List Nat) : His where
  pasts := z.pasts ++ [lot.foldl z.or (2 ^ z.pasts.length)]
  lasts := lot.foldl (fun l d => l.set d (some z.pasts.length)) z.lasts
  events := lot.foldl (fun l d => l.set d (l.getD d 0 ||| 2 ^ z.pasts.length)) z.events
theorem idx_O {xs : List (Option Nat)} {i : Nat} (h : i < xs.length) {m : Bool} : idxD (.nd .lst m (xs.map oN)) (.at (.int i)) = some (oN (xs.getD i none)) := by
  rw [← getD_get h]; exact idx_mapL h
open L2 in
theorem augG_N {m : Bool} {xs : List Nat} {k : Nat} (h : k < xs.length) : augG (.nd .lst m (xs.map dN)) (.at (.int k)) = some ((xs.getD k 0 : Nat) : Int) := by
  show (if decide (0 ≤ (k : Int)) then (match atI (xs.map dN) k with
      | some (.at (.int a)) => some a
      | _ => none) else none) = _
  rw [if_pos (decide_eq_true (by omega)), atI_nat (by rw [List.length_map]; exact h), List.getElem?_map, List.getElem?_eq_getElem h]
  show some ((xs[k] : Nat) : Int) = _
  rw [getD_get h]
theorem foldl_len {α β : Type} (f : List α → β → List α) (hf : ∀ l b, (f l b).length = l.length) : ∀ (bs : List β) (l : List α), (bs.foldl f l).length = l.length
  | [], l => rfl
  | b :: bs, l => by rw [List.foldl_cons, foldl_len f hf bs, hf]
theorem set_mapN (xs : List Nat) (k v : Nat) : (xs.map dN).set k (.at (.int v)) = (xs.set k v).map dN := (List.map_set (f := dN) (l := xs) (i := k) (a := v)).symm
theorem set_mapO (xs : List (Option Nat)) (k v : Nat) : (xs.map oN).set k (.at (.int v)) = (xs.set k (some v)).map oN := (List.map_set (f := oN) (l := xs) (i := k) (a := some v)).symm
theorem bor_P (a n : Nat) : PySem.Builtin.bitOr (a : Int) ((2 : Int) ^ n) = ((a ||| 2 ^ n : Nat) : Int) := by
  rw [← bor_N, Int.natCast_pow]; rfl
theorem put_ok (n : Nat) (s : Site) (hS : s.Ok) (z : His) (hz : z.Ok s) (lot : List Nat) (hl : ∀ d ∈ lot, d < s.desks) (hp : z.pasts.length ≤ 1000) : (dcall law.pg (n+1)).call 10 [true, false, false] [z.d s true, dN z.pasts.length, tN lot] = .ok D.non [(z.put lot).d s true] := by
  have hsh := shl_1 (n := z.pasts.length) (by omega)
  have hpl : z.pasts.length < PySem.sizeLine := by rw [PySem.sizeLine_eq]; omega
  rw [dcall_succ law.pg n 10 _ _ (fd := F_History_put) rfl rfl]
  refine cW_eq ?_
  (simp [-List.getD_eq_getElem?_getD, -List.map_take, -List.map_drop, -List.map_reverse, q_takeM, q_dropM, q_revM, refsAt, env0, rfOf, isRf, fillR, putR, nm, nmL, setMany, asnD, wipeE, backE, partOf, path, D.get, fldP, posK, lstAt, isLst, F_History_put, hsh, His.d])
  refine x_for (lot) (dN) (fun ds ρ => ∃ o4, ρ = [some (z.d s true), some (dN z.pasts.length), some (tN lot), some (dN (ds.foldl z.or (2 ^ z.pasts.length))), o4]) (by first | with_reducible rfl | ((simp [-List.getD_eq_getElem?_getD, -List.map_take, -List.map_drop, -List.map_reverse, q_takeM, q_dropM, q_revM, refsAt, env0, rfOf, isRf, fillR, putR, nm, nmL, setMany, asnD, wipeE, backE, partOf, path, D.get, fldP, posK, lstAt, isLst]); done) | ((try (simp [-List.getD_eq_getElem?_getD, -List.map_take, -List.map_drop, -List.map_reverse, q_takeM, q_dropM, q_revM, refsAt, env0, rfOf, isRf, fillR, putR, nm, nmL, setMany, asnD, wipeE, backE, partOf, path, D.get, fldP, posK, lstAt, isLst])); first | with_reducible exact it_rng (by omega) | with_reducible exact it_rng1 (by omega) | with_reducible exact it_rng2 (by omega) (by omega) | with_reducible exact it_rngS (by simp <;> omega) (by omega) | with_reducible exact it_rng2S (by simp <;> omega) (by simp <;> omega) (by omega) (by omega) | with_reducible exact it_zipT _ _ _ _ (by (simp [-List.getD_eq_getElem?_getD, -List.map_take, -List.map_drop, -List.map_reverse, q_takeM, q_dropM, q_revM, refsAt, env0, rfOf, isRf, fillR, putR, nm, nmL, setMany, asnD, wipeE, backE, partOf, path, D.get, fldP, posK, lstAt, isLst])))) (by (simp [-List.getD_eq_getElem?_getD, -List.map_take, -List.map_drop, -List.map_reverse, q_takeM, q_dropM, q_revM, refsAt, env0, rfOf, isRf, fillR, putR, nm, nmL, setMany, asnD, wipeE, backE, partOf, path, D.get, fldP, posK, lstAt, isLst])) (by (simp [-List.getD_eq_getElem?_getD, -List.map_take, -List.map_drop, -List.map_reverse, q_takeM, q_dropM, q_revM, refsAt, env0, rfOf, isRf, fillR, putR, nm, nmL, setMany, asnD, wipeE, backE, partOf, path, D.get, fldP, posK, lstAt, isLst])) rfl ?_ (fun ds y rs hs ρ0 hI => ?_) (fun ρ0 hI => ?_)
  · exact ⟨_, rfl⟩
  · obtain ⟨o4, rfl⟩ := hI
    have hy : y < z.lasts.length := by rw [hz.l1]; exact hl y (by rw [hs]; simp)
    (simp [-List.getD_eq_getElem?_getD, -List.map_take, -List.map_drop, -List.map_reverse, q_takeM, q_dropM, q_revM, refsAt, env0, rfOf, isRf, fillR, putR, nm, nmL, setMany, asnD, wipeE, backE, partOf, path, D.get, fldP, posK, lstAt, isLst, His.d, idx_O hy])
    cases hc : z.lasts.getD y none with
    | none => (simp [-List.getD_eq_getElem?_getD, -List.map_take, -List.map_drop, -List.map_reverse, q_takeM, q_dropM, q_revM, refsAt, env0, rfOf, isRf, fillR, putR, nm, nmL, setMany, asnD, wipeE, backE, partOf, path, D.get, fldP, posK, lstAt, isLst, oN, His.or_none hc, List.foldl_append])
    | some k =>
      have hk := hz.l3 y k hc
      (simp [-List.getD_eq_getElem?_getD, -List.map_take, -List.map_drop, -List.map_reverse, q_takeM, q_dropM, q_revM, refsAt, env0, rfOf, isRf, fillR, putR, nm, nmL, setMany, asnD, wipeE, backE, partOf, path, D.get, fldP, posK, lstAt, isLst, oN, idx_O hy, hc, idx_NL hk, bor_N, His.or_some hc, List.foldl_append])
  · obtain ⟨o4, rfl⟩ := hI
    (simp [-List.getD_eq_getElem?_getD, -List.map_take, -List.map_drop, -List.map_reverse, q_takeM, q_dropM, q_revM, refsAt, env0, rfOf, isRf, fillR, putR, nm, nmL, setMany, asnD, wipeE, backE, partOf, path, D.get, fldP, posK, lstAt, isLst, His.d, b_app, hpl])
    refine x_for (lot) (dN) (fun ds ρ => ∃ o4, ρ = [some (.nd (.obj 1 [4, 5, 6, 7]) true [s.off, oM dN (z.put lot).pasts, oM oN (ds.foldl (fun l d => l.set d (some z.pasts.length)) z.lasts), oM dN (ds.foldl (fun l d => l.set d (l.getD d 0 ||| 2 ^ z.pasts.length)) z.events)]), some (dN z.pasts.length), some (tN lot), some (dN (lot.foldl z.or (2 ^ z.pasts.length))), o4]) (by first | with_reducible rfl | ((simp [-List.getD_eq_getElem?_getD, -List.map_take, -List.map_drop, -List.map_reverse, q_takeM, q_dropM, q_revM, refsAt, env0, rfOf, isRf, fillR, putR, nm, nmL, setMany, asnD, wipeE, backE, partOf, path, D.get, fldP, posK, lstAt, isLst]); done) | ((try (simp [-List.getD_eq_getElem?_getD, -List.map_take, -List.map_drop, -List.map_reverse, q_takeM, q_dropM, q_revM, refsAt, env0, rfOf, isRf, fillR, putR, nm, nmL, setMany, asnD, wipeE, backE, partOf, path, D.get, fldP, posK, lstAt, isLst])); first | with_reducible exact it_rng (by omega) | with_reducible exact it_rng1 (by omega) | with_reducible exact it_rng2 (by omega) (by omega) | with_reducible exact it_rngS (by simp <;> omega) (by omega) | with_reducible exact it_rng2S (by simp <;> omega) (by simp <;> omega) (by omega) (by omega) | with_reducible exact it_zipT _ _ _ _ (by (simp [-List.getD_eq_getElem?_getD, -List.map_take, -List.map_drop, -List.map_reverse, q_takeM, q_dropM, q_revM, refsAt, env0, rfOf, isRf, fillR, putR, nm, nmL, setMany, asnD, wipeE, backE, partOf, path, D.get, fldP, posK, lstAt, isLst])))) (by (simp [-List.getD_eq_getElem?_getD, -List.map_take, -List.map_drop, -List.map_reverse, q_takeM, q_dropM, q_revM, refsAt, env0, rfOf, isRf, fillR, putR, nm, nmL, setMany, asnD, wipeE, backE, partOf, path, D.get, fldP, posK, lstAt, isLst])) (by (simp [-List.getD_eq_getElem?_getD, -List.map_take, -List.map_drop, -List.map_reverse, q_takeM, q_dropM, q_revM, refsAt, env0, rfOf, isRf, fillR, putR, nm, nmL, setMany, asnD, wipeE, backE, partOf, path, D.get, fldP, posK, lstAt, isLst])) rfl ?_ (fun ds y rs hs ρ0 hI => ?_) (fun ρ0 hI => ?_)
    · exact ⟨o4, by (simp [-List.getD_eq_getElem?_getD, -List.map_take, -List.map_drop, -List.map_reverse, q_takeM, q_dropM, q_revM, refsAt, env0, rfOf, isRf, fillR, putR, nm, nmL, setMany, asnD, wipeE, backE, partOf, path, D.get, fldP, posK, lstAt, isLst, His.put])⟩
    · obtain ⟨o4, rfl⟩ := hI
      have hy := hl y (by rw [hs]; simp)
      have hl1 : y < ((ds.foldl (fun l d => l.set d (some z.pasts.length)) z.lasts).map oN).length := by
        rw [List.length_map, foldl_len _ (fun l b => List.length_set), hz.l1]; exact hy
      have hl2 : y < (ds.foldl (fun l d => l.set d (l.getD d 0 ||| 2 ^ z.pasts.length)) z.events).length := by
        rw [foldl_len _ (fun l b => List.length_set), hz.l2]; exact hy
      have hl3 : y < ((ds.foldl (fun l d => l.set d (l.getD d 0 ||| 2 ^ z.pasts.length)) z.events).map dN).length := by rw [List.length_map]; exact hl2
      (simp [-List.getD_eq_getElem?_getD, -List.map_take, -List.map_drop, -List.map_reverse, q_takeM, q_dropM, q_revM, refsAt, env0, rfOf, isRf, fillR, putR, nm, nmL, setMany, asnD, wipeE, backE, partOf, path, D.get, fldP, posK, lstAt, isLst, stoD_L hl1, stoD_L hl3, augG_N hl2, hsh, bor_N, bor_P, List.foldl_append, oN, List.map_set])
    · obtain ⟨o4, rfl⟩ := hI
      (simp [-List.getD_eq_getElem?_getD, -List.map_take, -List.map_drop, -List.map_reverse, q_takeM, q_dropM, q_revM, refsAt, env0, rfOf, isRf, fillR, putR, nm, nmL, setMany, asnD, wipeE, backE, partOf, path, D.get, fldP, posK, lstAt, isLst, His.d, His.put])
end LW

set_option Elab.async false
set_option linter.all false
set_option maxRecDepth 100000
set_option maxHeartbeats 4000000
/-! pasts as lists and as numbers -/
namespace LW
open Ev
/-- two works meet -/
def Site.mt (s : Site) (a b : Nat) : Bool := s.meet (s.at a) (s.at b)
theorem mt_iff {s : Site} {a b : Nat} : s.mt a b = true ↔ ∃ d, d ∈ s.at a ∧ d ∈ s.at b := by
  unfold Site.mt Site.meet
  rw [List.any_eq_true]
  constructor
  · rintro ⟨d, h1, h2⟩; exact ⟨d, h1, of_decide_eq_true h2⟩
  · rintro ⟨d, h1, h2⟩; exact ⟨d, h1, decide_eq_true h2⟩
/-- the keys behind the first events -/
def hereK (s : Site) (r : List Nat) (acc : List (List Nat)) (p : Nat) (es : List Nat) : List Nat :=
  es.foldl (fun ks e => if s.mt (r.getD e 0) (r.getD p 0) = true then addKs ks (acc.getD e []) else ks) [p]
def pastsL (s : Site) (r : List Nat) (ps : List Nat) : List (List Nat) :=
  ps.foldl (fun acc p => acc ++ [sortN (hereK s r acc p (List.range p))]) []
def hisL (s : Site) (r : List Nat) (ps : List Nat) : His :=
  ps.foldl (fun z p => z.put (s.at (r.getD p 0))) ⟨[], List.replicate s.desks none, List.replicate s.desks 0⟩
theorem range_snoc {α : Type} (f : α → Nat → α) (a : α) (n : Nat) : (List.range (n + 1)).foldl f a = f ((List.range n).foldl f a) n := by
  rw [List.range_succ, List.foldl_append]; rfl
theorem mem_hereK (s : Site) (r : List Nat) (acc : List (List Nat)) (p x : Nat) (n : Nat) : x ∈ hereK s r acc p (List.range n) ↔ x = p ∨ ∃ e, e < n ∧ s.mt (r.getD e 0) (r.getD p 0) = true ∧ x ∈ acc.getD e [] := by
  induction n with
  | zero => unfold hereK; simp
  | succ n ih =>
    unfold hereK at ih ⊢
    rw [range_snoc]
    by_cases hm : s.mt (r.getD n 0) (r.getD p 0) = true
    · rw [if_pos hm, mem_addKs, ih]
      constructor
      · rintro ((h | ⟨e, h1, h2, h3⟩) | h)
        · exact .inl h
        · exact .inr ⟨e, by omega, h2, h3⟩
        · exact .inr ⟨n, by omega, hm, h⟩
      · rintro (h | ⟨e, h1, h2, h3⟩)
        · exact .inl (.inl h)
        · by_cases he : e = n
          · subst he; exact .inr h3
          · exact .inl (.inr ⟨e, by omega, h2, h3⟩)
    · rw [if_neg hm, ih]
      constructor
      · rintro (h | ⟨e, h1, h2, h3⟩)
        · exact .inl h
        · exact .inr ⟨e, by omega, h2, h3⟩
      · rintro (h | ⟨e, h1, h2, h3⟩)
        · exact .inl h
        · by_cases he : e = n
          · subst he; exact absurd h2 hm
          · exact .inr ⟨e, by omega, h2, h3⟩
theorem nd_hereK (s : Site) (r : List Nat) (acc : List (List Nat)) (p : Nat) : ∀ (es ks : List Nat), ks.Nodup → (es.foldl (fun ks e => if s.mt (r.getD e 0) (r.getD p 0) = true then addKs ks (acc.getD e []) else ks) ks).Nodup
  | [], ks, h => h
  | e :: es, ks, h => by
    rw [List.foldl_cons]
    refine nd_hereK s r acc p es _ ?_
    split
    · exact nd_addKs h
    · exact h
theorem getD_app1 {α : Type} {xs ys : List α} {i : Nat} {d : α} (h : i < xs.length) : (xs ++ ys).getD i d = xs.getD i d := by
  rw [List.getD_eq_getElem?_getD, List.getD_eq_getElem?_getD, List.getElem?_append_left h]
theorem getD_app2 {α : Type} {xs : List α} {y d : α} : (xs ++ [y]).getD xs.length d = y := by
  rw [List.getD_eq_getElem?_getD]; simp
theorem pastsL_len (s : Site) (r : List Nat) (n : Nat) : (pastsL s r (List.range n)).length = n := by
  induction n with
  | zero => rfl
  | succ n ih => unfold pastsL at ih ⊢; rw [range_snoc, List.length_append, ih]; rfl
theorem pastsL_snoc (s : Site) (r : List Nat) (n : Nat) : pastsL s r (List.range (n + 1)) = pastsL s r (List.range n) ++ [sortN (hereK s r (pastsL s r (List.range n)) n (List.range n))] := by
  unfold pastsL; rw [range_snoc]
theorem hisL_snoc (s : Site) (r : List Nat) (n : Nat) : hisL s r (List.range (n + 1)) = (hisL s r (List.range n)).put (s.at (r.getD n 0)) := by
  unfold hisL; rw [range_snoc]
theorem get_setsO (v : Option Nat) : ∀ (lot : List Nat) (l : List (Option Nat)) (d : Nat), d < l.length → (lot.foldl (fun l d => l.set d v) l).getD d none = if d ∈ lot then v else l.getD d none
  | [], l, d, h => by simp
  | e :: lot, l, d, h => by
    rw [List.foldl_cons, get_setsO v lot _ d (by rw [List.length_set]; exact h)]
    by_cases hm : d ∈ lot
    · rw [if_pos hm, if_pos (List.mem_cons_of_mem _ hm)]
    · rw [if_neg hm]
      by_cases he : d = e
      · subst he
        rw [if_pos List.mem_cons_self, List.getD_eq_getElem?_getD, List.getElem?_set_self h]; rfl
      · rw [if_neg (fun h => (List.mem_cons.mp h).elim he hm), List.getD_eq_getElem?_getD, List.getElem?_set_ne (fun h => he h.symm), ← List.getD_eq_getElem?_getD]
theorem or_bits (z : His) (x : Nat) : ∀ (lot : List Nat) (m : Nat), (lot.foldl z.or m).testBit x = true ↔ m.testBit x = true ∨ ∃ d ∈ lot, ∃ k, z.lasts.getD d none = some k ∧ (z.pasts.getD k 0).testBit x = true
  | [], m => by simp
  | d :: lot, m => by
    rw [List.foldl_cons, or_bits z x lot]
    cases h : z.lasts.getD d none with
    | none =>
      rw [His.or_none h]
      constructor
      · rintro (h1 | ⟨e, h1, k, h2, h3⟩)
        · exact .inl h1
        · exact .inr ⟨e, List.mem_cons_of_mem _ h1, k, h2, h3⟩
      · rintro (h1 | ⟨e, h1, k, h2, h3⟩)
        · exact .inl h1
        · rcases List.mem_cons.mp h1 with rfl | h1
          · rw [h] at h2; cases h2
          · exact .inr ⟨e, h1, k, h2, h3⟩
    | some k0 =>
      rw [His.or_some h, Nat.testBit_or, Bool.or_eq_true]
      constructor
      · rintro ((h1 | h1) | ⟨e, h1, k, h2, h3⟩)
        · exact .inl h1
        · exact .inr ⟨d, List.mem_cons_self, k0, h, h1⟩
        · exact .inr ⟨e, List.mem_cons_of_mem _ h1, k, h2, h3⟩
      · rintro (h1 | ⟨e, h1, k, h2, h3⟩)
        · exact .inl (.inl h1)
        · rcases List.mem_cons.mp h1 with rfl | h1
          · rw [h] at h2; cases h2; exact .inl (.inr h3)
          · exact .inr ⟨e, h1, k, h2, h3⟩
/-- what holds of both behind n events -/
structure Both (s : Site) (r : List Nat) (n : Nat) (P : List (List Nat)) (z : His) : Prop where
  lp : P.length = n
  lz : z.pasts.length = n
  ok : z.Ok s
  bit : ∀ p, p < n → ∀ x, x ∈ P.getD p [] ↔ (z.pasts.getD p 0).testBit x = true
  up : ∀ p, p < n → (P.getD p []).Pairwise (· < ·)
  le : ∀ p, p < n → ∀ x ∈ P.getD p [], x ≤ p
  self : ∀ p, p < n → p ∈ P.getD p []
  last : ∀ d k, d < s.desks → z.lasts.getD d none = some k → d ∈ s.at (r.getD k 0) ∧ ∀ e, e < n → d ∈ s.at (r.getD e 0) → e ≤ k ∧ ∀ x ∈ P.getD e [], x ∈ P.getD k []
  no : ∀ d, d < s.desks → z.lasts.getD d none = none → ∀ e, e < n → d ∉ s.at (r.getD e 0)
  ev : ∀ d, d < s.desks → ∀ x, (z.events.getD d 0).testBit x = true ↔ x < n ∧ d ∈ s.at (r.getD x 0)
theorem get_setsN (q : Nat) (x : Nat) : ∀ (lot : List Nat) (l : List Nat) (d : Nat), d < l.length → ((lot.foldl (fun l d => l.set d (l.getD d 0 ||| 2 ^ q)) l).getD d 0).testBit x = (decide (d ∈ lot ∧ x = q) || (l.getD d 0).testBit x)
  | [], l, d, h => by simp
  | e :: lot, l, d, h => by
    rw [List.foldl_cons, get_setsN q x lot _ d (by rw [List.length_set]; exact h)]
    by_cases he : d = e
    · subst he
      have e1 : (l.set d (l.getD d 0 ||| 2 ^ q)).getD d 0 = l.getD d 0 ||| 2 ^ q := by
        rw [List.getD_eq_getElem?_getD, List.getElem?_set_self h]; rfl
      rw [e1, Nat.testBit_or, Nat.testBit_two_pow]
      by_cases hx : q = x
      · subst hx; simp
      · have : ¬ x = q := fun h => hx h.symm
        simp [hx, this]
    · have e1 : (l.set e (l.getD e 0 ||| 2 ^ q)).getD d 0 = l.getD d 0 := by
        rw [List.getD_eq_getElem?_getD, List.getElem?_set_ne (fun h => he h.symm), ← List.getD_eq_getElem?_getD]
      rw [e1]
      simp [he]
theorem both (s : Site) (r : List Nat) (hS : s.Ok) : ∀ n, (∀ e, e < n → ∀ d ∈ s.at (r.getD e 0), d < s.desks) → Both s r n (pastsL s r (List.range n)) (hisL s r (List.range n))
  | 0, _ => by
    have e1 : ∀ d, (hisL s r (List.range 0)).lasts.getD d none = none := by
      intro d
      show (List.replicate s.desks (none : Option Nat)).getD d none = none
      rw [List.getD_eq_getElem?_getD, List.getElem?_replicate]
      split <;> rfl
    have e2 : ∀ d, (hisL s r (List.range 0)).events.getD d 0 = 0 := by
      intro d
      show (List.replicate s.desks (0 : Nat)).getD d 0 = 0
      rw [List.getD_eq_getElem?_getD, List.getElem?_replicate]
      split <;> rfl
    exact ⟨rfl, rfl, ⟨List.length_replicate, List.length_replicate, fun d k h => by rw [e1] at h; cases h⟩, fun p h => absurd h (by omega), fun p h => absurd h (by omega), fun p h => absurd h (by omega), fun p h => absurd h (by omega), fun d k _ h => by (rw [e1] at h; cases h), fun d _ _ e h => absurd h (by omega), fun d _ x => by rw [e2]; simp⟩
  | n + 1, hd => by
    have ih := both s r hS n fun e he => hd e (by omega)
    rw [pastsL_snoc, hisL_snoc]
    generalize pastsL s r (List.range n) = P at ih
    generalize hisL s r (List.range n) = z at ih
    obtain ⟨lp, lz, ok, bit, up, le, self, last, no, ev⟩ := ih
    have hdn := hd n (by omega)
    -- the new past
    have gP1 : ∀ p, p < n → (P ++ [sortN (hereK s r P n (List.range n))]).getD p [] = P.getD p [] := fun p h => getD_app1 (by omega)
    have gP2 : (P ++ [sortN (hereK s r P n (List.range n))]).getD n [] = sortN (hereK s r P n (List.range n)) := by
      conv => lhs; rw [← lp]
      rw [lp]
      have := getD_app2 (xs := P) (y := sortN (hereK s r P n (List.range n))) (d := [])
      rw [lp] at this
      exact this
    have gz1 : ∀ p, p < n → (z.put (s.at (r.getD n 0))).pasts.getD p 0 = z.pasts.getD p 0 := fun p h => getD_app1 (by omega)
    have gz2 : (z.put (s.at (r.getD n 0))).pasts.getD n 0 = (s.at (r.getD n 0)).foldl z.or (2 ^ n) := by
      have := getD_app2 (xs := z.pasts) (y := (s.at (r.getD n 0)).foldl z.or (2 ^ z.pasts.length)) (d := 0)
      rw [lz] at this
      unfold His.put
      rw [lz]
      exact this
    have mN : ∀ x, x ∈ sortN (hereK s r P n (List.range n)) ↔ x = n ∨ ∃ e, e < n ∧ s.mt (r.getD e 0) (r.getD n 0) = true ∧ x ∈ P.getD e [] := by
      intro x; rw [mem_sortN, mem_hereK]
    have bN : ∀ x, x ∈ sortN (hereK s r P n (List.range n)) ↔ ((s.at (r.getD n 0)).foldl z.or (2 ^ n)).testBit x = true := by
      intro x
      rw [mN, or_bits, Nat.testBit_two_pow, decide_eq_true_eq]
      constructor
      · rintro (rfl | ⟨e, he, hm, hx⟩)
        · exact .inl rfl
        · obtain ⟨d, h1, h2⟩ := mt_iff.mp hm
          have hds := hdn d h2
          cases hk : z.lasts.getD d none with
          | none => exact absurd h1 (no d hds hk e he)
          | some k =>
            have hkn := ok.l3 d k hk
            rw [lz] at hkn
            exact .inr ⟨d, h2, k, hk, (bit k hkn x).mp (((last d k hds hk).2 e he h1).2 x hx)⟩
      · rintro (h | ⟨d, h2, k, hk, hx⟩)
        · exact .inl h.symm
        · have hkn := ok.l3 d k hk
          rw [lz] at hkn
          exact .inr ⟨k, hkn, mt_iff.mpr ⟨d, (last d k (hdn d h2) hk).1, h2⟩, (bit k hkn x).mpr hx⟩
    have gl : ∀ d, d < s.desks → (z.put (s.at (r.getD n 0))).lasts.getD d none = if d ∈ s.at (r.getD n 0) then some n else z.lasts.getD d none := by
      intro d h
      have := get_setsO (some z.pasts.length) (s.at (r.getD n 0)) z.lasts d (by rw [ok.l1]; exact h)
      rw [lz] at this
      unfold His.put
      rw [lz]
      exact this
    have ge : ∀ d, d < s.desks → ∀ x, ((z.put (s.at (r.getD n 0))).events.getD d 0).testBit x = (decide (d ∈ s.at (r.getD n 0) ∧ x = n) || (z.events.getD d 0).testBit x) := by
      intro d h x
      have := get_setsN z.pasts.length x (s.at (r.getD n 0)) z.events d (by rw [ok.l2]; exact h)
      rw [lz] at this
      unfold His.put
      rw [lz]
      exact this
    have hlast : (z.put (s.at (r.getD n 0))).lasts.length = s.desks := by
      show List.length (List.foldl _ _ _) = _
      rw [foldl_len _ (fun l b => List.length_set), ok.l1]
    have lz' : (z.put (s.at (r.getD n 0))).pasts.length = n + 1 := by
      show (z.pasts ++ [_]).length = _
      rw [List.length_append, lz]; rfl
    refine ⟨by rw [List.length_append, lp]; rfl, lz', ⟨hlast, ?_, ?_⟩, ?_, ?_, ?_, ?_, ?_, ?_, ?_⟩
    · show List.length (List.foldl _ _ _) = _
      rw [foldl_len _ (fun l b => List.length_set), ok.l2]
    · intro d k hk
      rw [lz']
      by_cases h : d < s.desks
      · rw [gl d h] at hk
        split at hk
        · cases hk; omega
        · have := ok.l3 d k hk; omega
      · rw [List.getD_eq_getElem?_getD, List.getElem?_eq_none (by rw [hlast]; omega)] at hk
        cases hk
    · intro p hp x
      by_cases h : p < n
      · rw [gP1 p h, gz1 p h]; exact bit p h x
      · have : p = n := by omega
        subst this
        rw [gP2, gz2]; exact bN x
    · intro p hp
      by_cases h : p < n
      · rw [gP1 p h]; exact up p h
      · have : p = n := by omega
        subst this
        rw [gP2]
        exact sortN_lt (nd_hereK s r P p _ _ (by simp))
    · intro p hp x hx
      by_cases h : p < n
      · rw [gP1 p h] at hx; exact le p h x hx
      · have : p = n := by omega
        subst this
        rw [gP2, mN] at hx
        rcases hx with rfl | ⟨e, he, _, hx⟩
        · exact Nat.le_refl _
        · have := le e he x hx; omega
    · intro p hp
      by_cases h : p < n
      · rw [gP1 p h]; exact self p h
      · have : p = n := by omega
        subst this
        rw [gP2, mN]; exact .inl rfl
    · intro d k hds hk
      rw [gl d hds] at hk
      split at hk
      · rename_i hm
        cases hk
        refine ⟨hm, fun e he hde => ⟨by omega, fun x hx => ?_⟩⟩
        rw [gP2]
        by_cases h : e < n
        · rw [gP1 e h] at hx
          exact (mN x).mpr (.inr ⟨e, h, mt_iff.mpr ⟨d, hde, hm⟩, hx⟩)
        · have : e = n := by omega
          subst this
          rw [gP2] at hx; exact hx
      · rename_i hm
        have hkn := ok.l3 d k hk
        rw [lz] at hkn
        obtain ⟨q1, q2⟩ := last d k hds hk
        refine ⟨q1, fun e he hde => ?_⟩
        by_cases h : e < n
        · rw [gP1 e h, gP1 k hkn]; exact q2 e h hde
        · have : e = n := by omega
          subst this
          exact absurd hde hm
    · intro d hds hk e he hde
      rw [gl d hds] at hk
      split at hk
      · cases hk
      · rename_i hm
        by_cases h : e < n
        · exact no d hds hk e h hde
        · have : e = n := by omega
          subst this
          exact hm hde
    · intro d hds x
      rw [ge d hds x, Bool.or_eq_true, decide_eq_true_eq, ev d hds x]
      constructor
      · rintro (⟨h1, rfl⟩ | ⟨h1, h2⟩)
        · exact ⟨by omega, h1⟩
        · exact ⟨by omega, h2⟩
      · rintro ⟨h1, h2⟩
        by_cases h : x < n
        · exact .inr ⟨h, h2⟩
        · have : x = n := by omega
          subst this
          exact .inl ⟨h2, rfl⟩
/-- a longer row has the same pasts -/
theorem hereK_ext {s : Site} {r r' : List Nat} {acc : List (List Nat)} {p : Nat} {es : List Nat} (h : ∀ e ∈ es, r.getD e 0 = r'.getD e 0) (hp : r.getD p 0 = r'.getD p 0) : hereK s r acc p es = hereK s r' acc p es := by
  unfold hereK
  rw [hp]
  generalize [p] = ks
  induction es generalizing ks with
  | nil => rfl
  | cons e es ih =>
    rw [List.foldl_cons, List.foldl_cons, h e List.mem_cons_self]
    exact ih (fun e he => h e (List.mem_cons_of_mem _ he)) _
theorem pastsL_ext {s : Site} {r r' : List Nat} : ∀ n, (∀ e, e < n → r.getD e 0 = r'.getD e 0) → pastsL s r (List.range n) = pastsL s r' (List.range n)
  | 0, _ => rfl
  | n + 1, h => by
    rw [pastsL_snoc, pastsL_snoc, pastsL_ext n fun e he => h e (by omega), hereK_ext (fun e he => h e (by have := List.mem_range.mp he; omega)) (h n (by omega))]
theorem pastsL_at {s : Site} {r : List Nat} {p n : Nat} (hp : p < n) : ∀ m, (pastsL s r (List.range (n + m))).getD p [] = (pastsL s r (List.range n)).getD p []
  | 0 => rfl
  | m + 1 => by
    rw [← Nat.add_assoc, pastsL_snoc, getD_app1 (by rw [pastsL_len]; omega), pastsL_at hp m]
theorem pastsL_more {s : Site} {r t : List Nat} {p : Nat} (hp : p < r.length) : (pastsL s (r ++ t) (List.range (r ++ t).length)).getD p [] = (pastsL s r (List.range r.length)).getD p [] := by
  rw [List.length_append, pastsL_at hp, pastsL_ext (r' := r) r.length fun e he => getD_app1 he]
/-- the lot of a number's ones -/
def bitsL (m : Nat) : List Nat := (List.range (PySem.Builtin.Int.intBits (m : Int))).filter fun x => m.testBit x
theorem mem_bitsL {m x : Nat} : x ∈ bitsL m ↔ m.testBit x = true := by
  unfold bitsL
  rw [List.mem_filter, List.mem_range]
  exact ⟨fun h => h.2, fun h => ⟨bits_lt h, h⟩⟩
theorem bitsL_up (m : Nat) : (bitsL m).Pairwise (· < ·) := List.Pairwise.filter _ List.pairwise_lt_range
end LW

set_option Elab.async false
set_option linter.all false
set_option maxRecDepth 100000
set_option maxHeartbeats 4000000
namespace LW
open Ev
theorem enum_row (r : List Nat) : (r.zipIdx.map fun p => D.tup [dN p.2, dN p.1]) = (List.range r.length).map fun p => D.tup [dN p, dN (r.getD p 0)] := by
  refine List.ext_getElem? fun i => ?_
  simp only [List.getElem?_map, List.getElem?_zipIdx, List.getD_eq_getElem?_getD]
  by_cases hi : i < r.length
  · simp [hi]
  · simp [hi]
theorem range_split {n y : Nat} {ds rs : List Nat} (h : List.range n = ds ++ y :: rs) : ds = List.range y ∧ y < n := by
  have hl : ds.length < n := by
    have := congrArg List.length h
    simp at this
    omega
  have h1 : (List.range n)[ds.length]? = some y := by rw [h]; simp
  rw [List.getElem?_range hl] at h1
  have h1 := Option.some.inj h1
  refine ⟨?_, by omega⟩
  have h2 : (List.range n).take ds.length = ds := by rw [h]; simp
  rw [← h2, ← h1, List.take_range, Nat.min_eq_left (by omega)]
theorem row_lots {s : Site} (hS : s.Ok) {r : List Nat} (hr : ∀ w ∈ r, w < s.works.length) : ∀ e, e < r.length → ∀ d ∈ s.at (r.getD e 0), d < s.desks := by
  intro e he d hd
  have h1 : r.getD e 0 < s.works.length := by
    rw [← getD_get he]; exact hr _ (List.getElem_mem he)
  have h2 : s.at (r.getD e 0) ∈ s.works := by
    rw [← Site.at_get h1]; exact List.getElem_mem h1
  exact (hS.lot _ h2).1.2 d hd
def Site.his (s : Site) (r : List Nat) : His := hisL s r (List.range r.length)
theorem his_both {s : Site} (hS : s.Ok) {r : List Nat} (hr : ∀ w ∈ r, w < s.works.length) : Both s r r.length (pastsL s r (List.range r.length)) (s.his r) := both s r hS r.length (row_lots hS hr)
theorem History_init_ok (n : Nat) (s : Site) (hS : s.Ok) (r : List Nat) (hr : RowOk s r) : (dcall law.pg (n+2)).call 9 [true, false, false] [.nd (.obj 1 []) true [], s.off, tN r] = .ok D.non [(s.his r).d s true] := by
  have hr2 := hr.2
  have hd := hS.d6
  have eM : (dcall law.pg (n+1)).meth 1 0 = some 10 := rfl
  have fd : fldD 0 s.off = some (dN s.desks) := fld_desks s
  rw [dcall_succ law.pg (n+1) 9 _ _ (fd := F_History_init) rfl rfl]
  refine cW_eq ?_
  (simp [-List.getD_eq_getElem?_getD, -List.map_take, -List.map_drop, -List.map_reverse, q_takeM, q_dropM, q_revM, refsAt, env0, rfOf, isRf, fillR, putR, nm, nmL, setMany, asnD, wipeE, backE, partOf, path, D.get, fldP, posK, lstAt, isLst, F_History_init, cl_off, fr_off, fld_desks])
  refine w_lcM (List.range s.desks) (dN) (fun _ => D.non) (by first | with_reducible rfl | ((simp [-List.getD_eq_getElem?_getD, -List.map_take, -List.map_drop, -List.map_reverse, q_takeM, q_dropM, q_revM, refsAt, env0, rfOf, isRf, fillR, putR, nm, nmL, setMany, asnD, wipeE, backE, partOf, path, D.get, fldP, posK, lstAt, isLst]); done) | ((try (simp [-List.getD_eq_getElem?_getD, -List.map_take, -List.map_drop, -List.map_reverse, q_takeM, q_dropM, q_revM, refsAt, env0, rfOf, isRf, fillR, putR, nm, nmL, setMany, asnD, wipeE, backE, partOf, path, D.get, fldP, posK, lstAt, isLst])); first | with_reducible exact it_rng (by omega) | with_reducible exact it_rng1 (by omega) | with_reducible exact it_rng2 (by omega) (by omega) | with_reducible exact it_rngS (by simp <;> omega) (by omega) | with_reducible exact it_rng2S (by simp <;> omega) (by simp <;> omega) (by omega) (by omega) | with_reducible exact it_zipT _ _ _ _ (by (simp [-List.getD_eq_getElem?_getD, -List.map_take, -List.map_drop, -List.map_reverse, q_takeM, q_dropM, q_revM, refsAt, env0, rfOf, isRf, fillR, putR, nm, nmL, setMany, asnD, wipeE, backE, partOf, path, D.get, fldP, posK, lstAt, isLst])))) (by (simp [-List.getD_eq_getElem?_getD, -List.map_take, -List.map_drop, -List.map_reverse, q_takeM, q_dropM, q_revM, refsAt, env0, rfOf, isRf, fillR, putR, nm, nmL, setMany, asnD, wipeE, backE, partOf, path, D.get, fldP, posK, lstAt, isLst])) (by first | (have hz' := PySem.sizeLine_eq; omega) | (have hz' := PySem.sizeLine_eq; simp; omega)) (fun q hq => ?_) ?_
  · (simp [-List.getD_eq_getElem?_getD, -List.map_take, -List.map_drop, -List.map_reverse, q_takeM, q_dropM, q_revM, refsAt, env0, rfOf, isRf, fillR, putR, nm, nmL, setMany, asnD, wipeE, backE, partOf, path, D.get, fldP, posK, lstAt, isLst])
  (simp [-List.getD_eq_getElem?_getD, -List.map_take, -List.map_drop, -List.map_reverse, q_takeM, q_dropM, q_revM, refsAt, env0, rfOf, isRf, fillR, putR, nm, nmL, setMany, asnD, wipeE, backE, partOf, path, D.get, fldP, posK, lstAt, isLst, cl_off, fr_off, fld_desks])
  refine w_lcM (List.range s.desks) (dN) (fun _ => dN 0) (by first | with_reducible rfl | ((simp [-List.getD_eq_getElem?_getD, -List.map_take, -List.map_drop, -List.map_reverse, q_takeM, q_dropM, q_revM, refsAt, env0, rfOf, isRf, fillR, putR, nm, nmL, setMany, asnD, wipeE, backE, partOf, path, D.get, fldP, posK, lstAt, isLst]); done) | ((try (simp [-List.getD_eq_getElem?_getD, -List.map_take, -List.map_drop, -List.map_reverse, q_takeM, q_dropM, q_revM, refsAt, env0, rfOf, isRf, fillR, putR, nm, nmL, setMany, asnD, wipeE, backE, partOf, path, D.get, fldP, posK, lstAt, isLst])); first | with_reducible exact it_rng (by omega) | with_reducible exact it_rng1 (by omega) | with_reducible exact it_rng2 (by omega) (by omega) | with_reducible exact it_rngS (by simp <;> omega) (by omega) | with_reducible exact it_rng2S (by simp <;> omega) (by simp <;> omega) (by omega) (by omega) | with_reducible exact it_zipT _ _ _ _ (by (simp [-List.getD_eq_getElem?_getD, -List.map_take, -List.map_drop, -List.map_reverse, q_takeM, q_dropM, q_revM, refsAt, env0, rfOf, isRf, fillR, putR, nm, nmL, setMany, asnD, wipeE, backE, partOf, path, D.get, fldP, posK, lstAt, isLst])))) (by (simp [-List.getD_eq_getElem?_getD, -List.map_take, -List.map_drop, -List.map_reverse, q_takeM, q_dropM, q_revM, refsAt, env0, rfOf, isRf, fillR, putR, nm, nmL, setMany, asnD, wipeE, backE, partOf, path, D.get, fldP, posK, lstAt, isLst])) (by first | (have hz' := PySem.sizeLine_eq; omega) | (have hz' := PySem.sizeLine_eq; simp; omega)) (fun q hq => ?_) ?_
  · (simp [-List.getD_eq_getElem?_getD, -List.map_take, -List.map_drop, -List.map_reverse, q_takeM, q_dropM, q_revM, refsAt, env0, rfOf, isRf, fillR, putR, nm, nmL, setMany, asnD, wipeE, backE, partOf, path, D.get, fldP, posK, lstAt, isLst])
  (simp [-List.getD_eq_getElem?_getD, -List.map_take, -List.map_drop, -List.map_reverse, q_takeM, q_dropM, q_revM, refsAt, env0, rfOf, isRf, fillR, putR, nm, nmL, setMany, asnD, wipeE, backE, partOf, path, D.get, fldP, posK, lstAt, isLst, cl_off, fr_off, fld_desks])
  refine x_for (List.range r.length) (fun p => D.tup [dN p, dN (r.getD p 0)]) (fun ds ρ => ∃ o3 o4, ρ = [some ((hisL s r ds).d s true), some s.off, some (tN r), none, o3, o4]) (by rw [q_enT, enum_row]) (by (simp [-List.getD_eq_getElem?_getD, -List.map_take, -List.map_drop, -List.map_reverse, q_takeM, q_dropM, q_revM, refsAt, env0, rfOf, isRf, fillR, putR, nm, nmL, setMany, asnD, wipeE, backE, partOf, path, D.get, fldP, posK, lstAt, isLst])) (by (simp [-List.getD_eq_getElem?_getD, -List.map_take, -List.map_drop, -List.map_reverse, q_takeM, q_dropM, q_revM, refsAt, env0, rfOf, isRf, fillR, putR, nm, nmL, setMany, asnD, wipeE, backE, partOf, path, D.get, fldP, posK, lstAt, isLst])) rfl ?_ (fun ds y rs hs ρ0 hI => ?_) (fun ρ0 hI => ?_)
  · refine ⟨none, none, ?_⟩
    have e1 : (List.range s.desks).map (fun _ => D.non) = (List.replicate s.desks (none : Option Nat)).map oN := by simp [List.map_const', oN]
    have e2 : (List.range s.desks).map (fun _ => dN 0) = (List.replicate s.desks 0).map dN := by simp [List.map_const']
    rw [e1, e2]
    rfl
  · obtain ⟨o3, o4, rfl⟩ := hI
    obtain ⟨rfl, hy⟩ := range_split hs
    have hb := both s r hS y fun e he => row_lots hS hr.1 e (by omega)
    have hw : r.getD y 0 < s.works.length := by
      rw [← getD_get hy]; exact hr.1 _ (List.getElem_mem hy)
    have hp := put_ok n s hS (hisL s r (List.range y)) hb.ok (s.at (r.getD y 0)) (row_lots hS hr.1 y hy) (by rw [hb.lz]; omega)
    rw [hb.lz] at hp
    unfold His.d at hp ⊢
    have e3 : hisL s r (List.range y ++ [y]) = (hisL s r (List.range y)).put (s.at (r.getD y 0)) := by rw [← List.range_succ, hisL_snoc]
    (simp [-List.getD_eq_getElem?_getD, -List.map_take, -List.map_drop, -List.map_reverse, q_takeM, q_dropM, q_revM, refsAt, env0, rfOf, isRf, fillR, putR, nm, nmL, setMany, asnD, wipeE, backE, partOf, path, D.get, fldP, posK, lstAt, isLst, fld_works, idx_works hw, eM, hp, e3])
  · obtain ⟨o3, o4, rfl⟩ := hI
    (simp [-List.getD_eq_getElem?_getD, -List.map_take, -List.map_drop, -List.map_reverse, q_takeM, q_dropM, q_revM, refsAt, env0, rfOf, isRf, fillR, putR, nm, nmL, setMany, asnD, wipeE, backE, partOf, path, D.get, fldP, posK, lstAt, isLst])
    rfl
theorem check_row_ok (n : Nat) (s : Site) (h : s.Ok) (r : List Nat) (hr : RowOk s r) : (dcall law.pg (n+5)).call 8 [false, false] [s.off, tN r] = .ok D.non [] := by
  rw [dcall_succ law.pg (n+4) 8 _ _ (fd := F_check_row) rfl rfl]
  refine cW_eq ?_
  (simp [-List.getD_eq_getElem?_getD, -List.map_take, -List.map_drop, -List.map_reverse, q_takeM, q_dropM, q_revM, refsAt, env0, rfOf, isRf, fillR, putR, nm, nmL, setMany, asnD, wipeE, backE, partOf, path, D.get, fldP, posK, lstAt, isLst, F_check_row, cl_off, fr_off, is_row_of_ok n s h r hr])
theorem band_sh {m q : Nat} : binD .band (.at (.int ((m : Int) / 2 ^ q))) (.at (.int 1)) = some (dN (m / 2 ^ q % 2)) := by
  have := band_1 (m / 2 ^ q)
  rwa [Int.natCast_ediv, Int.natCast_pow] at this
theorem bit_z {m q : Nat} : (((m : Int) / 2 ^ q % 2) != 0) = m.testBit q := by
  rw [show ((m : Int) / 2 ^ q % 2) = ((m / 2 ^ q % 2 : Nat) : Int) by rw [Int.natCast_emod, Int.natCast_ediv, Int.natCast_pow]; rfl]
  rw [Bool.eq_iff_iff, ← bit_iff]
  have := Nat.mod_two_eq_zero_or_one (m / 2 ^ q)
  rcases this with h | h <;> rw [h] <;> simp
theorem bit_one {m q : Nat} : (((m : Int) / 2 ^ q % 2) == 1) = m.testBit q := by
  rw [show ((m : Int) / 2 ^ q % 2) = ((m / 2 ^ q % 2 : Nat) : Int) by rw [Int.natCast_emod, Int.natCast_ediv, Int.natCast_pow]; rfl]
  rw [Bool.eq_iff_iff, ← bit_iff]
  have := Nat.mod_two_eq_zero_or_one (m / 2 ^ q)
  rcases this with h | h <;> rw [h] <;> simp
theorem q_frzOL (xs : List (List Nat)) : D.frzL (xs.map (oM dN)) = xs.map (lM dN) := by
  rw [frzL_map, List.map_map]
  refine List.map_congr_left fun l _ => ?_
  show (D.nd .lst true (l.map dN)).frz = _
  rw [q_frz, q_frzN]
theorem q_clLN (xs : List (List Nat)) : D.cleanL (xs.map (lM dN)) = true := by
  rw [← q_frzOL]; exact frzL_clean _
theorem his_frz (s : Site) (z : His) (m : Bool) : (z.d s m).frz = z.d s false := by
  unfold His.d
  (simp [-List.getD_eq_getElem?_getD, -List.map_take, -List.map_drop, -List.map_reverse, q_takeM, q_dropM, q_revM, refsAt, env0, rfOf, isRf, fillR, putR, nm, nmL, setMany, asnD, wipeE, backE, partOf, path, D.get, fldP, posK, lstAt, isLst, fr_off])
theorem his_pasts (s : Site) (z : His) (m : Bool) : fldD 5 (z.d s m) = some (.nd .lst m (z.pasts.map dN)) := rfl
theorem his_clean (s : Site) (z : His) : (z.d s false).clean = true := by
  rw [← his_frz s z true]; exact frz_clean _
theorem bits_le {m n : Nat} (h : ∀ x, m.testBit x = true → x < n) : PySem.Builtin.Int.intBits (m : Int) ≤ n := by
  have h1 : m < 2 ^ n := Nat.lt_pow_two_of_testBit m fun i hi => by
    cases hb : m.testBit i with
    | false => rfl
    | true => have := h i hb; omega
  unfold PySem.Builtin.Int.intBits
  by_cases h0 : m = 0
  · subst h0; simp
  have e : (((m : Int)) == 0) = false := by simpa using h0
  rw [e]
  simp only [Bool.false_eq_true, if_false, Int.natAbs_natCast]
  have := (Nat.log2_lt h0).mpr h1
  omega
theorem meets_ok (n : Nat) (s : Site) (hS : s.Ok) (a b : Nat) (ha : a < s.works.length) (hb : b < s.works.length) : (dcall law.pg (n+1)).call 19 [false, false, false] [s.d, dN a, dN b] = .ok (dB (s.mt a b)) [] := by
  have h1 : (s.at a).length ≤ 6 := by
    have := (hS.lot (s.at a) (by rw [← Site.at_get ha]; exact List.getElem_mem ha)).1.le
    have := hS.d6
    omega
  rw [dcall_succ law.pg n 19 _ _ (fd := F_law_meets) rfl rfl]
  refine cW_eq ?_
  (simp [-List.getD_eq_getElem?_getD, -List.map_take, -List.map_drop, -List.map_reverse, q_takeM, q_dropM, q_revM, refsAt, env0, rfOf, isRf, fillR, putR, nm, nmL, setMany, asnD, wipeE, backE, partOf, path, D.get, fldP, posK, lstAt, isLst, F_law_meets, site_cl, site_fr, site_1, idx_works ha])
  refine w_lcM (s.at a) (dN) (fun d => dB (decide (d ∈ s.at b))) (by first | with_reducible rfl | ((simp [-List.getD_eq_getElem?_getD, -List.map_take, -List.map_drop, -List.map_reverse, q_takeM, q_dropM, q_revM, refsAt, env0, rfOf, isRf, fillR, putR, nm, nmL, setMany, asnD, wipeE, backE, partOf, path, D.get, fldP, posK, lstAt, isLst]); done) | ((try (simp [-List.getD_eq_getElem?_getD, -List.map_take, -List.map_drop, -List.map_reverse, q_takeM, q_dropM, q_revM, refsAt, env0, rfOf, isRf, fillR, putR, nm, nmL, setMany, asnD, wipeE, backE, partOf, path, D.get, fldP, posK, lstAt, isLst])); first | with_reducible exact it_rng (by omega) | with_reducible exact it_rng1 (by omega) | with_reducible exact it_rng2 (by omega) (by omega) | with_reducible exact it_rngS (by simp <;> omega) (by omega) | with_reducible exact it_rng2S (by simp <;> omega) (by simp <;> omega) (by omega) (by omega) | with_reducible exact it_zipT _ _ _ _ (by (simp [-List.getD_eq_getElem?_getD, -List.map_take, -List.map_drop, -List.map_reverse, q_takeM, q_dropM, q_revM, refsAt, env0, rfOf, isRf, fillR, putR, nm, nmL, setMany, asnD, wipeE, backE, partOf, path, D.get, fldP, posK, lstAt, isLst])))) (by (simp [-List.getD_eq_getElem?_getD, -List.map_take, -List.map_drop, -List.map_reverse, q_takeM, q_dropM, q_revM, refsAt, env0, rfOf, isRf, fillR, putR, nm, nmL, setMany, asnD, wipeE, backE, partOf, path, D.get, fldP, posK, lstAt, isLst])) (by first | (have hz' := PySem.sizeLine_eq; omega) | (have hz' := PySem.sizeLine_eq; simp; omega)) (fun q hq => ?_) ?_
  · (simp [-List.getD_eq_getElem?_getD, -List.map_take, -List.map_drop, -List.map_reverse, q_takeM, q_dropM, q_revM, refsAt, env0, rfOf, isRf, fillR, putR, nm, nmL, setMany, asnD, wipeE, backE, partOf, path, D.get, fldP, posK, lstAt, isLst, site_cl, site_fr, site_1, idx_works hb])
  (simp [-List.getD_eq_getElem?_getD, -List.map_take, -List.map_drop, -List.map_reverse, q_takeM, q_dropM, q_revM, refsAt, env0, rfOf, isRf, fillR, putR, nm, nmL, setMany, asnD, wipeE, backE, partOf, path, D.get, fldP, posK, lstAt, isLst])
  rfl
theorem isort_len (xs : List Nat) : (sortN xs).length = xs.length := by
  unfold sortN
  rw [List.length_map, (isort_perm _).length_eq, List.length_map]
theorem nd_len {l : List Nat} {n : Nat} (h : l.Nodup) (hb : ∀ x ∈ l, x < n) : l.length ≤ n := by
  have h1 : Lot n (sortN l) := ⟨sortN_lt h, fun x hx => hb x (mem_sortN.mp hx)⟩
  have := h1.le
  rwa [isort_len] at this
theorem hereK_snoc (s : Site) (r : List Nat) (acc : List (List Nat)) (p : Nat) (es : List Nat) (e : Nat) : hereK s r acc p (es ++ [e]) = if s.mt (r.getD e 0) (r.getD p 0) = true then addKs (hereK s r acc p es) (acc.getD e []) else hereK s r acc p es := by
  unfold hereK
  rw [List.foldl_append]
  rfl
theorem idx_OL {xs : List (List Nat)} {i : Nat} (h : i < xs.length) {m : Bool} : idxD (.nd .lst m (xs.map (oM dN))) (.at (.int i)) = some (oM dN (xs.getD i [])) := by
  rw [← getD_get h]; exact idx_mapL h
theorem idx_LL {xs : List (List Nat)} {i : Nat} (h : i < xs.length) {m : Bool} : idxD (.nd .lst m (xs.map (lM dN))) (.at (.int i)) = some (lM dN (xs.getD i [])) := by
  rw [← getD_get h]; exact idx_mapL h
theorem pasts_ok (n : Nat) (s : Site) (hS : s.Ok) (r : List Nat) (hr : RowOk s r) : (dcall law.pg (n+2)).call 20 [false, false] [s.d, tN r] = .ok (.nd .lst true ((pastsL s r (List.range r.length)).map (oM dN))) [] := by
  have hr2 := hr.2
  have hsz := PySem.sizeLine_eq
  rw [dcall_succ law.pg (n+1) 20 _ _ (fd := F_law_pasts) rfl rfl]
  refine cW_eq ?_
  (simp [-List.getD_eq_getElem?_getD, -List.map_take, -List.map_drop, -List.map_reverse, q_takeM, q_dropM, q_revM, refsAt, env0, rfOf, isRf, fillR, putR, nm, nmL, setMany, asnD, wipeE, backE, partOf, path, D.get, fldP, posK, lstAt, isLst, F_law_pasts, site_cl, site_fr])
  refine x_for (List.range r.length) (dN) (fun ds ρ => ∃ o3 o4 o5, ρ = [some s.d, some (tN r), some (oM (oM dN) (pastsL s r ds)), o3, o4, o5, none]) (by first | with_reducible rfl | ((simp [-List.getD_eq_getElem?_getD, -List.map_take, -List.map_drop, -List.map_reverse, q_takeM, q_dropM, q_revM, refsAt, env0, rfOf, isRf, fillR, putR, nm, nmL, setMany, asnD, wipeE, backE, partOf, path, D.get, fldP, posK, lstAt, isLst]); done) | ((try (simp [-List.getD_eq_getElem?_getD, -List.map_take, -List.map_drop, -List.map_reverse, q_takeM, q_dropM, q_revM, refsAt, env0, rfOf, isRf, fillR, putR, nm, nmL, setMany, asnD, wipeE, backE, partOf, path, D.get, fldP, posK, lstAt, isLst])); first | with_reducible exact it_rng (by omega) | with_reducible exact it_rng1 (by omega) | with_reducible exact it_rng2 (by omega) (by omega) | with_reducible exact it_rngS (by simp <;> omega) (by omega) | with_reducible exact it_rng2S (by simp <;> omega) (by simp <;> omega) (by omega) (by omega) | with_reducible exact it_zipT _ _ _ _ (by (simp [-List.getD_eq_getElem?_getD, -List.map_take, -List.map_drop, -List.map_reverse, q_takeM, q_dropM, q_revM, refsAt, env0, rfOf, isRf, fillR, putR, nm, nmL, setMany, asnD, wipeE, backE, partOf, path, D.get, fldP, posK, lstAt, isLst])))) (by (simp [-List.getD_eq_getElem?_getD, -List.map_take, -List.map_drop, -List.map_reverse, q_takeM, q_dropM, q_revM, refsAt, env0, rfOf, isRf, fillR, putR, nm, nmL, setMany, asnD, wipeE, backE, partOf, path, D.get, fldP, posK, lstAt, isLst])) (by (simp [-List.getD_eq_getElem?_getD, -List.map_take, -List.map_drop, -List.map_reverse, q_takeM, q_dropM, q_revM, refsAt, env0, rfOf, isRf, fillR, putR, nm, nmL, setMany, asnD, wipeE, backE, partOf, path, D.get, fldP, posK, lstAt, isLst])) rfl ?_ (fun ds y rs hs ρ0 hI => ?_) (fun ρ0 hI => ?_)
  · exact ⟨_, _, _, rfl⟩
  · obtain ⟨o3, o4, o5, rfl⟩ := hI
    obtain ⟨rfl, hy⟩ := range_split hs
    have hB := both s r hS y fun e he => row_lots hS hr.1 e (by omega)
    obtain ⟨P, hP⟩ : ∃ P, P = pastsL s r (List.range y) := ⟨_, rfl⟩
    have hPl : P.length = y := by rw [hP, pastsL_len]
    have hsn : pastsL s r (List.range y ++ [y]) = P ++ [sortN (hereK s r P y (List.range y))] := by rw [← List.range_succ, pastsL_snoc, hP]
    rw [← hP] at hB
    rw [← hP]
    (simp [-List.getD_eq_getElem?_getD, -List.map_take, -List.map_drop, -List.map_reverse, q_takeM, q_dropM, q_revM, refsAt, env0, rfOf, isRf, fillR, putR, nm, nmL, setMany, asnD, wipeE, backE, partOf, path, D.get, fldP, posK, lstAt, isLst, site_cl, site_fr, hsn])
    refine x_for (List.range y) dN (fun es ρ => ∃ o5, ρ = [some s.d, some (tN r), some (oM (oM dN) P), some (dN y), some (dS true (hereK s r P y es)), o5, none]) (by first | with_reducible rfl | ((simp [-List.getD_eq_getElem?_getD, -List.map_take, -List.map_drop, -List.map_reverse, q_takeM, q_dropM, q_revM, refsAt, env0, rfOf, isRf, fillR, putR, nm, nmL, setMany, asnD, wipeE, backE, partOf, path, D.get, fldP, posK, lstAt, isLst]); done) | ((try (simp [-List.getD_eq_getElem?_getD, -List.map_take, -List.map_drop, -List.map_reverse, q_takeM, q_dropM, q_revM, refsAt, env0, rfOf, isRf, fillR, putR, nm, nmL, setMany, asnD, wipeE, backE, partOf, path, D.get, fldP, posK, lstAt, isLst])); first | with_reducible exact it_rng (by omega) | with_reducible exact it_rng1 (by omega) | with_reducible exact it_rng2 (by omega) (by omega) | with_reducible exact it_rngS (by simp <;> omega) (by omega) | with_reducible exact it_rng2S (by simp <;> omega) (by simp <;> omega) (by omega) (by omega) | with_reducible exact it_zipT _ _ _ _ (by (simp [-List.getD_eq_getElem?_getD, -List.map_take, -List.map_drop, -List.map_reverse, q_takeM, q_dropM, q_revM, refsAt, env0, rfOf, isRf, fillR, putR, nm, nmL, setMany, asnD, wipeE, backE, partOf, path, D.get, fldP, posK, lstAt, isLst])))) (by (simp [-List.getD_eq_getElem?_getD, -List.map_take, -List.map_drop, -List.map_reverse, q_takeM, q_dropM, q_revM, refsAt, env0, rfOf, isRf, fillR, putR, nm, nmL, setMany, asnD, wipeE, backE, partOf, path, D.get, fldP, posK, lstAt, isLst])) (by (simp [-List.getD_eq_getElem?_getD, -List.map_take, -List.map_drop, -List.map_reverse, q_takeM, q_dropM, q_revM, refsAt, env0, rfOf, isRf, fillR, putR, nm, nmL, setMany, asnD, wipeE, backE, partOf, path, D.get, fldP, posK, lstAt, isLst])) rfl ?_ (fun es e rs2 hs2 ρ0 hI => ?_) (fun ρ0 hI => ?_)
    · exact ⟨_, rfl⟩
    · obtain ⟨o5, rfl⟩ := hI
      obtain ⟨rfl, he⟩ := range_split hs2
      have hwe : r.getD e 0 < s.works.length := by
        rw [← getD_get (by omega : e < r.length)]; exact hr.1 _ (List.getElem_mem _)
      have hwy : r.getD y 0 < s.works.length := by
        rw [← getD_get hy]; exact hr.1 _ (List.getElem_mem _)
      have hl1 : (hereK s r P y (List.range e)).length ≤ 1000 := by
        have := nd_len (n := y + 1) (nd_hereK s r P y (List.range e) [y] (by simp)) fun x hx => by
          rcases (mem_hereK s r P y x e).mp hx with rfl | ⟨e', h1, _, h3⟩
          · omega
          · have := hB.le e' (by omega) x h3; omega
        unfold hereK
        omega
      have hl2 : (P.getD e []).length ≤ 1000 := by
        have h1 : Lot (e + 1) (P.getD e []) := ⟨hB.up e he, fun x hx => by have := hB.le e he x hx; omega⟩
        have := h1.le
        omega
      (simp [-List.getD_eq_getElem?_getD, -List.map_take, -List.map_drop, -List.map_reverse, q_takeM, q_dropM, q_revM, refsAt, env0, rfOf, isRf, fillR, putR, nm, nmL, setMany, asnD, wipeE, backE, partOf, path, D.get, fldP, posK, lstAt, isLst, site_cl, site_fr, idx_N hy, idx_N (by omega : e < r.length), meets_ok n s hS _ _ hwe hwy, hereK_snoc])
      refine x_if (fun hc => ?_) (fun hc => ?_)
      · have e1 := idx_OL (xs := P) (i := e) (by omega) (m := true)
        have e2 : updD (dS true (hereK s r P y (List.range e))) (.nd .lst true ((P.getD e []).map fun k => D.tup [dN k, D.bl true])) = some (dS true (addKs (hereK s r P y (List.range e)) (P.getD e []))) := updD_S _ _ (by show decide _ = true; rw [decide_eq_true_eq]; omega)
        (simp [-List.getD_eq_getElem?_getD, -List.map_take, -List.map_drop, -List.map_reverse, q_takeM, q_dropM, q_revM, refsAt, env0, rfOf, isRf, fillR, putR, nm, nmL, setMany, asnD, wipeE, backE, partOf, path, D.get, fldP, posK, lstAt, isLst, hc, dS, e1])
        refine w_lcM (P.getD e []) (dN) (fun k => D.tup [dN k, D.bl true]) (by first | with_reducible rfl | ((simp [-List.getD_eq_getElem?_getD, -List.map_take, -List.map_drop, -List.map_reverse, q_takeM, q_dropM, q_revM, refsAt, env0, rfOf, isRf, fillR, putR, nm, nmL, setMany, asnD, wipeE, backE, partOf, path, D.get, fldP, posK, lstAt, isLst]); done) | ((try (simp [-List.getD_eq_getElem?_getD, -List.map_take, -List.map_drop, -List.map_reverse, q_takeM, q_dropM, q_revM, refsAt, env0, rfOf, isRf, fillR, putR, nm, nmL, setMany, asnD, wipeE, backE, partOf, path, D.get, fldP, posK, lstAt, isLst])); first | with_reducible exact it_rng (by omega) | with_reducible exact it_rng1 (by omega) | with_reducible exact it_rng2 (by omega) (by omega) | with_reducible exact it_rngS (by simp <;> omega) (by omega) | with_reducible exact it_rng2S (by simp <;> omega) (by simp <;> omega) (by omega) (by omega) | with_reducible exact it_zipT _ _ _ _ (by (simp [-List.getD_eq_getElem?_getD, -List.map_take, -List.map_drop, -List.map_reverse, q_takeM, q_dropM, q_revM, refsAt, env0, rfOf, isRf, fillR, putR, nm, nmL, setMany, asnD, wipeE, backE, partOf, path, D.get, fldP, posK, lstAt, isLst])))) (by (simp [-List.getD_eq_getElem?_getD, -List.map_take, -List.map_drop, -List.map_reverse, q_takeM, q_dropM, q_revM, refsAt, env0, rfOf, isRf, fillR, putR, nm, nmL, setMany, asnD, wipeE, backE, partOf, path, D.get, fldP, posK, lstAt, isLst])) (by first | (have hz' := PySem.sizeLine_eq; omega) | (have hz' := PySem.sizeLine_eq; simp; omega)) (fun q hq => ?_) ?_
        · (simp [-List.getD_eq_getElem?_getD, -List.map_take, -List.map_drop, -List.map_reverse, q_takeM, q_dropM, q_revM, refsAt, env0, rfOf, isRf, fillR, putR, nm, nmL, setMany, asnD, wipeE, backE, partOf, path, D.get, fldP, posK, lstAt, isLst])
        have e3 : updD (.nd (.dk ((hereK s r P y (List.range e)).map kN)) true ((hereK s r P y (List.range e)).map fun _ => D.bl true)) (.nd .lst true ((P.getD e []).map fun k => D.tup [dN k, D.bl true])) = some (.nd (.dk ((addKs (hereK s r P y (List.range e)) (P.getD e [])).map kN)) true ((addKs (hereK s r P y (List.range e)) (P.getD e [])).map fun _ => D.bl true)) := e2
        (simp [-List.getD_eq_getElem?_getD, -List.map_take, -List.map_drop, -List.map_reverse, q_takeM, q_dropM, q_revM, refsAt, env0, rfOf, isRf, fillR, putR, nm, nmL, setMany, asnD, wipeE, backE, partOf, path, D.get, fldP, posK, lstAt, isLst, e3])
      · (simp [-List.getD_eq_getElem?_getD, -List.map_take, -List.map_drop, -List.map_reverse, q_takeM, q_dropM, q_revM, refsAt, env0, rfOf, isRf, fillR, putR, nm, nmL, setMany, asnD, wipeE, backE, partOf, path, D.get, fldP, posK, lstAt, isLst, hc])
    · obtain ⟨o5, rfl⟩ := hI
      have hlen : P.length < PySem.sizeLine := by omega
      (simp [-List.getD_eq_getElem?_getD, -List.map_take, -List.map_drop, -List.map_reverse, q_takeM, q_dropM, q_revM, refsAt, env0, rfOf, isRf, fillR, putR, nm, nmL, setMany, asnD, wipeE, backE, partOf, path, D.get, fldP, posK, lstAt, isLst, q_listS, q_sortN, b_app, hlen])
  · obtain ⟨o3, o4, o5, rfl⟩ := hI
    (simp [-List.getD_eq_getElem?_getD, -List.map_take, -List.map_drop, -List.map_reverse, q_takeM, q_dropM, q_revM, refsAt, env0, rfOf, isRf, fillR, putR, nm, nmL, setMany, asnD, wipeE, backE, partOf, path, D.get, fldP, posK, lstAt, isLst])
end LW

set_option Elab.async false
set_option linter.all false
set_option maxRecDepth 100000
set_option maxHeartbeats 4000000
/-! views, last events -/
namespace LW
open Ev
/-- the greatest of some numbers -/
def maxO : List Nat → Option Nat
  | [] => none
  | x :: xs => some (xs.foldl max x)
theorem foldl_maxN : ∀ (is : List Nat) (i : Nat), (is.foldl max i ∈ i :: is) ∧ ∀ y ∈ i :: is, y ≤ is.foldl max i
  | [], i => ⟨by simp, by simp⟩
  | j :: is, i => by
    obtain ⟨h1, h2⟩ := foldl_maxN is (max i j)
    rw [List.foldl_cons]
    have h3 := h2 (max i j) (by simp)
    refine ⟨?_, fun y hy => ?_⟩
    · rcases List.mem_cons.mp h1 with e | e
      · rw [e]
        rcases Nat.le_total i j with q | q
        · rw [Nat.max_eq_right q]; simp
        · rw [Nat.max_eq_left q]; simp
      · simp [e]
    · simp only [List.mem_cons] at hy
      rcases hy with rfl | rfl | hy
      · exact Nat.le_trans (Nat.le_max_left _ _) h3
      · exact Nat.le_trans (Nat.le_max_right _ _) h3
      · exact h2 y (by simp [hy])
theorem maxO_some {l : List Nat} {k : Nat} : maxO l = some k ↔ k ∈ l ∧ ∀ x ∈ l, x ≤ k := by
  cases l with
  | nil => simp [maxO]
  | cons x xs =>
    obtain ⟨h1, h2⟩ := foldl_maxN xs x
    constructor
    · intro h
      cases h
      exact ⟨h1, h2⟩
    · rintro ⟨h3, h4⟩
      show some (xs.foldl max x) = some k
      rw [Nat.le_antisymm (h4 _ h1) (h2 _ h3)]
theorem maxO_none {l : List Nat} : maxO l = none ↔ l = [] := by
  cases l with
  | nil => simp [maxO]
  | cons x xs => simp [maxO]
theorem maxO_congr {l l' : List Nat} (h : ∀ x, x ∈ l ↔ x ∈ l') : maxO l = maxO l' := by
  cases e : maxO l' with
  | none =>
    rw [maxO_none] at e ⊢
    subst e
    exact List.eq_nil_iff_forall_not_mem.mpr fun x hx => by simpa using (h x).mp hx
  | some k =>
    rw [maxO_some] at e ⊢
    exact ⟨(h k).mpr e.1, fun x hx => e.2 x ((h x).mp hx)⟩
/-- the last of some events that is one of a desk -/
def lastL (s : Site) (r ev : List Nat) (d : Nat) : Option Nat := maxO (ev.filter fun e => decide (d ∈ s.at (r.getD e 0)))
theorem lastL_some {s : Site} {r ev : List Nat} {d k : Nat} : lastL s r ev d = some k ↔ (k ∈ ev ∧ d ∈ s.at (r.getD k 0)) ∧ ∀ x ∈ ev, d ∈ s.at (r.getD x 0) → x ≤ k := by
  unfold lastL
  rw [maxO_some]
  simp only [List.mem_filter, decide_eq_true_eq, and_imp]
theorem lastL_none {s : Site} {r ev : List Nat} {d : Nat} : lastL s r ev d = none ↔ ∀ x ∈ ev, d ∉ s.at (r.getD x 0) := by
  unfold lastL
  rw [maxO_none, List.filter_eq_nil_iff]
  simp only [decide_eq_true_eq]
theorem lastL_congr {s : Site} {r ev ev' : List Nat} {d : Nat} (h : ∀ x, d ∈ s.at (r.getD x 0) → (x ∈ ev ↔ x ∈ ev')) : lastL s r ev d = lastL s r ev' d := by
  unfold lastL
  refine maxO_congr fun x => ?_
  simp only [List.mem_filter, decide_eq_true_eq]
  constructor
  · rintro ⟨h1, h2⟩; exact ⟨(h x h2).mp h1, h2⟩
  · rintro ⟨h1, h2⟩; exact ⟨(h x h2).mpr h1, h2⟩
/-- .. of a number's ones -/
def lastB (m : Nat) : Option Nat := if 0 < m then some (PySem.Builtin.Int.intBits (m : Int) - 1) else none
theorem bits_top {m : Nat} (h : 0 < m) : m.testBit (PySem.Builtin.Int.intBits (m : Int) - 1) = true ∧ ∀ x, m.testBit x = true → x ≤ PySem.Builtin.Int.intBits (m : Int) - 1 := by
  have e : PySem.Builtin.Int.intBits (m : Int) = m.log2 + 1 := by
    unfold PySem.Builtin.Int.intBits
    have : (((m : Int)) == 0) = false := by simp; omega
    rw [this]
    simp
  refine ⟨?_, fun x hx => by have := bits_lt hx; omega⟩
  rw [e, Nat.add_sub_cancel]
  have h1 : 2 ^ m.log2 ≤ m := Nat.log2_self_le (by omega)
  have h2 : m < 2 ^ (m.log2 + 1) := Nat.lt_log2_self
  rw [← bit_iff]
  have h3 : m / 2 ^ m.log2 = 1 := by
    apply Nat.div_eq_of_lt_le
    · omega
    · rw [Nat.pow_succ] at h2; omega
  rw [h3]
theorem maxO_bits {l : List Nat} {m : Nat} (h : ∀ x, x ∈ l ↔ m.testBit x = true) : maxO l = lastB m := by
  unfold lastB
  by_cases hm : 0 < m
  · rw [if_pos hm, maxO_some]
    obtain ⟨h1, h2⟩ := bits_top hm
    exact ⟨(h _).mpr h1, fun x hx => h2 x ((h x).mp hx)⟩
  · rw [if_neg hm, maxO_none]
    have : m = 0 := by omega
    subst this
    exact List.eq_nil_iff_forall_not_mem.mpr fun x hx => by simpa using (h x).mp hx
theorem last_eq {s : Site} {r : List Nat} {n : Nat} {P : List (List Nat)} {z : His} (hB : Both s r n P z) {ev : List Nat} {m d : Nat} (hd : d < s.desks) (h : ∀ x, x ∈ ev ↔ m.testBit x = true) (hn : ∀ x ∈ ev, x < n) : lastB (m &&& z.events.getD d 0) = lastL s r ev d := by
  unfold lastL
  refine (maxO_bits fun x => ?_).symm
  rw [Nat.testBit_and, Bool.and_eq_true, hB.ev d hd x, List.mem_filter, decide_eq_true_eq, h x]
  constructor
  · rintro ⟨h1, h2⟩; exact ⟨h1, hn x ((h x).mpr h1), h2⟩
  · rintro ⟨h1, h2, h3⟩; exact ⟨h1, h3⟩
/-- the keys of the view of a lot -/
def viewK (s : Site) (r : List Nat) (P : List (List Nat)) (L : List Nat) (ps : List Nat) : List Nat :=
  ps.foldl (fun ks p => if s.meet L (s.at (r.getD p 0)) = true then addKs ks (P.getD p []) else ks) []
theorem viewK_snoc (s : Site) (r : List Nat) (P : List (List Nat)) (L ps : List Nat) (p : Nat) : viewK s r P L (ps ++ [p]) = if s.meet L (s.at (r.getD p 0)) = true then addKs (viewK s r P L ps) (P.getD p []) else viewK s r P L ps := by
  unfold viewK
  rw [List.foldl_append]
  rfl
theorem meet_iff {s : Site} {L M : List Nat} : s.meet L M = true ↔ ∃ d, d ∈ L ∧ d ∈ M := by
  unfold Site.meet
  rw [List.any_eq_true]
  constructor
  · rintro ⟨d, h1, h2⟩; exact ⟨d, h1, of_decide_eq_true h2⟩
  · rintro ⟨d, h1, h2⟩; exact ⟨d, h1, decide_eq_true h2⟩
theorem mem_viewK (s : Site) (r : List Nat) (P : List (List Nat)) (L : List Nat) (x n : Nat) : x ∈ viewK s r P L (List.range n) ↔ ∃ p, p < n ∧ (∃ d, d ∈ L ∧ d ∈ s.at (r.getD p 0)) ∧ x ∈ P.getD p [] := by
  induction n with
  | zero => unfold viewK; simp
  | succ n ih =>
    rw [List.range_succ, viewK_snoc]
    by_cases hm : s.meet L (s.at (r.getD n 0)) = true
    · rw [if_pos hm, mem_addKs, ih]
      constructor
      · rintro (⟨p, h1, h2, h3⟩ | h)
        · exact ⟨p, by omega, h2, h3⟩
        · exact ⟨n, by omega, meet_iff.mp hm, h⟩
      · rintro ⟨p, h1, h2, h3⟩
        by_cases hp : p = n
        · subst hp; exact .inr h3
        · exact .inl ⟨p, by omega, h2, h3⟩
    · rw [if_neg hm, ih]
      constructor
      · rintro ⟨p, h1, h2, h3⟩; exact ⟨p, by omega, h2, h3⟩
      · rintro ⟨p, h1, h2, h3⟩
        by_cases hp : p = n
        · subst hp; exact absurd (meet_iff.mpr h2) hm
        · exact ⟨p, by omega, h2, h3⟩
theorem nd_viewK (s : Site) (r : List Nat) (P : List (List Nat)) (L : List Nat) (n : Nat) : (viewK s r P L (List.range n)).Nodup := by
  induction n with
  | zero => unfold viewK; simp
  | succ n ih =>
    rw [List.range_succ, viewK_snoc]
    split
    · exact nd_addKs ih
    · exact ih
def viewL (s : Site) (r : List Nat) (P : List (List Nat)) (L : List Nat) : List Nat := sortN (viewK s r P L (List.range r.length))
theorem mem_viewL {s : Site} {r : List Nat} {P : List (List Nat)} {L : List Nat} {x : Nat} : x ∈ viewL s r P L ↔ ∃ p, p < r.length ∧ (∃ d, d ∈ L ∧ d ∈ s.at (r.getD p 0)) ∧ x ∈ P.getD p [] := by
  unfold viewL
  rw [mem_sortN, mem_viewK]
theorem view_bits {s : Site} {r : List Nat} {P : List (List Nat)} {z : His} (hB : Both s r r.length P z) {L : List Nat} (hL : ∀ d ∈ L, d < s.desks) (x : Nat) : x ∈ viewL s r P L ↔ (L.foldl z.or 0).testBit x = true := by
  rw [mem_viewL, or_bits]
  simp only [Nat.zero_testBit, Bool.false_eq_true, false_or]
  constructor
  · rintro ⟨p, hp, ⟨d, h1, h2⟩, hx⟩
    cases hk : z.lasts.getD d none with
    | none => exact absurd h2 (hB.no d (hL d h1) hk p hp)
    | some k =>
      have hkn := hB.ok.l3 d k hk
      rw [hB.lz] at hkn
      exact ⟨d, h1, k, hk, (hB.bit k hkn x).mp (((hB.last d k (hL d h1) hk).2 p hp h2).2 x hx)⟩
  · rintro ⟨d, h1, k, hk, hx⟩
    have hkn := hB.ok.l3 d k hk
    rw [hB.lz] at hkn
    exact ⟨k, hkn, ⟨d, h1, (hB.last d k (hL d h1) hk).1⟩, (hB.bit k hkn x).mpr hx⟩
theorem view_lt {s : Site} {r : List Nat} {P : List (List Nat)} {z : His} (hB : Both s r r.length P z) {L : List Nat} {x : Nat} (h : x ∈ viewL s r P L) : x < r.length := by
  obtain ⟨p, hp, _, hx⟩ := mem_viewL.mp h
  have := hB.le p hp x hx
  omega
/-- the last events in the past of an event -/
def pastO (P : List (List Nat)) : Option Nat → List Nat
  | none => []
  | some k => P.getD k []
def lastsL (s : Site) (r ev : List Nat) : List (Option Nat) := (List.range s.desks).map (lastL s r ev)
def behindL (s : Site) (r : List Nat) (P : List (List Nat)) (o : Option Nat) : List (Option Nat) := lastsL s r (pastO P o)
def firstL (s : Site) (r : List Nat) (P : List (List Nat)) (d : Nat) : List (Option Nat) := lastsL s r (viewL s r P [d])
def secondL (s : Site) (r : List Nat) (P : List (List Nat)) (d : Nat) : List (List (Option Nat)) := (firstL s r P d).map (behindL s r P)
def thirdL (s : Site) (r : List Nat) (P : List (List Nat)) (d : Nat) : List (List (List (Option Nat))) := (secondL s r P d).map fun os => os.map (behindL s r P)
theorem lastsL_len (s : Site) (r ev : List Nat) : (lastsL s r ev).length = s.desks := by unfold lastsL; simp
theorem lastsL_get {s : Site} {r ev : List Nat} {d : Nat} (hd : d < s.desks) : (lastsL s r ev).getD d none = lastL s r ev d := by
  unfold lastsL
  rw [List.getD_eq_getElem?_getD, List.getElem?_map, List.getElem?_range hd]
  rfl
theorem lastsL_congr {s : Site} {r ev ev' : List Nat} (h : ∀ x, x ∈ ev ↔ x ∈ ev') : lastsL s r ev = lastsL s r ev' := by
  unfold lastsL
  exact List.map_congr_left fun d _ => lastL_congr fun x _ => h x
theorem lastsL_mem {s : Site} {r ev : List Nat} {k : Nat} (h : some k ∈ lastsL s r ev) : k ∈ ev := by
  unfold lastsL at h
  obtain ⟨d, _, e⟩ := List.mem_map.mp h
  exact (lastL_some.mp e).1.1
/-- a desk's own last event of all -/
theorem own_last {s : Site} {r : List Nat} {P : List (List Nat)} {z : His} (hB : Both s r r.length P z) {d : Nat} : lastL s r (viewL s r P [d]) d = lastL s r (List.range r.length) d := by
  refine lastL_congr fun x hx => ?_
  rw [List.mem_range]
  constructor
  · exact view_lt hB
  · intro h
    exact mem_viewL.mpr ⟨x, h, ⟨d, by simp, hx⟩, hB.self x h⟩
/-- its view is that event's past -/
theorem own_view {s : Site} {r : List Nat} {P : List (List Nat)} {z : His} (hB : Both s r r.length P z) {d k : Nat} (hd : d < s.desks) (h : lastL s r (viewL s r P [d]) d = some k) (x : Nat) : x ∈ viewL s r P [d] ↔ x ∈ P.getD k [] := by
  obtain ⟨⟨h1, h2⟩, h3⟩ := lastL_some.mp h
  have hk := view_lt hB h1
  rw [mem_viewL]
  constructor
  · rintro ⟨p, hp, ⟨d', h4, h5⟩, hx⟩
    have : d' = d := by simpa using h4
    subst this
    cases hl : z.lasts.getD d' none with
    | none => exact absurd h2 (hB.no d' hd hl k hk)
    | some q =>
      have hqn := hB.ok.l3 d' q hl
      rw [hB.lz] at hqn
      obtain ⟨g1, g2⟩ := hB.last d' q hd hl
      have e1 := (g2 k hk h2).1
      have e2 := h3 q (mem_viewL.mpr ⟨q, hqn, ⟨d', by simp, g1⟩, hB.self q hqn⟩) g1
      have e3 : q = k := by omega
      subst e3
      exact (g2 p hp h5).2 x hx
  · intro hx
    exact ⟨k, hk, ⟨d, by simp, h2⟩, hx⟩
theorem second_own {s : Site} {r : List Nat} {P : List (List Nat)} {z : His} (hB : Both s r r.length P z) {d k : Nat} (hd : d < s.desks) (h : lastL s r (viewL s r P [d]) d = some k) : behindL s r P (some k) = firstL s r P d :=
  lastsL_congr fun x => (own_view hB hd h x).symm
/-- the desks of the last work have one view -/
theorem view_last {s : Site} {r : List Nat} {w : Nat} {P : List (List Nat)} {z : His} (hB : Both s (r ++ [w]) (r ++ [w]).length P z) {d : Nat} (hd : d < s.desks) (hw : d ∈ s.at w) (x : Nat) : x ∈ viewL s (r ++ [w]) P [d] ↔ x ∈ P.getD r.length [] := by
  have e : (r ++ [w]).getD r.length 0 = w := by rw [List.getD_eq_getElem?_getD]; simp
  have hl : r.length < (r ++ [w]).length := by simp
  have h : lastL s (r ++ [w]) (viewL s (r ++ [w]) P [d]) d = some r.length := by
    refine lastL_some.mpr ⟨⟨mem_viewL.mpr ⟨r.length, hl, ⟨d, by simp, by rw [e]; exact hw⟩, hB.self _ hl⟩, by rw [e]; exact hw⟩, fun y hy _ => ?_⟩
    have := view_lt hB hy
    simp at this
    omega
  exact own_view hB hd h x
theorem last_last {s : Site} {r : List Nat} {w : Nat} {P : List (List Nat)} {z : His} (hB : Both s (r ++ [w]) (r ++ [w]).length P z) {d : Nat} (hd : d < s.desks) (hw : d ∈ s.at w) : lastL s (r ++ [w]) (viewL s (r ++ [w]) P [d]) d = some r.length := by
  have e : (r ++ [w]).getD r.length 0 = w := by rw [List.getD_eq_getElem?_getD]; simp
  have hl : r.length < (r ++ [w]).length := by simp
  refine lastL_some.mpr ⟨⟨mem_viewL.mpr ⟨r.length, hl, ⟨d, by simp, by rw [e]; exact hw⟩, hB.self _ hl⟩, by rw [e]; exact hw⟩, fun y hy _ => ?_⟩
  have := view_lt hB hy
  simp at this
  omega
end LW

set_option Elab.async false
set_option linter.all false
set_option maxRecDepth 100000
set_option maxHeartbeats 4000000
/-! the package's news -/
namespace LW
open Ev
theorem q_clOO (xs : List (List (Option Nat))) : D.cleanL (xs.map (tM oN)) = true := q_clL _ _ fun x => cl_tM _ _ cl_oN
theorem q_frOO (xs : List (List (Option Nat))) : D.frzL (xs.map (tM oN)) = xs.map (tM oN) := frzL_of_clean _ (q_clOO xs)
theorem q_clOOO (xs : List (List (List (Option Nat)))) : D.cleanL (xs.map (tM (tM oN))) = true := q_clL _ _ fun x => cl_tM _ _ fun y => cl_tM _ _ cl_oN
theorem q_frOOO (xs : List (List (List (Option Nat)))) : D.frzL (xs.map (tM (tM oN))) = xs.map (tM (tM oN)) := frzL_of_clean _ (q_clOOO xs)
theorem fr_oN (o : Option Nat) : (oN o).frz = oN o := frz_of_clean _ (cl_oN o)
theorem band_N (a b : Nat) : binD .band (.at (.int (a : Int))) (.at (.int (b : Int))) = some (dN (a &&& b)) := rfl
theorem gt_pos (m : Nat) : decide ((0 : Int) < (m : Int)) = decide (0 < m) := by simp
theorem his_lasts (s : Site) (z : His) (m : Bool) : fldD 6 (z.d s m) = some (.nd .lst m (z.lasts.map oN)) := rfl
theorem his_events (s : Site) (z : His) (m : Bool) : fldD 7 (z.d s m) = some (.nd .lst m (z.events.map dN)) := rfl
theorem his_office (s : Site) (z : His) (m : Bool) : fldD 4 (z.d s m) = some s.off := rfl
theorem view_of_ok (n : Nat) (s : Site) (z : His) (hz : z.Ok s) (lot : List Nat) (hl : ∀ d ∈ lot, d < s.desks) : (dcall law.pg (n+1)).call 11 [false, false] [z.d s false, tN lot] = .ok (dN (lot.foldl z.or 0)) [] := by
  have hc := his_clean s z
  have hf := his_frz s z false
  rw [dcall_succ law.pg n 11 _ _ (fd := F_History_view_of) rfl rfl]
  refine cW_eq ?_
  (simp [-List.getD_eq_getElem?_getD, -List.map_take, -List.map_drop, -List.map_reverse, q_takeM, q_dropM, q_revM, refsAt, env0, rfOf, isRf, fillR, putR, nm, nmL, setMany, asnD, wipeE, backE, partOf, path, D.get, fldP, posK, lstAt, isLst, F_History_view_of])
  refine x_for (lot) (dN) (fun ds ρ => ∃ o3, ρ = [some (z.d s false), some (tN lot), some (dN (ds.foldl z.or 0)), o3]) (by first | with_reducible rfl | ((simp [-List.getD_eq_getElem?_getD, -List.map_take, -List.map_drop, -List.map_reverse, q_takeM, q_dropM, q_revM, refsAt, env0, rfOf, isRf, fillR, putR, nm, nmL, setMany, asnD, wipeE, backE, partOf, path, D.get, fldP, posK, lstAt, isLst]); done) | ((try (simp [-List.getD_eq_getElem?_getD, -List.map_take, -List.map_drop, -List.map_reverse, q_takeM, q_dropM, q_revM, refsAt, env0, rfOf, isRf, fillR, putR, nm, nmL, setMany, asnD, wipeE, backE, partOf, path, D.get, fldP, posK, lstAt, isLst])); first | with_reducible exact it_rng (by omega) | with_reducible exact it_rng1 (by omega) | with_reducible exact it_rng2 (by omega) (by omega) | with_reducible exact it_rngS (by simp <;> omega) (by omega) | with_reducible exact it_rng2S (by simp <;> omega) (by simp <;> omega) (by omega) (by omega) | with_reducible exact it_zipT _ _ _ _ (by (simp [-List.getD_eq_getElem?_getD, -List.map_take, -List.map_drop, -List.map_reverse, q_takeM, q_dropM, q_revM, refsAt, env0, rfOf, isRf, fillR, putR, nm, nmL, setMany, asnD, wipeE, backE, partOf, path, D.get, fldP, posK, lstAt, isLst])))) (by (simp [-List.getD_eq_getElem?_getD, -List.map_take, -List.map_drop, -List.map_reverse, q_takeM, q_dropM, q_revM, refsAt, env0, rfOf, isRf, fillR, putR, nm, nmL, setMany, asnD, wipeE, backE, partOf, path, D.get, fldP, posK, lstAt, isLst])) (by (simp [-List.getD_eq_getElem?_getD, -List.map_take, -List.map_drop, -List.map_reverse, q_takeM, q_dropM, q_revM, refsAt, env0, rfOf, isRf, fillR, putR, nm, nmL, setMany, asnD, wipeE, backE, partOf, path, D.get, fldP, posK, lstAt, isLst])) rfl ?_ (fun ds y rs hs ρ0 hI => ?_) (fun ρ0 hI => ?_)
  · exact ⟨_, rfl⟩
  · obtain ⟨o3, rfl⟩ := hI
    have hy : y < z.lasts.length := by rw [hz.l1]; exact hl y (by rw [hs]; simp)
    (simp [-List.getD_eq_getElem?_getD, -List.map_take, -List.map_drop, -List.map_reverse, q_takeM, q_dropM, q_revM, refsAt, env0, rfOf, isRf, fillR, putR, nm, nmL, setMany, asnD, wipeE, backE, partOf, path, D.get, fldP, posK, lstAt, isLst, his_lasts, his_pasts, idx_O hy])
    cases hcc : z.lasts.getD y none with
    | none => (simp [-List.getD_eq_getElem?_getD, -List.map_take, -List.map_drop, -List.map_reverse, q_takeM, q_dropM, q_revM, refsAt, env0, rfOf, isRf, fillR, putR, nm, nmL, setMany, asnD, wipeE, backE, partOf, path, D.get, fldP, posK, lstAt, isLst, oN, His.or_none hcc, List.foldl_append])
    | some k =>
      have hk := hz.l3 y k hcc
      (simp [-List.getD_eq_getElem?_getD, -List.map_take, -List.map_drop, -List.map_reverse, q_takeM, q_dropM, q_revM, refsAt, env0, rfOf, isRf, fillR, putR, nm, nmL, setMany, asnD, wipeE, backE, partOf, path, D.get, fldP, posK, lstAt, isLst, oN, his_lasts, his_pasts, idx_O hy, hcc, idx_NL hk, bor_N, His.or_some hcc, List.foldl_append])
  · obtain ⟨o3, rfl⟩ := hI
    (simp [-List.getD_eq_getElem?_getD, -List.map_take, -List.map_drop, -List.map_reverse, q_takeM, q_dropM, q_revM, refsAt, env0, rfOf, isRf, fillR, putR, nm, nmL, setMany, asnD, wipeE, backE, partOf, path, D.get, fldP, posK, lstAt, isLst])
theorem pastO_lt {s : Site} {r : List Nat} {P : List (List Nat)} {z : His} (hB : Both s r r.length P z) {o : Option Nat} (ho : ∀ k, o = some k → k < r.length) : ∀ x ∈ pastO P o, x < r.length := by
  intro x hx
  cases o with
  | none => cases hx
  | some k =>
    have hk := ho k rfl
    have := hB.le k hk x hx
    omega
theorem first_lt {s : Site} {r : List Nat} {P : List (List Nat)} {z : His} (hB : Both s r r.length P z) {d : Nat} : ∀ o ∈ firstL s r P d, ∀ k, o = some k → k < r.length := by
  rintro o ho k rfl
  exact view_lt hB (lastsL_mem ho)
theorem behind_lt {s : Site} {r : List Nat} {P : List (List Nat)} {z : His} (hB : Both s r r.length P z) {o : Option Nat} (ho : ∀ k, o = some k → k < r.length) : ∀ o' ∈ behindL s r P o, ∀ k, o' = some k → k < r.length := by
  rintro o' ho' k rfl
  exact pastO_lt hB ho k (lastsL_mem ho')
theorem behind_len (s : Site) (r : List Nat) (P : List (List Nat)) (o : Option Nat) : (behindL s r P o).length = s.desks := lastsL_len _ _ _
end LW

set_option Elab.async false
set_option linter.all false
set_option maxRecDepth 100000
set_option maxHeartbeats 4000000
namespace LW
open Ev
def Site.pasts (s : Site) (r : List Nat) : List (List Nat) := pastsL s r (List.range r.length)
theorem his_B {s : Site} (hS : s.Ok) {r : List Nat} (hr : RowOk s r) : Both s r r.length (s.pasts r) (s.his r) := his_both hS hr.1
theorem check_desk_ok (n : Nat) (s : Site) (d : Nat) (hd : d < s.desks) : (dcall law.pg (n+3)).call 6 [false, false] [s.off, dN d] = .ok D.non [] := by
  rw [dcall_succ law.pg (n+2) 6 _ _ (fd := F_check_desk) rfl rfl]
  refine cW_eq ?_
  have e1 : ((0 : Int) ≤ (d : Int)) := by omega
  have e2 : ((d : Int) ≤ (s.desks : Int) - 1) := by omega
  (simp [-List.getD_eq_getElem?_getD, -List.map_take, -List.map_drop, -List.map_reverse, q_takeM, q_dropM, q_revM, refsAt, env0, rfOf, isRf, fillR, putR, nm, nmL, setMany, asnD, wipeE, backE, partOf, path, D.get, fldP, posK, lstAt, isLst, F_check_desk, cl_off, fr_off, fld_desks, is_within_ok, e1, e2])
/-! the law's own look -/
theorem law_view_ok (n : Nat) (s : Site) (hS : s.Ok) (r : List Nat) (hr : RowOk s r) (L : List Nat) (hL : ∀ d ∈ L, d < s.desks) (hL2 : L.length ≤ 1000) : (dcall law.pg (n+1)).call 21 [false, false, false, false] [s.d, tN r, lM (lM dN) (s.pasts r), tN L] = .ok (oM dN (viewL s r (s.pasts r) L)) [] := by
  have hr2 := hr.2
  have hsz := PySem.sizeLine_eq
  have hB := his_B hS hr
  rw [dcall_succ law.pg n 21 _ _ (fd := F_law_view) rfl rfl]
  refine cW_eq ?_
  obtain ⟨P, hP⟩ : ∃ P, P = s.pasts r := ⟨_, rfl⟩
  rw [← hP] at hB ⊢
  (simp [-List.getD_eq_getElem?_getD, -List.map_take, -List.map_drop, -List.map_reverse, q_takeM, q_dropM, q_revM, refsAt, env0, rfOf, isRf, fillR, putR, nm, nmL, setMany, asnD, wipeE, backE, partOf, path, D.get, fldP, posK, lstAt, isLst, F_law_view, site_cl, site_fr])
  refine x_for (List.range r.length) dN (fun ps ρ => ∃ o5, ρ = [some s.d, some (tN r), some (lM (lM dN) P), some (tN L), some (dS true (viewK s r P L ps)), o5, none, none]) (by first | with_reducible rfl | ((simp [-List.getD_eq_getElem?_getD, -List.map_take, -List.map_drop, -List.map_reverse, q_takeM, q_dropM, q_revM, refsAt, env0, rfOf, isRf, fillR, putR, nm, nmL, setMany, asnD, wipeE, backE, partOf, path, D.get, fldP, posK, lstAt, isLst]); done) | ((try (simp [-List.getD_eq_getElem?_getD, -List.map_take, -List.map_drop, -List.map_reverse, q_takeM, q_dropM, q_revM, refsAt, env0, rfOf, isRf, fillR, putR, nm, nmL, setMany, asnD, wipeE, backE, partOf, path, D.get, fldP, posK, lstAt, isLst])); first | with_reducible exact it_rng (by omega) | with_reducible exact it_rng1 (by omega) | with_reducible exact it_rng2 (by omega) (by omega) | with_reducible exact it_rngS (by simp <;> omega) (by omega) | with_reducible exact it_rng2S (by simp <;> omega) (by simp <;> omega) (by omega) (by omega) | with_reducible exact it_zipT _ _ _ _ (by (simp [-List.getD_eq_getElem?_getD, -List.map_take, -List.map_drop, -List.map_reverse, q_takeM, q_dropM, q_revM, refsAt, env0, rfOf, isRf, fillR, putR, nm, nmL, setMany, asnD, wipeE, backE, partOf, path, D.get, fldP, posK, lstAt, isLst])))) (by (simp [-List.getD_eq_getElem?_getD, -List.map_take, -List.map_drop, -List.map_reverse, q_takeM, q_dropM, q_revM, refsAt, env0, rfOf, isRf, fillR, putR, nm, nmL, setMany, asnD, wipeE, backE, partOf, path, D.get, fldP, posK, lstAt, isLst])) (by (simp [-List.getD_eq_getElem?_getD, -List.map_take, -List.map_drop, -List.map_reverse, q_takeM, q_dropM, q_revM, refsAt, env0, rfOf, isRf, fillR, putR, nm, nmL, setMany, asnD, wipeE, backE, partOf, path, D.get, fldP, posK, lstAt, isLst])) rfl ?_ (fun ps p rs2 hs2 ρ0 hI => ?_) (fun ρ0 hI => ?_)
  · exact ⟨_, rfl⟩
  · obtain ⟨o5, rfl⟩ := hI
    obtain ⟨rfl, hp⟩ := range_split hs2
    have hwp : r.getD p 0 < s.works.length := by
      rw [← getD_get hp]; exact hr.1 _ (List.getElem_mem _)
    (simp [-List.getD_eq_getElem?_getD, -List.map_take, -List.map_drop, -List.map_reverse, q_takeM, q_dropM, q_revM, refsAt, env0, rfOf, isRf, fillR, putR, nm, nmL, setMany, asnD, wipeE, backE, partOf, path, D.get, fldP, posK, lstAt, isLst])
    refine w_lcF (L) (dN) (dN) (fun d => decide (d ∈ s.at (r.getD p 0))) (by first | with_reducible rfl | ((simp [-List.getD_eq_getElem?_getD, -List.map_take, -List.map_drop, -List.map_reverse, q_takeM, q_dropM, q_revM, refsAt, env0, rfOf, isRf, fillR, putR, nm, nmL, setMany, asnD, wipeE, backE, partOf, path, D.get, fldP, posK, lstAt, isLst]); done) | ((try (simp [-List.getD_eq_getElem?_getD, -List.map_take, -List.map_drop, -List.map_reverse, q_takeM, q_dropM, q_revM, refsAt, env0, rfOf, isRf, fillR, putR, nm, nmL, setMany, asnD, wipeE, backE, partOf, path, D.get, fldP, posK, lstAt, isLst])); first | with_reducible exact it_rng (by omega) | with_reducible exact it_rng1 (by omega) | with_reducible exact it_rng2 (by omega) (by omega) | with_reducible exact it_rngS (by simp <;> omega) (by omega) | with_reducible exact it_rng2S (by simp <;> omega) (by simp <;> omega) (by omega) (by omega) | with_reducible exact it_zipT _ _ _ _ (by (simp [-List.getD_eq_getElem?_getD, -List.map_take, -List.map_drop, -List.map_reverse, q_takeM, q_dropM, q_revM, refsAt, env0, rfOf, isRf, fillR, putR, nm, nmL, setMany, asnD, wipeE, backE, partOf, path, D.get, fldP, posK, lstAt, isLst])))) (by (simp [-List.getD_eq_getElem?_getD, -List.map_take, -List.map_drop, -List.map_reverse, q_takeM, q_dropM, q_revM, refsAt, env0, rfOf, isRf, fillR, putR, nm, nmL, setMany, asnD, wipeE, backE, partOf, path, D.get, fldP, posK, lstAt, isLst])) (by first | (have hz' := PySem.sizeLine_eq; omega) | (have hz' := PySem.sizeLine_eq; simp; omega)) (fun q hq => ?_) ?_
    · (simp [-List.getD_eq_getElem?_getD, -List.map_take, -List.map_drop, -List.map_reverse, q_takeM, q_dropM, q_revM, refsAt, env0, rfOf, isRf, fillR, putR, nm, nmL, setMany, asnD, wipeE, backE, partOf, path, D.get, fldP, posK, lstAt, isLst, site_cl, site_fr, site_1, idx_N hp, idx_works hwp])
    have hl1 : (viewK s r P L (List.range p)).length ≤ 1000 := by
      have := nd_len (n := r.length) (nd_viewK s r P L p) fun x hx => by
        obtain ⟨q, h1, _, h3⟩ := (mem_viewK s r P L x p).mp hx
        have := hB.le q (by omega) x h3; omega
      omega
    have hl2 : (P.getD p []).length ≤ 1000 := by
      have h1 : Lot (p + 1) (P.getD p []) := ⟨hB.up p hp, fun x hx => by have := hB.le p hp x hx; omega⟩
      have := h1.le
      omega
    have e3 : updD (.nd (.dk ((viewK s r P L (List.range p)).map kN)) true ((viewK s r P L (List.range p)).map fun _ => D.bl true)) (.nd .lst true ((P.getD p []).map fun k => D.tup [dN k, D.bl true])) = some (.nd (.dk ((addKs (viewK s r P L (List.range p)) (P.getD p [])).map kN)) true ((addKs (viewK s r P L (List.range p)) (P.getD p [])).map fun _ => D.bl true)) :=
      updD_S _ _ (by show decide _ = true; rw [decide_eq_true_eq]; omega)
    have e1 := idx_LL (xs := P) (i := p) (by rw [hB.lp]; exact hp) (m := false)
    (simp [-List.getD_eq_getElem?_getD, -List.map_take, -List.map_drop, -List.map_reverse, q_takeM, q_dropM, q_revM, refsAt, env0, rfOf, isRf, fillR, putR, nm, nmL, setMany, asnD, wipeE, backE, partOf, path, D.get, fldP, posK, lstAt, isLst, viewK_snoc, gt_pos])
    refine x_if (fun hc => ?_) (fun hc => ?_)
    · have hc := (meet_iff (s := s)).mpr (of_decide_eq_true hc)
      (simp [-List.getD_eq_getElem?_getD, -List.map_take, -List.map_drop, -List.map_reverse, q_takeM, q_dropM, q_revM, refsAt, env0, rfOf, isRf, fillR, putR, nm, nmL, setMany, asnD, wipeE, backE, partOf, path, D.get, fldP, posK, lstAt, isLst, hc, dS, e1])
      refine w_lcM (P.getD p []) (dN) (fun k => D.tup [dN k, D.bl true]) (by first | with_reducible rfl | ((simp [-List.getD_eq_getElem?_getD, -List.map_take, -List.map_drop, -List.map_reverse, q_takeM, q_dropM, q_revM, refsAt, env0, rfOf, isRf, fillR, putR, nm, nmL, setMany, asnD, wipeE, backE, partOf, path, D.get, fldP, posK, lstAt, isLst]); done) | ((try (simp [-List.getD_eq_getElem?_getD, -List.map_take, -List.map_drop, -List.map_reverse, q_takeM, q_dropM, q_revM, refsAt, env0, rfOf, isRf, fillR, putR, nm, nmL, setMany, asnD, wipeE, backE, partOf, path, D.get, fldP, posK, lstAt, isLst])); first | with_reducible exact it_rng (by omega) | with_reducible exact it_rng1 (by omega) | with_reducible exact it_rng2 (by omega) (by omega) | with_reducible exact it_rngS (by simp <;> omega) (by omega) | with_reducible exact it_rng2S (by simp <;> omega) (by simp <;> omega) (by omega) (by omega) | with_reducible exact it_zipT _ _ _ _ (by (simp [-List.getD_eq_getElem?_getD, -List.map_take, -List.map_drop, -List.map_reverse, q_takeM, q_dropM, q_revM, refsAt, env0, rfOf, isRf, fillR, putR, nm, nmL, setMany, asnD, wipeE, backE, partOf, path, D.get, fldP, posK, lstAt, isLst])))) (by (simp [-List.getD_eq_getElem?_getD, -List.map_take, -List.map_drop, -List.map_reverse, q_takeM, q_dropM, q_revM, refsAt, env0, rfOf, isRf, fillR, putR, nm, nmL, setMany, asnD, wipeE, backE, partOf, path, D.get, fldP, posK, lstAt, isLst])) (by first | (have hz' := PySem.sizeLine_eq; omega) | (have hz' := PySem.sizeLine_eq; simp; omega)) (fun q hq => ?_) ?_
      · (simp [-List.getD_eq_getElem?_getD, -List.map_take, -List.map_drop, -List.map_reverse, q_takeM, q_dropM, q_revM, refsAt, env0, rfOf, isRf, fillR, putR, nm, nmL, setMany, asnD, wipeE, backE, partOf, path, D.get, fldP, posK, lstAt, isLst])
      (simp [-List.getD_eq_getElem?_getD, -List.map_take, -List.map_drop, -List.map_reverse, q_takeM, q_dropM, q_revM, refsAt, env0, rfOf, isRf, fillR, putR, nm, nmL, setMany, asnD, wipeE, backE, partOf, path, D.get, fldP, posK, lstAt, isLst, e3])
    · have hc : s.meet L (s.at (r.getD p 0)) = false := by
        have h1 := of_decide_eq_false hc
        cases hm : s.meet L (s.at (r.getD p 0)) with
        | false => rfl
        | true => exact absurd (meet_iff.mp hm) h1
      (simp [-List.getD_eq_getElem?_getD, -List.map_take, -List.map_drop, -List.map_reverse, q_takeM, q_dropM, q_revM, refsAt, env0, rfOf, isRf, fillR, putR, nm, nmL, setMany, asnD, wipeE, backE, partOf, path, D.get, fldP, posK, lstAt, isLst, hc])
  · obtain ⟨o5, rfl⟩ := hI
    (simp [-List.getD_eq_getElem?_getD, -List.map_take, -List.map_drop, -List.map_reverse, q_takeM, q_dropM, q_revM, refsAt, env0, rfOf, isRf, fillR, putR, nm, nmL, setMany, asnD, wipeE, backE, partOf, path, D.get, fldP, posK, lstAt, isLst, q_listS, q_sortN, viewL])
theorem intsN (xs : List Nat) : intsOf (xs.map dN) = some (xs.map fun (n : Nat) => (n : Int)) := by
  induction xs with
  | nil => rfl
  | cons x xs ih => show (intsOf (xs.map dN)).map (((x : Nat) : Int) :: ·) = _; rw [ih]; rfl
theorem foldl_maxI : ∀ (xs : List Nat) (x : Nat), (xs.map fun (n : Nat) => (n : Int)).foldl max (x : Int) = ((xs.foldl max x : Nat) : Int)
  | [], x => rfl
  | y :: ys, x => by
    rw [List.map_cons, List.foldl_cons, List.foldl_cons, ← foldl_maxI ys]
    congr 1
    omega
theorem max_N {x : Nat} {xs : List Nat} {m : Bool} : b1D .max (.nd .lst m ((x :: xs).map dN)) = some (dN (xs.foldl max x)) := by
  show (match intsOf ((x :: xs).map dN) with
    | some (i :: is) => some (D.int (is.foldl max i))
    | _ => none) = _
  rw [intsN]
  show some (D.int ((xs.map fun (n : Nat) => (n : Int)).foldl max (x : Int))) = _
  rw [foldl_maxI]
theorem law_last_ok (n : Nat) (s : Site) (hS : s.Ok) (r : List Nat) (hr : RowOk s r) (ev : List Nat) (hev : ∀ x ∈ ev, x < r.length) (hl : ev.length ≤ 100000) (d : Nat) (m : Bool) : (dcall law.pg (n+1)).call 22 [false, false, false, false] [s.d, tN r, .nd .lst false (ev.map dN), dN d] = .ok (oN (lastL s r ev d)) [] := by
  rw [dcall_succ law.pg n 22 _ _ (fd := F_law_last) rfl rfl]
  refine cW_eq ?_
  (simp [-List.getD_eq_getElem?_getD, -List.map_take, -List.map_drop, -List.map_reverse, q_takeM, q_dropM, q_revM, refsAt, env0, rfOf, isRf, fillR, putR, nm, nmL, setMany, asnD, wipeE, backE, partOf, path, D.get, fldP, posK, lstAt, isLst, F_law_last, site_cl, site_fr])
  refine w_lcF (ev) (dN) (dN) (fun e => decide (d ∈ s.at (r.getD e 0))) (by first | with_reducible rfl | ((simp [-List.getD_eq_getElem?_getD, -List.map_take, -List.map_drop, -List.map_reverse, q_takeM, q_dropM, q_revM, refsAt, env0, rfOf, isRf, fillR, putR, nm, nmL, setMany, asnD, wipeE, backE, partOf, path, D.get, fldP, posK, lstAt, isLst]); done) | ((try (simp [-List.getD_eq_getElem?_getD, -List.map_take, -List.map_drop, -List.map_reverse, q_takeM, q_dropM, q_revM, refsAt, env0, rfOf, isRf, fillR, putR, nm, nmL, setMany, asnD, wipeE, backE, partOf, path, D.get, fldP, posK, lstAt, isLst])); first | with_reducible exact it_rng (by omega) | with_reducible exact it_rng1 (by omega) | with_reducible exact it_rng2 (by omega) (by omega) | with_reducible exact it_rngS (by simp <;> omega) (by omega) | with_reducible exact it_rng2S (by simp <;> omega) (by simp <;> omega) (by omega) (by omega) | with_reducible exact it_zipT _ _ _ _ (by (simp [-List.getD_eq_getElem?_getD, -List.map_take, -List.map_drop, -List.map_reverse, q_takeM, q_dropM, q_revM, refsAt, env0, rfOf, isRf, fillR, putR, nm, nmL, setMany, asnD, wipeE, backE, partOf, path, D.get, fldP, posK, lstAt, isLst])))) (by (simp [-List.getD_eq_getElem?_getD, -List.map_take, -List.map_drop, -List.map_reverse, q_takeM, q_dropM, q_revM, refsAt, env0, rfOf, isRf, fillR, putR, nm, nmL, setMany, asnD, wipeE, backE, partOf, path, D.get, fldP, posK, lstAt, isLst])) (by first | (have hz' := PySem.sizeLine_eq; omega) | (have hz' := PySem.sizeLine_eq; simp; omega)) (fun q hq => ?_) ?_
  · have hq := hev q hq
    have hwp : r.getD q 0 < s.works.length := by
      rw [← getD_get hq]; exact hr.1 _ (List.getElem_mem _)
    (simp [-List.getD_eq_getElem?_getD, -List.map_take, -List.map_drop, -List.map_reverse, q_takeM, q_dropM, q_revM, refsAt, env0, rfOf, isRf, fillR, putR, nm, nmL, setMany, asnD, wipeE, backE, partOf, path, D.get, fldP, posK, lstAt, isLst, site_cl, site_fr, site_1, idx_N hq, idx_works hwp])
  unfold lastL
  generalize ev.filter (fun e => decide (d ∈ s.at (r.getD e 0))) = fs
  cases fs with
  | nil => (simp [-List.getD_eq_getElem?_getD, -List.map_take, -List.map_drop, -List.map_reverse, q_takeM, q_dropM, q_revM, refsAt, env0, rfOf, isRf, fillR, putR, nm, nmL, setMany, asnD, wipeE, backE, partOf, path, D.get, fldP, posK, lstAt, isLst, maxO, oN])
  | cons x xs =>
    have e := max_N (x := x) (xs := xs) (m := true)
    rw [List.map_cons] at e
    have e2 : decide ((0 : Int) < ((xs.length : Int) + 1)) = true := by rw [decide_eq_true_eq]; omega
    (simp [-List.getD_eq_getElem?_getD, -List.map_take, -List.map_drop, -List.map_reverse, q_takeM, q_dropM, q_revM, refsAt, env0, rfOf, isRf, fillR, putR, nm, nmL, setMany, asnD, wipeE, backE, partOf, path, D.get, fldP, posK, lstAt, isLst, maxO, oN, e, e2])
end LW

set_option Elab.async false
set_option linter.all false
set_option maxRecDepth 100000
set_option maxHeartbeats 4000000
namespace LW
open Ev
theorem eqv_oN (a b : Option Nat) : D.eqv (oN a) (oN b) = decide (a = b) := by
  cases a with
  | none => cases b <;> rfl
  | some a => cases b with
    | none => rfl
    | some b =>
      rw [show D.eqv (oN (some a)) (oN (some b)) = D.eqv (dN a) (dN b) from rfl, eqv_dN]
      simp
theorem shp_oN (k : Nat) (a : Option Nat) : D.shp k (oN a) = true := by
  cases a with
  | none => cases k <;> rfl
  | some a => exact shp_dN k a
theorem eqv_tO (a b : List (Option Nat)) : D.eqv (tM oN a) (tM oN b) = decide (a = b) := by
  rw [eqv_nd]; exact eqvL_map _ eqv_oN a b
theorem shp_tO (k : Nat) (a : List (Option Nat)) : D.shp (k+1) (tM oN a) = true := shp_tM k oN (shp_oN k) a
theorem eqv_tTO (a b : List (List (Option Nat))) : D.eqv (tM (tM oN) a) (tM (tM oN) b) = decide (a = b) := by
  rw [eqv_nd]; exact eqvL_map _ eqv_tO a b
theorem shp_tTO (k : Nat) (a : List (List (Option Nat))) : D.shp (k+2) (tM (tM oN) a) = true := shp_tM (k+1) (tM oN) (shp_tO k) a
theorem q_eqO (a b : Option Nat) : cmpD .eq (oN a) (oN b) = some (decide (a = b)) := by
  rw [← eqv_oN]
  show (if D.shp 64 (oN a) && D.shp 64 (oN b) then _ else _) = _
  rw [shp_oN, shp_oN]; rfl
theorem q_neO (a b : Option Nat) : cmpD .ne (oN a) (oN b) = some (!decide (a = b)) := by
  rw [← eqv_oN]
  show (if D.shp 64 (oN a) && D.shp 64 (oN b) then _ else _) = _
  rw [shp_oN, shp_oN]; rfl
theorem q_eqTO (a b : List (Option Nat)) : cmpD .eq (tM oN a) (tM oN b) = some (decide (a = b)) := by
  rw [← eqv_tO]
  show (if D.shp 64 (tM oN a) && D.shp 64 (tM oN b) then _ else _) = _
  rw [shp_tO, shp_tO]; rfl
theorem q_neTO (a b : List (Option Nat)) : cmpD .ne (tM oN a) (tM oN b) = some (!decide (a = b)) := by
  rw [← eqv_tO]
  show (if D.shp 64 (tM oN a) && D.shp 64 (tM oN b) then _ else _) = _
  rw [shp_tO, shp_tO]; rfl
theorem q_eqTTO (a b : List (List (Option Nat))) : cmpD .eq (tM (tM oN) a) (tM (tM oN) b) = some (decide (a = b)) := by
  rw [← eqv_tTO]
  show (if D.shp 64 (tM (tM oN) a) && D.shp 64 (tM (tM oN) b) then _ else _) = _
  rw [shp_tTO, shp_tTO]; rfl
theorem SD_oN (k : Nat) (o : Option Nat) : SD k (oN o) = true := by
  cases o <;> cases k <;> rfl
theorem SD_tO {xs : List (Option Nat)} (h : xs.length ≤ 100000) (k : Nat) : SD (k+1) (tM oN xs) = true := SD_nd (by simpa using h) fun x hx => by
  obtain ⟨a, _, rfl⟩ := List.mem_map.mp hx
  exact SD_oN k a
theorem SD_tTO {xs : List (List (Option Nat))} (h : xs.length ≤ 100000) (h2 : ∀ x ∈ xs, x.length ≤ 100000) (k : Nat) : SD (k+2) (tM (tM oN) xs) = true := SD_nd (by simpa using h) fun x hx => by
  obtain ⟨a, ha, rfl⟩ := List.mem_map.mp hx
  exact SD_tO (h2 a ha) k
theorem SD_tTTO {xs : List (List (List (Option Nat)))} (h : xs.length ≤ 100000) (h2 : ∀ x ∈ xs, x.length ≤ 100000 ∧ ∀ y ∈ x, y.length ≤ 100000) (k : Nat) : SD (k+3) (tM (tM (tM oN)) xs) = true := SD_nd (by simpa using h) fun x hx => by
  obtain ⟨a, ha, rfl⟩ := List.mem_map.mp hx
  exact SD_tTO (h2 a ha).1 (h2 a ha).2 k
theorem lasts_ok (n : Nat) (s : Site) (hS : s.Ok) (r : List Nat) (hr : RowOk s r) (ev : List Nat) (hev : ∀ x ∈ ev, x < r.length) (hl : ev.length ≤ 100000) : (dcall law.pg (n+2)).call 23 [false, false, false] [s.d, tN r, .nd .lst false (ev.map dN)] = .ok (tM oN (lastsL s r ev)) [] := by
  have hd6 := hS.d6
  rw [dcall_succ law.pg (n+1) 23 _ _ (fd := F_law_lasts) rfl rfl]
  refine cW_eq ?_
  (simp [-List.getD_eq_getElem?_getD, -List.map_take, -List.map_drop, -List.map_reverse, q_takeM, q_dropM, q_revM, refsAt, env0, rfOf, isRf, fillR, putR, nm, nmL, setMany, asnD, wipeE, backE, partOf, path, D.get, fldP, posK, lstAt, isLst, F_law_lasts, site_cl, site_fr, site_0])
  refine w_lcM (List.range s.desks) (dN) (fun d => oN (lastL s r ev d)) (by first | with_reducible rfl | ((simp [-List.getD_eq_getElem?_getD, -List.map_take, -List.map_drop, -List.map_reverse, q_takeM, q_dropM, q_revM, refsAt, env0, rfOf, isRf, fillR, putR, nm, nmL, setMany, asnD, wipeE, backE, partOf, path, D.get, fldP, posK, lstAt, isLst]); done) | ((try (simp [-List.getD_eq_getElem?_getD, -List.map_take, -List.map_drop, -List.map_reverse, q_takeM, q_dropM, q_revM, refsAt, env0, rfOf, isRf, fillR, putR, nm, nmL, setMany, asnD, wipeE, backE, partOf, path, D.get, fldP, posK, lstAt, isLst])); first | with_reducible exact it_rng (by omega) | with_reducible exact it_rng1 (by omega) | with_reducible exact it_rng2 (by omega) (by omega) | with_reducible exact it_rngS (by simp <;> omega) (by omega) | with_reducible exact it_rng2S (by simp <;> omega) (by simp <;> omega) (by omega) (by omega) | with_reducible exact it_zipT _ _ _ _ (by (simp [-List.getD_eq_getElem?_getD, -List.map_take, -List.map_drop, -List.map_reverse, q_takeM, q_dropM, q_revM, refsAt, env0, rfOf, isRf, fillR, putR, nm, nmL, setMany, asnD, wipeE, backE, partOf, path, D.get, fldP, posK, lstAt, isLst])))) (by (simp [-List.getD_eq_getElem?_getD, -List.map_take, -List.map_drop, -List.map_reverse, q_takeM, q_dropM, q_revM, refsAt, env0, rfOf, isRf, fillR, putR, nm, nmL, setMany, asnD, wipeE, backE, partOf, path, D.get, fldP, posK, lstAt, isLst])) (by first | (have hz' := PySem.sizeLine_eq; omega) | (have hz' := PySem.sizeLine_eq; simp; omega)) (fun q hq => ?_) ?_
  · (simp [-List.getD_eq_getElem?_getD, -List.map_take, -List.map_drop, -List.map_reverse, q_takeM, q_dropM, q_revM, refsAt, env0, rfOf, isRf, fillR, putR, nm, nmL, setMany, asnD, wipeE, backE, partOf, path, D.get, fldP, posK, lstAt, isLst, site_cl, site_fr, law_last_ok n s hS r hr ev hev hl q true])
  have em : (List.range s.desks).map (fun d => oN (lastL s r ev d)) = (lastsL s r ev).map oN := by unfold lastsL; rw [List.map_map]; rfl
  rw [em]
  (simp [-List.getD_eq_getElem?_getD, -List.map_take, -List.map_drop, -List.map_reverse, q_takeM, q_dropM, q_revM, refsAt, env0, rfOf, isRf, fillR, putR, nm, nmL, setMany, asnD, wipeE, backE, partOf, path, D.get, fldP, posK, lstAt, isLst])
theorem pasts_len {s : Site} (hS : s.Ok) {r : List Nat} (hr : RowOk s r) {p : Nat} (hp : p < r.length) : ((s.pasts r).getD p []).length ≤ 1000 := by
  have hB := his_B hS hr
  have hr2 := hr.2
  have h1 : Lot (p + 1) ((s.pasts r).getD p []) := ⟨hB.up p hp, fun x hx => by have := hB.le p hp x hx; omega⟩
  have := h1.le
  omega
theorem behind_ok (n : Nat) (s : Site) (hS : s.Ok) (r : List Nat) (hr : RowOk s r) (o : Option Nat) (ho : ∀ k, o = some k → k < r.length) : (dcall law.pg (n+3)).call 24 [false, false, false, false] [s.d, tN r, lM (lM dN) (s.pasts r), oN o] = .ok (tM oN (behindL s r (s.pasts r) o)) [] := by
  have hB := his_B hS hr
  have hp := pastO_lt hB ho
  rw [dcall_succ law.pg (n+2) 24 _ _ (fd := F_law_behind) rfl rfl]
  refine cW_eq ?_
  cases o with
  | none =>
    have e := lasts_ok n s hS r hr [] (by simp) (by simp)
    rw [List.map_nil] at e
    (simp [-List.getD_eq_getElem?_getD, -List.map_take, -List.map_drop, -List.map_reverse, q_takeM, q_dropM, q_revM, refsAt, env0, rfOf, isRf, fillR, putR, nm, nmL, setMany, asnD, wipeE, backE, partOf, path, D.get, fldP, posK, lstAt, isLst, F_law_behind, site_cl, site_fr, oN, e, q_clLN, behindL, pastO])
  | some k =>
    have hk := ho k rfl
    have e := lasts_ok n s hS r hr ((s.pasts r).getD k []) hp (by have := pasts_len hS hr hk; omega)
    have e1 := idx_LL (xs := s.pasts r) (i := k) (by rw [hB.lp]; exact hk) (m := false)
    (simp [-List.getD_eq_getElem?_getD, -List.map_take, -List.map_drop, -List.map_reverse, q_takeM, q_dropM, q_revM, refsAt, env0, rfOf, isRf, fillR, putR, nm, nmL, setMany, asnD, wipeE, backE, partOf, path, D.get, fldP, posK, lstAt, isLst, F_law_behind, site_cl, site_fr, oN, e, e1, q_clLN, behindL, pastO])
theorem view_len {s : Site} (hS : s.Ok) {r : List Nat} (hr : RowOk s r) {L : List Nat} : (viewL s r (s.pasts r) L).length ≤ 1000 := by
  have hB := his_B hS hr
  have hr2 := hr.2
  have h1 : Lot r.length (viewL s r (s.pasts r) L) := ⟨sortN_lt (nd_viewK s r _ L _), fun x hx => view_lt hB hx⟩
  have := h1.le
  omega
theorem two_ok (n : Nat) (s : Site) (hS : s.Ok) (r : List Nat) (hr : RowOk s r) (d : Nat) (hd : d < s.desks) : (dcall law.pg (n+4)).call 25 [false, false, false, false] [s.d, tN r, lM (lM dN) (s.pasts r), dN d] = .ok (.nd .tup false [tM oN (firstL s r (s.pasts r) d), tM (tM oN) (secondL s r (s.pasts r) d)]) [] := by
  have hB := his_B hS hr
  have hd6 := hS.d6
  have hl : (firstL s r (s.pasts r) d).length ≤ 6 := by rw [show (firstL s r (s.pasts r) d).length = s.desks from lastsL_len _ _ _]; exact hd6
  have e1 : (dcall law.pg (n+3)).call 21 [false, false, false, false] [s.d, tN r, lM (lM dN) (s.pasts r), .nd .tup false [dN d]] = .ok (oM dN (viewL s r (s.pasts r) [d])) [] := law_view_ok (n+2) s hS r hr [d] (fun a ha => by rw [List.mem_singleton.mp ha]; exact hd) (by simp)
  have e2 := lasts_ok (n+1) s hS r hr (viewL s r (s.pasts r) [d]) (fun x hx => view_lt hB hx) (by have := view_len hS hr (L := [d]); omega)
  rw [dcall_succ law.pg (n+3) 25 _ _ (fd := F_law_two) rfl rfl]
  refine cW_eq ?_
  (simp [-List.getD_eq_getElem?_getD, -List.map_take, -List.map_drop, -List.map_reverse, q_takeM, q_dropM, q_revM, refsAt, env0, rfOf, isRf, fillR, putR, nm, nmL, setMany, asnD, wipeE, backE, partOf, path, D.get, fldP, posK, lstAt, isLst, F_law_two, site_cl, site_fr, q_clLN, e1, e2])
  unfold firstL at hl
  refine w_lcM (lastsL s r (viewL s r (s.pasts r) [d])) (oN) (fun o => tM oN (behindL s r (s.pasts r) o)) (by first | with_reducible rfl | ((simp [-List.getD_eq_getElem?_getD, -List.map_take, -List.map_drop, -List.map_reverse, q_takeM, q_dropM, q_revM, refsAt, env0, rfOf, isRf, fillR, putR, nm, nmL, setMany, asnD, wipeE, backE, partOf, path, D.get, fldP, posK, lstAt, isLst]); done) | ((try (simp [-List.getD_eq_getElem?_getD, -List.map_take, -List.map_drop, -List.map_reverse, q_takeM, q_dropM, q_revM, refsAt, env0, rfOf, isRf, fillR, putR, nm, nmL, setMany, asnD, wipeE, backE, partOf, path, D.get, fldP, posK, lstAt, isLst])); first | with_reducible exact it_rng (by omega) | with_reducible exact it_rng1 (by omega) | with_reducible exact it_rng2 (by omega) (by omega) | with_reducible exact it_rngS (by simp <;> omega) (by omega) | with_reducible exact it_rng2S (by simp <;> omega) (by simp <;> omega) (by omega) (by omega) | with_reducible exact it_zipT _ _ _ _ (by (simp [-List.getD_eq_getElem?_getD, -List.map_take, -List.map_drop, -List.map_reverse, q_takeM, q_dropM, q_revM, refsAt, env0, rfOf, isRf, fillR, putR, nm, nmL, setMany, asnD, wipeE, backE, partOf, path, D.get, fldP, posK, lstAt, isLst])))) (by (simp [-List.getD_eq_getElem?_getD, -List.map_take, -List.map_drop, -List.map_reverse, q_takeM, q_dropM, q_revM, refsAt, env0, rfOf, isRf, fillR, putR, nm, nmL, setMany, asnD, wipeE, backE, partOf, path, D.get, fldP, posK, lstAt, isLst])) (by first | (have hz' := PySem.sizeLine_eq; omega) | (have hz' := PySem.sizeLine_eq; simp; omega)) (fun q hq => ?_) ?_
  · have e := behind_ok n s hS r hr q (first_lt hB q hq)
    (simp [-List.getD_eq_getElem?_getD, -List.map_take, -List.map_drop, -List.map_reverse, q_takeM, q_dropM, q_revM, refsAt, env0, rfOf, isRf, fillR, putR, nm, nmL, setMany, asnD, wipeE, backE, partOf, path, D.get, fldP, posK, lstAt, isLst, site_cl, site_fr, q_clLN, cl_oN, fr_oN, e])
  have em : (lastsL s r (viewL s r (s.pasts r) [d])).map (fun o => tM oN (behindL s r (s.pasts r) o)) = (secondL s r (s.pasts r) d).map (tM oN) := by unfold secondL firstL; rw [List.map_map]; rfl
  rw [em]
  (simp [-List.getD_eq_getElem?_getD, -List.map_take, -List.map_drop, -List.map_reverse, q_takeM, q_dropM, q_revM, refsAt, env0, rfOf, isRf, fillR, putR, nm, nmL, setMany, asnD, wipeE, backE, partOf, path, D.get, fldP, posK, lstAt, isLst, q_clOO, firstL])
theorem law_news_ok (n : Nat) (s : Site) (hS : s.Ok) (r : List Nat) (hr : RowOk s r) (d : Nat) (hd : d < s.desks) : (dcall law.pg (n+5)).call 26 [false, false, false, false] [s.d, tN r, lM (lM dN) (s.pasts r), dN d] = .ok (.nd .tup false [tM oN (firstL s r (s.pasts r) d), tM (tM oN) (secondL s r (s.pasts r) d), tM (tM (tM oN)) (thirdL s r (s.pasts r) d)]) [] := by
  have hB := his_B hS hr
  have hd6 := hS.d6
  have hsz := PySem.sizeLine_eq
  have e1 := two_ok n s hS r hr d hd
  rw [dcall_succ law.pg (n+4) 26 _ _ (fd := F_law_news) rfl rfl]
  refine cW_eq ?_
  have hl2 : (secondL s r (s.pasts r) d).length ≤ 6 := by
    unfold secondL
    rw [List.length_map, show (firstL s r (s.pasts r) d).length = s.desks from lastsL_len _ _ _]; exact hd6
  (simp [-List.getD_eq_getElem?_getD, -List.map_take, -List.map_drop, -List.map_reverse, q_takeM, q_dropM, q_revM, refsAt, env0, rfOf, isRf, fillR, putR, nm, nmL, setMany, asnD, wipeE, backE, partOf, path, D.get, fldP, posK, lstAt, isLst, F_law_news, site_cl, site_fr, q_clLN, e1, q_clOO, q_frOO])
  refine x_for (secondL s r (s.pasts r) d) (tM oN) (fun os ρ => ∃ o7, ρ = [some s.d, some (tN r), some (lM (lM dN) (s.pasts r)), some (dN d), some (tM oN (firstL s r (s.pasts r) d)), some (tM (tM oN) (secondL s r (s.pasts r) d)), some (oM (tM (tM oN)) (os.map fun o => o.map (behindL s r (s.pasts r)))), o7, none]) (by first | with_reducible rfl | ((simp [-List.getD_eq_getElem?_getD, -List.map_take, -List.map_drop, -List.map_reverse, q_takeM, q_dropM, q_revM, refsAt, env0, rfOf, isRf, fillR, putR, nm, nmL, setMany, asnD, wipeE, backE, partOf, path, D.get, fldP, posK, lstAt, isLst]); done) | ((try (simp [-List.getD_eq_getElem?_getD, -List.map_take, -List.map_drop, -List.map_reverse, q_takeM, q_dropM, q_revM, refsAt, env0, rfOf, isRf, fillR, putR, nm, nmL, setMany, asnD, wipeE, backE, partOf, path, D.get, fldP, posK, lstAt, isLst])); first | with_reducible exact it_rng (by omega) | with_reducible exact it_rng1 (by omega) | with_reducible exact it_rng2 (by omega) (by omega) | with_reducible exact it_rngS (by simp <;> omega) (by omega) | with_reducible exact it_rng2S (by simp <;> omega) (by simp <;> omega) (by omega) (by omega) | with_reducible exact it_zipT _ _ _ _ (by (simp [-List.getD_eq_getElem?_getD, -List.map_take, -List.map_drop, -List.map_reverse, q_takeM, q_dropM, q_revM, refsAt, env0, rfOf, isRf, fillR, putR, nm, nmL, setMany, asnD, wipeE, backE, partOf, path, D.get, fldP, posK, lstAt, isLst])))) (by (simp [-List.getD_eq_getElem?_getD, -List.map_take, -List.map_drop, -List.map_reverse, q_takeM, q_dropM, q_revM, refsAt, env0, rfOf, isRf, fillR, putR, nm, nmL, setMany, asnD, wipeE, backE, partOf, path, D.get, fldP, posK, lstAt, isLst, q_clOO])) (by (simp [-List.getD_eq_getElem?_getD, -List.map_take, -List.map_drop, -List.map_reverse, q_takeM, q_dropM, q_revM, refsAt, env0, rfOf, isRf, fillR, putR, nm, nmL, setMany, asnD, wipeE, backE, partOf, path, D.get, fldP, posK, lstAt, isLst, q_clOO])) rfl ?_ (fun os o rs hs ρ0 hI => ?_) (fun ρ0 hI => ?_)
  · exact ⟨_, rfl⟩
  · obtain ⟨o7, rfl⟩ := hI
    have ho : o ∈ secondL s r (s.pasts r) d := by rw [hs]; simp
    have hol : os.length < PySem.sizeLine := by
      have := congrArg List.length hs
      simp at this
      omega
    obtain ⟨o0, h0, rfl⟩ := List.mem_map.mp ho
    have hbl := behind_len s r (s.pasts r) o0
    (simp [-List.getD_eq_getElem?_getD, -List.map_take, -List.map_drop, -List.map_reverse, q_takeM, q_dropM, q_revM, refsAt, env0, rfOf, isRf, fillR, putR, nm, nmL, setMany, asnD, wipeE, backE, partOf, path, D.get, fldP, posK, lstAt, isLst])
    refine w_lcM (behindL s r (s.pasts r) o0) (oN) (fun o => tM oN (behindL s r (s.pasts r) o)) (by first | with_reducible rfl | ((simp [-List.getD_eq_getElem?_getD, -List.map_take, -List.map_drop, -List.map_reverse, q_takeM, q_dropM, q_revM, refsAt, env0, rfOf, isRf, fillR, putR, nm, nmL, setMany, asnD, wipeE, backE, partOf, path, D.get, fldP, posK, lstAt, isLst]); done) | ((try (simp [-List.getD_eq_getElem?_getD, -List.map_take, -List.map_drop, -List.map_reverse, q_takeM, q_dropM, q_revM, refsAt, env0, rfOf, isRf, fillR, putR, nm, nmL, setMany, asnD, wipeE, backE, partOf, path, D.get, fldP, posK, lstAt, isLst])); first | with_reducible exact it_rng (by omega) | with_reducible exact it_rng1 (by omega) | with_reducible exact it_rng2 (by omega) (by omega) | with_reducible exact it_rngS (by simp <;> omega) (by omega) | with_reducible exact it_rng2S (by simp <;> omega) (by simp <;> omega) (by omega) (by omega) | with_reducible exact it_zipT _ _ _ _ (by (simp [-List.getD_eq_getElem?_getD, -List.map_take, -List.map_drop, -List.map_reverse, q_takeM, q_dropM, q_revM, refsAt, env0, rfOf, isRf, fillR, putR, nm, nmL, setMany, asnD, wipeE, backE, partOf, path, D.get, fldP, posK, lstAt, isLst])))) (by (simp [-List.getD_eq_getElem?_getD, -List.map_take, -List.map_drop, -List.map_reverse, q_takeM, q_dropM, q_revM, refsAt, env0, rfOf, isRf, fillR, putR, nm, nmL, setMany, asnD, wipeE, backE, partOf, path, D.get, fldP, posK, lstAt, isLst])) (by first | (have hz' := PySem.sizeLine_eq; omega) | (have hz' := PySem.sizeLine_eq; simp; omega)) (fun q hq => ?_) ?_
    · have e := behind_ok (n+1) s hS r hr q (behind_lt hB (first_lt hB o0 h0) q hq)
      (simp [-List.getD_eq_getElem?_getD, -List.map_take, -List.map_drop, -List.map_reverse, q_takeM, q_dropM, q_revM, refsAt, env0, rfOf, isRf, fillR, putR, nm, nmL, setMany, asnD, wipeE, backE, partOf, path, D.get, fldP, posK, lstAt, isLst, site_cl, site_fr, q_clLN, cl_oN, fr_oN, e])
    have em : (behindL s r (s.pasts r) o0).map (fun o => tM oN (behindL s r (s.pasts r) o)) = ((behindL s r (s.pasts r) o0).map (behindL s r (s.pasts r))).map (tM oN) := by rw [List.map_map]; rfl
    rw [em]
    (simp [-List.getD_eq_getElem?_getD, -List.map_take, -List.map_drop, -List.map_reverse, q_takeM, q_dropM, q_revM, refsAt, env0, rfOf, isRf, fillR, putR, nm, nmL, setMany, asnD, wipeE, backE, partOf, path, D.get, fldP, posK, lstAt, isLst, q_clOO, b_app, hol])
  · obtain ⟨o7, rfl⟩ := hI
    rw [show (secondL s r (s.pasts r) d).map (fun o => o.map (behindL s r (s.pasts r))) = thirdL s r (s.pasts r) d from rfl]
    (simp [-List.getD_eq_getElem?_getD, -List.map_take, -List.map_drop, -List.map_reverse, q_takeM, q_dropM, q_revM, refsAt, env0, rfOf, isRf, fillR, putR, nm, nmL, setMany, asnD, wipeE, backE, partOf, path, D.get, fldP, posK, lstAt, isLst, q_clOO, q_clOOO])
theorem mul_non {n : Nat} (h : n ≤ 1000) : binD .mul (.nd .tup false [.at .non]) (.at (.int (n : Int))) = some (tM oN (List.replicate n none)) := by
  show (if (!([.at .non] : List D).isEmpty && (decide (-1000 ≤ (n : Int)) && (decide ((n : Int) ≤ 1000) && (decide (([.at .non] : List D).length ≤ 1000) && D.cleanL [.at .non])))) = true then some (D.tup (List.replicate (n : Int).toNat [D.at .non]).flatten) else none) = _
  rw [if_pos (by rw [decide_eq_true (by omega : -1000 ≤ (n : Int)), decide_eq_true (by omega : (n : Int) ≤ 1000)]; rfl), Int.toNat_natCast, List.flatten_replicate_singleton]
  unfold tM
  rw [List.map_replicate]
  rfl
theorem first_nil (s : Site) (d : Nat) : firstL s [] (s.pasts []) d = List.replicate s.desks none := by
  unfold firstL lastsL
  have h : viewL s [] (s.pasts []) [d] = [] := rfl
  rw [h]
  unfold lastL
  simp [maxO, List.map_const']
theorem idx_Ot {xs : List (Option Nat)} {i : Nat} (h : i < xs.length) {m : Bool} : idxD (.nd .tup m (xs.map oN)) (.at (.int i)) = some (oN (xs.getD i none)) := by
  rw [← getD_get h]; exact idx_mapT h
theorem idx_tOt {xs : List (List (Option Nat))} {i : Nat} (h : i < xs.length) {m : Bool} : idxD (.nd .tup m (xs.map (tM oN))) (.at (.int i)) = some (tM oN (xs.getD i [])) := by
  rw [← getD_get h]; exact idx_mapT h
theorem idx_tTOt {xs : List (List (List (Option Nat)))} {i : Nat} (h : i < xs.length) {m : Bool} : idxD (.nd .tup m (xs.map (tM (tM oN)))) (.at (.int i)) = some (tM (tM oN) (xs.getD i [])) := by
  rw [← getD_get h]; exact idx_mapT h
theorem non_oN (o : Option Nat) : isNon (oN o) = o.isNone := by cases o <;> rfl
end LW

set_option Elab.async false
set_option linter.all false
set_option maxRecDepth 100000
set_option maxHeartbeats 8000000
namespace LW
open Ev
abbrev sSame : PySem.Str := PySem.Str.ofString "same"
abbrev sOne : PySem.Str := PySem.Str.ofString "one"
abbrev sOther : PySem.Str := PySem.Str.ofString "other"
def fi : Option Nat → Int
  | none => -1
  | some k => k
theorem fi_ge (o : Option Nat) : -1 ≤ fi o := by
  cases o with
  | none => exact Int.le_refl _
  | some k => show (-1 : Int) ≤ (k : Int); omega
def word (a b : Int) : PySem.Str := if a = b then sSame else if b < a then sOne else sOther
theorem blen_fi (m : Nat) : ((PySem.Builtin.Int.intBits (m : Int) : Nat) : Int) = fi (lastB m) + 1 := by
  unfold lastB
  by_cases hm : 0 < m
  · have := bits_lt (bits_top hm).1
    rw [if_pos hm]
    show _ = ((PySem.Builtin.Int.intBits (m : Int) - 1 : Nat) : Int) + 1
    omega
  · have : m = 0 := by omega
    subst this
    rw [if_neg hm]
    rfl
theorem eq_ss (a b : PySem.Str) (ha : a ∈ [sSame, sOne, sOther]) (hb : b ∈ [sSame, sOne, sOther]) : cmpD .eq (.at (.str a)) (.at (.str b)) = some (decide (a = b)) ∧ cmpD .ne (.at (.str a)) (.at (.str b)) = some (!decide (a = b)) := by
  have h : ∀ a ∈ [sSame, sOne, sOther], ∀ b ∈ [sSame, sOne, sOther], cmpD .eq (.at (.str a)) (.at (.str b)) = some (decide (a = b)) ∧ cmpD .ne (.at (.str a)) (.at (.str b)) = some (!decide (a = b)) := by
    intro a ha b hb
    simp only [List.mem_cons, List.not_mem_nil, or_false] at ha hb
    rcases ha with rfl | rfl | rfl <;> rcases hb with rfl | rfl | rfl <;> exact ⟨by decide +kernel, by decide +kernel⟩
  exact h a ha b hb
theorem word_mem (a b : Int) : word a b ∈ [sSame, sOne, sOther] := by
  unfold word
  split
  · simp
  · split <;> simp
theorem or1 (z : His) (d : Nat) : [d].foldl z.or 0 = z.or 0 d := rfl
theorem newer_ok (n : Nat) (s : Site) (hS : s.Ok) (r : List Nat) (hr : RowOk s r) (a b d : Nat) (ha : a < s.desks) (hb : b < s.desks) (hd : d < s.desks) : (dcall law.pg (n+6)).call 12 [false, false, false, false, false] [s.off, tN r, dN a, dN b, dN d] = .ok (.at (.str (word (fi (lastL s r (viewL s r (s.pasts r) [a]) d)) (fi (lastL s r (viewL s r (s.pasts r) [b]) d))))) [] := by
  have e : (dcall law.pg (n+5)).init 1 = some 9 := rfl
  have hB := his_B hS hr
  have eV : (dcall law.pg (n+5)).meth 1 1 = some 11 := rfl
  have hc := his_clean s (s.his r)
  have hf := his_frz s (s.his r) false
  have hft := his_frz s (s.his r) true
  have hev := his_events s (s.his r) false
  have sing : ∀ x, x < s.desks → ∀ y ∈ [x], y < s.desks := fun x hx y hy => by
    rw [List.mem_singleton.mp hy]; exact hx
  have e1 : (dcall law.pg (n+5)).call 11 [false, false] [(s.his r).d s false, .nd .tup false [dN a]] = .ok (dN ((s.his r).or 0 a)) [] := view_of_ok (n+4) s (s.his r) hB.ok [a] (sing a ha)
  have e2 : (dcall law.pg (n+5)).call 11 [false, false] [(s.his r).d s false, .nd .tup false [dN b]] = .ok (dN ((s.his r).or 0 b)) [] := view_of_ok (n+4) s (s.his r) hB.ok [b] (sing b hb)
  have e3 := History_init_ok (n+3) s hS r hr
  have hy : d < (s.his r).events.length := by rw [hB.ok.l2]; exact hd
  have l1 := last_eq hB hd (view_bits hB (sing a ha)) (fun x hx => view_lt hB hx)
  have l2 := last_eq hB hd (view_bits hB (sing b hb)) (fun x hx => view_lt hB hx)
  rw [or1] at l1 l2
  have b1 := blen_fi ((s.his r).or 0 a &&& (s.his r).events.getD d 0)
  have b2 := blen_fi ((s.his r).or 0 b &&& (s.his r).events.getD d 0)
  rw [l1] at b1
  rw [l2] at b2
  rw [dcall_succ law.pg (n+5) 12 _ _ (fd := F_newer) rfl rfl]
  refine cW_eq ?_
  generalize fi (lastL s r (viewL s r (s.pasts r) [a]) d) = x at b1 ⊢
  generalize fi (lastL s r (viewL s r (s.pasts r) [b]) d) = y at b2 ⊢
  unfold His.d at e1 e2 e3 hc hf hft hev
  (simp [-List.getD_eq_getElem?_getD, -List.map_take, -List.map_drop, -List.map_reverse, q_takeM, q_dropM, q_revM, refsAt, env0, rfOf, isRf, fillR, putR, nm, nmL, setMany, asnD, wipeE, backE, partOf, path, D.get, fldP, posK, lstAt, isLst, F_newer, cl_off, fr_off, check_row_ok n s hS r hr, check_desk_ok (n+2) s a ha, check_desk_ok (n+2) s b hb, check_desk_ok (n+2) s d hd, e, e3, hft, hc, hf, eV, e1, e2, hev, idx_NL hy, band_N, b1, b2])
  rcases Int.lt_trichotomy x y with h | h | h
  · have q1 : (x + 1 == y + 1) = false := by simp; omega
    have q2 : decide (y < x) = false := by rw [decide_eq_false_iff_not]; omega
    have q3 : word x y = sOther := by unfold word; rw [if_neg (by omega), if_neg (by omega)]
    (simp [-List.getD_eq_getElem?_getD, -List.map_take, -List.map_drop, -List.map_reverse, q_takeM, q_dropM, q_revM, refsAt, env0, rfOf, isRf, fillR, putR, nm, nmL, setMany, asnD, wipeE, backE, partOf, path, D.get, fldP, posK, lstAt, isLst, q1, q2, q3, b1, b2])
  · subst h
    have q3 : word x x = sSame := by unfold word; rw [if_pos rfl]
    (simp [-List.getD_eq_getElem?_getD, -List.map_take, -List.map_drop, -List.map_reverse, q_takeM, q_dropM, q_revM, refsAt, env0, rfOf, isRf, fillR, putR, nm, nmL, setMany, asnD, wipeE, backE, partOf, path, D.get, fldP, posK, lstAt, isLst, q3])
  · have q1 : (x + 1 == y + 1) = false := by simp; omega
    have q2 : decide (y < x) = true := by rw [decide_eq_true_eq]; omega
    have q3 : word x y = sOne := by unfold word; rw [if_neg (by omega), if_pos h]
    (simp [-List.getD_eq_getElem?_getD, -List.map_take, -List.map_drop, -List.map_reverse, q_takeM, q_dropM, q_revM, refsAt, env0, rfOf, isRf, fillR, putR, nm, nmL, setMany, asnD, wipeE, backE, partOf, path, D.get, fldP, posK, lstAt, isLst, q1, q2, q3, b1, b2])
theorem own_ge {s : Site} {r : List Nat} {P : List (List Nat)} {z : His} (hB : Both s r r.length P z) (o d : Nat) : fi (lastL s r (viewL s r P [o]) d) ≤ fi (lastL s r (viewL s r P [d]) d) := by
  rw [own_last hB]
  cases h : lastL s r (viewL s r P [o]) d with
  | none => exact fi_ge _
  | some k =>
    obtain ⟨⟨h1, h2⟩, _⟩ := lastL_some.mp h
    have hk := view_lt hB h1
    cases h' : lastL s r (List.range r.length) d with
    | none => exact absurd h2 (lastL_none.mp h' k (List.mem_range.mpr hk))
    | some k' =>
      have := (lastL_some.mp h').2 k (List.mem_range.mpr hk) h2
      show (k : Int) ≤ (k' : Int)
      omega
theorem e_dsp : dspD [(.str sOne, .str sOther), (.str sOther, .str sOne), (.str sSame, .str sSame)] = some (.nd (.dk [.inr sOne, .inr sOther, .inr sSame]) true [.at (.str sOther), .at (.str sOne), .at (.str sSame)]) := by rfl
theorem turn_g (a b : PySem.Str) (h : (a, b) ∈ [(sSame, sSame), (sOne, sOther), (sOther, sOne)]) : dgD .non (.nd (.dk [.inr sOne, .inr sOther, .inr sSame]) false [.at (.str sOther), .at (.str sOne), .at (.str sSame)]) (.at (.str a)) = some (.at (.str b)) := by
  simp only [List.mem_cons, List.not_mem_nil, or_false, Prod.mk.injEq] at h
  rcases h with ⟨rfl, rfl⟩ | ⟨rfl, rfl⟩ | ⟨rfl, rfl⟩ <;> rfl
def Site.told (s : Site) (r : List Nat) : List (List (Option Nat)) := (List.range s.desks).map fun d => firstL s r (s.pasts r) d
theorem told_get {s : Site} {r : List Nat} {a d : Nat} (ha : a < s.desks) (hd : d < s.desks) : ((s.told r).getD a []).getD d none = lastL s r (viewL s r (s.pasts r) [a]) d := by
  unfold Site.told
  rw [List.getD_eq_getElem?_getD (l := List.map _ _), List.getElem?_map, List.getElem?_range ha]
  exact lastsL_get hd
theorem law_ok25 (ns : List Int) (hns : ns.length ≤ 63) : (dcall law.pg 40).call 27 [false] [scrD ns] = .ok (D.bl true) [] := by
  rw [dcall_succ law.pg 39 27 _ _ (fd := F_law) rfl rfl]
  refine cW_eq ?_
  rw [c_ret]
  obtain ⟨z0, hz0, e0⟩ := dice_ok 38 ns hns
  have hsc : (scrD ns).clean = true := by
    show (!false && D.cleanL (ns.map D.int)) = true
    rw [cl_ints]; rfl
  have hsf : (scrD ns).frz = scrD ns := frz_of_clean _ hsc
  refine x_cut 1 (fun ρ => ∃ z, Dice.Ok z ∧ ρ = [some (scrD ns), some z.d, none, none, none, none, none, none, none, none, none, none, none, none, none, none, none]) ?_ ?_
  · (simp [-List.getD_eq_getElem?_getD, -List.map_take, -List.map_drop, -List.map_reverse, q_takeM, q_dropM, q_revM, refsAt, env0, rfOf, isRf, fillR, putR, nm, nmL, setMany, asnD, wipeE, backE, partOf, path, D.get, fldP, posK, lstAt, isLst, F_law, hsc, hsf, e0])
    exact ⟨z0, hz0, rfl⟩
  rintro ρ ⟨z1, hz1, rfl⟩
  (simp [-List.getD_eq_getElem?_getD, -List.map_take, -List.map_drop, -List.map_reverse, q_takeM, q_dropM, q_revM, refsAt, env0, rfOf, isRf, fillR, putR, nm, nmL, setMany, asnD, wipeE, backE, partOf, path, D.get, fldP, posK, lstAt, isLst, F_law])
  refine x_for (List.range 2) dN (fun _ ρ => ∃ z o2 o3 o4 o5 o6 o7 o8 o9 o11 o12 o13 o14 o15 o16, Dice.Ok z ∧ ρ = [some (scrD ns), some z.d, o2, o3, o4, o5, o6, o7, o8, o9, none, o11, o12, o13, o14, o15, o16]) (it_rngS rfl (by omega)) (by (simp [-List.getD_eq_getElem?_getD, -List.map_take, -List.map_drop, -List.map_reverse, q_takeM, q_dropM, q_revM, refsAt, env0, rfOf, isRf, fillR, putR, nm, nmL, setMany, asnD, wipeE, backE, partOf, path, D.get, fldP, posK, lstAt, isLst])) (by (simp [-List.getD_eq_getElem?_getD, -List.map_take, -List.map_drop, -List.map_reverse, q_takeM, q_dropM, q_revM, refsAt, env0, rfOf, isRf, fillR, putR, nm, nmL, setMany, asnD, wipeE, backE, partOf, path, D.get, fldP, posK, lstAt, isLst])) rfl ?_ (fun ds y rs hs ρ0 hI => ?_) (fun ρ0 hI => ?_)
  · exact ⟨z1, none, none, none, none, none, none, none, none, none, none, none, none, none, none, hz1, rfl⟩
  · obtain ⟨z, o2, o3, o4, o5, o6, o7, o8, o9, o11, o12, o13, o14, o15, o16, hz, rfl⟩ := hI
    (simp [-List.getD_eq_getElem?_getD, -List.map_take, -List.map_drop, -List.map_reverse, q_takeM, q_dropM, q_revM, refsAt, env0, rfOf, isRf, fillR, putR, nm, nmL, setMany, asnD, wipeE, backE, partOf, path, D.get, fldP, posK, lstAt, isLst])
    obtain ⟨d1, rs1, e1, s, z2, hS, hz2, rfl, rfl⟩ := cW_get (some_parts_ok 36 z hz)
    (simp [-List.getD_eq_getElem?_getD, -List.map_take, -List.map_drop, -List.map_reverse, q_takeM, q_dropM, q_revM, refsAt, env0, rfOf, isRf, fillR, putR, nm, nmL, setMany, asnD, wipeE, backE, partOf, path, D.get, fldP, posK, lstAt, isLst, e1, site_cl, site_fr, made_ok 33 s hS, offT_frz])
    refine w_draw hz2 ?_ ?_ ?_ (fun rr z3 hz3 hrr => ?_)
    · first | (have hz' := PySem.sizeLine_eq; omega) | (have hz' := PySem.sizeLine_eq; simp; omega)
    · first | (have hz' := PySem.sizeLine_eq; omega) | (have hz' := PySem.sizeLine_eq; simp; omega)
    · rfl
    obtain ⟨m, hm, em⟩ : ∃ m : Nat, m ≤ 60 ∧ (if rr = 0 then At.int 60 else At.int 12) = At.int m := by
      by_cases h0 : rr = 0
      · exact ⟨60, by omega, if_pos h0⟩
      · exact ⟨12, by omega, if_neg h0⟩
    (simp [-List.getD_eq_getElem?_getD, -List.map_take, -List.map_drop, -List.map_reverse, q_takeM, q_dropM, q_revM, refsAt, env0, rfOf, isRf, fillR, putR, nm, nmL, setMany, asnD, wipeE, backE, partOf, path, D.get, fldP, posK, lstAt, isLst, ifcn])
    rw [em]
    obtain ⟨d3, rs3, e3, r, z5, hr1, hr2, hz5, rfl, rfl⟩ := cW_get (row_ok 37 z3 hz3 s hS m (by omega))
    have hrow : RowOk s r := ⟨hr1, by omega⟩
    have hd6 := hS.d6
    have hd1 := hS.d1
    have hB := his_B hS hrow
    have epa : (dcall law.pg 39).call 20 [false, false] [s.d, tN r] = .ok (.nd .lst true ((s.pasts r).map (oM dN))) [] := pasts_ok 37 s hS r hrow
    (simp [-List.getD_eq_getElem?_getD, -List.map_take, -List.map_drop, -List.map_reverse, q_takeM, q_dropM, q_revM, refsAt, env0, rfOf, isRf, fillR, putR, nm, nmL, setMany, asnD, wipeE, backE, partOf, path, D.get, fldP, posK, lstAt, isLst, e3, site_cl, site_fr, epa, q_frzOL, site_0])
    refine w_lcM (List.range s.desks) (dN) (fun d => tM oN (firstL s r (s.pasts r) d)) (by first | with_reducible rfl | ((simp [-List.getD_eq_getElem?_getD, -List.map_take, -List.map_drop, -List.map_reverse, q_takeM, q_dropM, q_revM, refsAt, env0, rfOf, isRf, fillR, putR, nm, nmL, setMany, asnD, wipeE, backE, partOf, path, D.get, fldP, posK, lstAt, isLst]); done) | ((try (simp [-List.getD_eq_getElem?_getD, -List.map_take, -List.map_drop, -List.map_reverse, q_takeM, q_dropM, q_revM, refsAt, env0, rfOf, isRf, fillR, putR, nm, nmL, setMany, asnD, wipeE, backE, partOf, path, D.get, fldP, posK, lstAt, isLst])); first | with_reducible exact it_rng (by omega) | with_reducible exact it_rng1 (by omega) | with_reducible exact it_rng2 (by omega) (by omega) | with_reducible exact it_rngS (by simp <;> omega) (by omega) | with_reducible exact it_rng2S (by simp <;> omega) (by simp <;> omega) (by omega) (by omega) | with_reducible exact it_zipT _ _ _ _ (by (simp [-List.getD_eq_getElem?_getD, -List.map_take, -List.map_drop, -List.map_reverse, q_takeM, q_dropM, q_revM, refsAt, env0, rfOf, isRf, fillR, putR, nm, nmL, setMany, asnD, wipeE, backE, partOf, path, D.get, fldP, posK, lstAt, isLst])))) (by (simp [-List.getD_eq_getElem?_getD, -List.map_take, -List.map_drop, -List.map_reverse, q_takeM, q_dropM, q_revM, refsAt, env0, rfOf, isRf, fillR, putR, nm, nmL, setMany, asnD, wipeE, backE, partOf, path, D.get, fldP, posK, lstAt, isLst])) (by first | (have hz' := PySem.sizeLine_eq; omega) | (have hz' := PySem.sizeLine_eq; simp; omega)) (fun q hq => ?_) ?_
    · have hq := List.mem_range.mp hq
      (simp [-List.getD_eq_getElem?_getD, -List.map_take, -List.map_drop, -List.map_reverse, q_takeM, q_dropM, q_revM, refsAt, env0, rfOf, isRf, fillR, putR, nm, nmL, setMany, asnD, wipeE, backE, partOf, path, D.get, fldP, posK, lstAt, isLst, site_cl, site_fr, q_clLN, law_news_ok 34 s hS r hrow q hq, q_clO, q_clOO, q_clOOO])
    have em2 : (List.range s.desks).map (fun d => tM oN (firstL s r (s.pasts r) d)) = (s.told r).map (tM oN) := by unfold Site.told; rw [List.map_map]; rfl
    rw [em2]
    (simp [-List.getD_eq_getElem?_getD, -List.map_take, -List.map_drop, -List.map_reverse, q_takeM, q_dropM, q_revM, refsAt, env0, rfOf, isRf, fillR, putR, nm, nmL, setMany, asnD, wipeE, backE, partOf, path, D.get, fldP, posK, lstAt, isLst, site_0])
    refine w_lcJ (List.range 20) (dN) (fun ρ => ∃ z : Dice, z.Ok ∧ ρ = [some (scrD ns), some z.d, some (dN y), some s.d, some s.off, some (tN r), some (lM (lM dN) (s.pasts r)), some (oM (tM oN) (s.told r)), o8, o9, none, o11, o12, o13, o14, o15, o16]) (fun _ d => ∃ t : Nat × Nat × Nat, d = D.tup [dN t.1, dN t.2.1, dN t.2.2] ∧ (t.1 < s.desks ∧ t.2.1 < s.desks ∧ t.2.2 < s.desks)) rfl (by first | with_reducible rfl | ((simp [-List.getD_eq_getElem?_getD, -List.map_take, -List.map_drop, -List.map_reverse, q_takeM, q_dropM, q_revM, refsAt, env0, rfOf, isRf, fillR, putR, nm, nmL, setMany, asnD, wipeE, backE, partOf, path, D.get, fldP, posK, lstAt, isLst]); done) | ((try (simp [-List.getD_eq_getElem?_getD, -List.map_take, -List.map_drop, -List.map_reverse, q_takeM, q_dropM, q_revM, refsAt, env0, rfOf, isRf, fillR, putR, nm, nmL, setMany, asnD, wipeE, backE, partOf, path, D.get, fldP, posK, lstAt, isLst])); first | with_reducible exact it_rng (by omega) | with_reducible exact it_rng1 (by omega) | with_reducible exact it_rng2 (by omega) (by omega) | with_reducible exact it_rngS (by simp <;> omega) (by omega) | with_reducible exact it_rng2S (by simp <;> omega) (by simp <;> omega) (by omega) (by omega) | with_reducible exact it_zipT _ _ _ _ (by (simp [-List.getD_eq_getElem?_getD, -List.map_take, -List.map_drop, -List.map_reverse, q_takeM, q_dropM, q_revM, refsAt, env0, rfOf, isRf, fillR, putR, nm, nmL, setMany, asnD, wipeE, backE, partOf, path, D.get, fldP, posK, lstAt, isLst])))) (by (simp [-List.getD_eq_getElem?_getD, -List.map_take, -List.map_drop, -List.map_reverse, q_takeM, q_dropM, q_revM, refsAt, env0, rfOf, isRf, fillR, putR, nm, nmL, setMany, asnD, wipeE, backE, partOf, path, D.get, fldP, posK, lstAt, isLst])) (by (simp [-List.getD_eq_getElem?_getD, -List.map_take, -List.map_drop, -List.map_reverse, q_takeM, q_dropM, q_revM, refsAt, env0, rfOf, isRf, fillR, putR, nm, nmL, setMany, asnD, wipeE, backE, partOf, path, D.get, fldP, posK, lstAt, isLst])) (by first | (have hz' := PySem.sizeLine_eq; omega) | (have hz' := PySem.sizeLine_eq; simp; omega)) ?_ (fun q hq ρ0 hI => ?_) (fun ds ρ0 hall hI => ?_)
    · exact ⟨z5, hz5, rfl⟩
    · obtain ⟨z6, hz6, rfl⟩ := hI
      (simp [-List.getD_eq_getElem?_getD, -List.map_take, -List.map_drop, -List.map_reverse, q_takeM, q_dropM, q_revM, refsAt, env0, rfOf, isRf, fillR, putR, nm, nmL, setMany, asnD, wipeE, backE, partOf, path, D.get, fldP, posK, lstAt, isLst, site_0])
      refine w_draw hz6 ?_ ?_ ?_ (fun a z7 hz7 ha => ?_)
      · first | (have hz' := PySem.sizeLine_eq; omega) | (have hz' := PySem.sizeLine_eq; simp; omega)
      · first | (have hz' := PySem.sizeLine_eq; omega) | (have hz' := PySem.sizeLine_eq; simp; omega)
      · rfl
      (simp [-List.getD_eq_getElem?_getD, -List.map_take, -List.map_drop, -List.map_reverse, q_takeM, q_dropM, q_revM, refsAt, env0, rfOf, isRf, fillR, putR, nm, nmL, setMany, asnD, wipeE, backE, partOf, path, D.get, fldP, posK, lstAt, isLst, site_0])
      refine w_draw hz7 ?_ ?_ ?_ (fun b z8 hz8 hb => ?_)
      · first | (have hz' := PySem.sizeLine_eq; omega) | (have hz' := PySem.sizeLine_eq; simp; omega)
      · first | (have hz' := PySem.sizeLine_eq; omega) | (have hz' := PySem.sizeLine_eq; simp; omega)
      · rfl
      (simp [-List.getD_eq_getElem?_getD, -List.map_take, -List.map_drop, -List.map_reverse, q_takeM, q_dropM, q_revM, refsAt, env0, rfOf, isRf, fillR, putR, nm, nmL, setMany, asnD, wipeE, backE, partOf, path, D.get, fldP, posK, lstAt, isLst, site_0])
      refine w_draw hz8 ?_ ?_ ?_ (fun c z9 hz9 hc => ?_)
      · first | (have hz' := PySem.sizeLine_eq; omega) | (have hz' := PySem.sizeLine_eq; simp; omega)
      · first | (have hz' := PySem.sizeLine_eq; omega) | (have hz' := PySem.sizeLine_eq; simp; omega)
      · rfl
      (simp [-List.getD_eq_getElem?_getD, -List.map_take, -List.map_drop, -List.map_reverse, q_takeM, q_dropM, q_revM, refsAt, env0, rfOf, isRf, fillR, putR, nm, nmL, setMany, asnD, wipeE, backE, partOf, path, D.get, fldP, posK, lstAt, isLst])
      refine ⟨⟨a, b, c, ⟨rfl, rfl, rfl⟩, by omega, by omega, by omega⟩, z9, hz9, rfl⟩
    · obtain ⟨z6, hz6, rfl⟩ := hI
      obtain ⟨vs, rfl, hv⟩ := hall.enc (e := fun t : Nat × Nat × Nat => D.tup [dN t.1, dN t.2.1, dN t.2.2]) (R := fun _ t => t.1 < s.desks ∧ t.2.1 < s.desks ∧ t.2.2 < s.desks) fun _ _ h => h
      have hvs := hv.right fun _ _ _ h => h
      (simp [-List.getD_eq_getElem?_getD, -List.map_take, -List.map_drop, -List.map_reverse, q_takeM, q_dropM, q_revM, refsAt, env0, rfOf, isRf, fillR, putR, nm, nmL, setMany, asnD, wipeE, backE, partOf, path, D.get, fldP, posK, lstAt, isLst])
      refine x_for vs (fun t : Nat × Nat × Nat => D.tup [dN t.1, dN t.2.1, dN t.2.2]) (fun _ ρ => ∃ o8 o11 o12 o13 o14 o15 o16, ρ = [some (scrD ns), some z6.d, some (dN y), some s.d, some s.off, some (tN r), some (lM (lM dN) (s.pasts r)), some (oM (tM oN) (s.told r)), o8, some (D.nd Kd.lst false (vs.map fun t : Nat × Nat × Nat => D.tup [dN t.1, dN t.2.1, dN t.2.2])), none, o11, o12, o13, o14, o15, o16]) (by (simp [-List.getD_eq_getElem?_getD, -List.map_take, -List.map_drop, -List.map_reverse, q_takeM, q_dropM, q_revM, refsAt, env0, rfOf, isRf, fillR, putR, nm, nmL, setMany, asnD, wipeE, backE, partOf, path, D.get, fldP, posK, lstAt, isLst])) (by (simp [-List.getD_eq_getElem?_getD, -List.map_take, -List.map_drop, -List.map_reverse, q_takeM, q_dropM, q_revM, refsAt, env0, rfOf, isRf, fillR, putR, nm, nmL, setMany, asnD, wipeE, backE, partOf, path, D.get, fldP, posK, lstAt, isLst])) (by (simp [-List.getD_eq_getElem?_getD, -List.map_take, -List.map_drop, -List.map_reverse, q_takeM, q_dropM, q_revM, refsAt, env0, rfOf, isRf, fillR, putR, nm, nmL, setMany, asnD, wipeE, backE, partOf, path, D.get, fldP, posK, lstAt, isLst])) rfl ?_ (fun ds2 t rs2 hs2 ρ0 hI => ?_) (fun ρ0 hI => ?_)
      · exact ⟨_, _, _, _, _, _, _, rfl⟩
      · obtain ⟨o8, o11, o12, o13, o14, o15, o16, rfl⟩ := hI
        obtain ⟨ha, hb, hd⟩ := hvs t (by rw [hs2]; simp)
        obtain ⟨a, b, d⟩ := t
        have ha : a < s.desks := ha
        have hb : b < s.desks := hb
        have hd : d < s.desks := hd
        have htl : (s.told r).length = s.desks := by unfold Site.told; simp
        have htg : ∀ x, x < s.desks → ((s.told r).getD x []).length = s.desks := fun x hx => by
          unfold Site.told
          rw [List.getD_eq_getElem?_getD, List.getElem?_map, List.getElem?_range hx]
          exact lastsL_len _ _ _
        have i1 : ∀ x, x < s.desks → idxD (oM (tM oN) (s.told r)) (.at (.int (x : Int))) = some (tM oN ((s.told r).getD x [])) := fun x hx => by
          rw [← getD_get (by rw [htl]; exact hx)]; exact idx_mapL (by rw [htl]; exact hx)
        have ia := i1 a ha
        have ib := i1 b hb
        have ja := idx_Ot (xs := (s.told r).getD a []) (i := d) (by rw [htg a ha]; exact hd) (m := false)
        have jb := idx_Ot (xs := (s.told r).getD b []) (i := d) (by rw [htg b hb]; exact hd) (m := false)
        rw [told_get ha hd] at ja
        rw [told_get hb hd] at jb
        have n1 := newer_ok 33 s hS r hrow a b d ha hb hd
        have n2 := newer_ok 33 s hS r hrow b a d hb ha hd
        have n3 := newer_ok 33 s hS r hrow a a d ha ha hd
        have n4o := newer_ok 33 s hS r hrow d b d hd hb hd
        have ge := own_ge hB b d
        have w3 : ∀ x : Int, word x x = sSame := fun x => by unfold word; rw [if_pos rfl]
        rw [w3] at n3
        have n4' : ∃ w4, w4 ∈ [sSame, sOne] ∧ (dcall law.pg 39).call 12 [false, false, false, false, false] [s.off, tN r, dN d, dN b, dN d] = .ok (.at (.str w4)) [] := by
          refine ⟨_, ?_, n4o⟩
          unfold word
          split
          · simp
          · rw [if_pos (by omega)]; simp
        obtain ⟨w4, hw4, n4⟩ := n4'
        have q4 : cmpD .eq (.at (.str w4)) (.at (.str sOther)) = some false := by
          simp only [List.mem_cons, List.not_mem_nil, or_false] at hw4
          rcases hw4 with rfl | rfl <;> decide +kernel
        clear ge n4o
        generalize lastL s r (viewL s r (s.pasts r) [a]) d = A at *
        generalize lastL s r (viewL s r (s.pasts r) [b]) d = B at *
        have c3 := (eq_ss sSame sSame (by simp) (by simp)).2
        (simp [-List.getD_eq_getElem?_getD, -List.map_take, -List.map_drop, -List.map_reverse, q_takeM, q_dropM, q_revM, refsAt, env0, rfOf, isRf, fillR, putR, nm, nmL, setMany, asnD, wipeE, backE, partOf, path, D.get, fldP, posK, lstAt, isLst, ia, ja, ib, jb, non_oN])
        cases A with
        | none =>
          cases B with
          | none =>
            have w1 : word (fi none) (fi none) = sSame := by unfold word; rw [if_pos rfl]
            have w2 : word (fi none) (fi none) = sSame := by unfold word; rw [if_pos rfl]
            rw [w1] at n1
            rw [w2] at n2
            have c1 := (eq_ss sSame sSame (by simp) (by simp)).2
            have c2 := (eq_ss sSame sSame (by simp) (by simp)).2
            have e_g := turn_g sSame sSame (by simp)
            (simp [-List.getD_eq_getElem?_getD, -List.map_take, -List.map_drop, -List.map_reverse, q_takeM, q_dropM, q_revM, refsAt, env0, rfOf, isRf, fillR, putR, nm, nmL, setMany, asnD, wipeE, backE, partOf, path, D.get, fldP, posK, lstAt, isLst, fi, oN, ib, jb, cl_off, fr_off, n1, n2, n3, n4, q4, c1, c2, c3, e_dsp, e_g])
          | some kb =>
            have q1 : ((-1 : Int) == (kb : Int)) = false := by simp <;> omega
            have q2 : decide ((kb : Int) < -1) = false := by rw [decide_eq_false_iff_not]; omega
            have q5 : fi none < fi (some kb) := by show (-1 : Int) < (kb : Int); omega
            have w1 : word (fi none) (fi (some kb)) = sOther := by unfold word; rw [if_neg (by omega), if_neg (by omega)]
            have w2 : word (fi (some kb)) (fi none) = sOne := by unfold word; rw [if_neg (by omega), if_pos q5]
            rw [w1] at n1
            rw [w2] at n2
            have c1 := (eq_ss sOther sOther (by simp) (by simp)).2
            have c2 := (eq_ss sOne sOne (by simp) (by simp)).2
            have e_g := turn_g sOther sOne (by simp)
            (simp [-List.getD_eq_getElem?_getD, -List.map_take, -List.map_drop, -List.map_reverse, q_takeM, q_dropM, q_revM, refsAt, env0, rfOf, isRf, fillR, putR, nm, nmL, setMany, asnD, wipeE, backE, partOf, path, D.get, fldP, posK, lstAt, isLst, fi, oN, ib, jb, q1, q2, b2i, cl_off, fr_off, n1, n2, n3, n4, q4, c1, c2, c3, e_dsp, e_g])
        | some ka =>
          cases B with
          | none =>
            have q1 : ((ka : Int) == (-1 : Int)) = false := by simp <;> omega
            have q2 : decide ((-1 : Int) < (ka : Int)) = true := by rw [decide_eq_true_eq]; omega
            have q5 : fi none < fi (some ka) := by show (-1 : Int) < (ka : Int); omega
            have w1 : word (fi (some ka)) (fi none) = sOne := by unfold word; rw [if_neg (by omega), if_pos q5]
            have w2 : word (fi none) (fi (some ka)) = sOther := by unfold word; rw [if_neg (by omega), if_neg (by omega)]
            rw [w1] at n1
            rw [w2] at n2
            have c1 := (eq_ss sOne sOne (by simp) (by simp)).2
            have c2 := (eq_ss sOther sOther (by simp) (by simp)).2
            have e_g := turn_g sOne sOther (by simp)
            (simp [-List.getD_eq_getElem?_getD, -List.map_take, -List.map_drop, -List.map_reverse, q_takeM, q_dropM, q_revM, refsAt, env0, rfOf, isRf, fillR, putR, nm, nmL, setMany, asnD, wipeE, backE, partOf, path, D.get, fldP, posK, lstAt, isLst, fi, oN, ia, ja, ib, jb, q1, q2, b2i, cl_off, fr_off, n1, n2, n3, n4, q4, c1, c2, c3, e_dsp, e_g])
          | some kb =>
            rcases Nat.lt_trichotomy ka kb with hh | hh | hh
            · have q1 : ka ≠ kb := by omega
              have q2 : ¬ kb < ka := by omega
              have q5 : fi (some ka) < fi (some kb) := by show (ka : Int) < (kb : Int); omega
              have w1 : word (fi (some ka)) (fi (some kb)) = sOther := by unfold word; rw [if_neg (by omega), if_neg (by omega)]
              have w2 : word (fi (some kb)) (fi (some ka)) = sOne := by unfold word; rw [if_neg (by omega), if_pos q5]
              rw [w1] at n1
              rw [w2] at n2
              have c1 := (eq_ss sOther sOther (by simp) (by simp)).2
              have c2 := (eq_ss sOne sOne (by simp) (by simp)).2
              have e_g := turn_g sOther sOne (by simp)
              (simp [-List.getD_eq_getElem?_getD, -List.map_take, -List.map_drop, -List.map_reverse, q_takeM, q_dropM, q_revM, refsAt, env0, rfOf, isRf, fillR, putR, nm, nmL, setMany, asnD, wipeE, backE, partOf, path, D.get, fldP, posK, lstAt, isLst, fi, oN, ia, ja, ib, jb, q1, q2, b2i, cl_off, fr_off, n1, n2, n3, n4, q4, c1, c2, c3, e_dsp, e_g])
            · subst hh
              have w1 : word (fi (some ka)) (fi (some ka)) = sSame := by unfold word; rw [if_pos rfl]
              have w2 : word (fi (some ka)) (fi (some ka)) = sSame := by unfold word; rw [if_pos rfl]
              rw [w1] at n1
              rw [w2] at n2
              have c1 := (eq_ss sSame sSame (by simp) (by simp)).2
              have c2 := (eq_ss sSame sSame (by simp) (by simp)).2
              have e_g := turn_g sSame sSame (by simp)
              (simp [-List.getD_eq_getElem?_getD, -List.map_take, -List.map_drop, -List.map_reverse, q_takeM, q_dropM, q_revM, refsAt, env0, rfOf, isRf, fillR, putR, nm, nmL, setMany, asnD, wipeE, backE, partOf, path, D.get, fldP, posK, lstAt, isLst, fi, oN, ia, ja, ib, jb, cl_off, fr_off, n1, n2, n3, n4, q4, c1, c2, c3, e_dsp, e_g])
            · have q1 : ka ≠ kb := by omega
              have q2 : kb < ka := by omega
              have q5 : fi (some kb) < fi (some ka) := by show (kb : Int) < (ka : Int); omega
              have w1 : word (fi (some ka)) (fi (some kb)) = sOne := by unfold word; rw [if_neg (by omega), if_pos q5]
              have w2 : word (fi (some kb)) (fi (some ka)) = sOther := by unfold word; rw [if_neg (by omega), if_neg (by omega)]
              rw [w1] at n1
              rw [w2] at n2
              have c1 := (eq_ss sOne sOne (by simp) (by simp)).2
              have c2 := (eq_ss sOther sOther (by simp) (by simp)).2
              have e_g := turn_g sOne sOther (by simp)
              (simp [-List.getD_eq_getElem?_getD, -List.map_take, -List.map_drop, -List.map_reverse, q_takeM, q_dropM, q_revM, refsAt, env0, rfOf, isRf, fillR, putR, nm, nmL, setMany, asnD, wipeE, backE, partOf, path, D.get, fldP, posK, lstAt, isLst, fi, oN, ia, ja, ib, jb, q1, q2, b2i, cl_off, fr_off, n1, n2, n3, n4, q4, c1, c2, c3, e_dsp, e_g])
      · obtain ⟨o8, o11, o12, o13, o14, o15, o16, rfl⟩ := hI
        (simp [-List.getD_eq_getElem?_getD, -List.map_take, -List.map_drop, -List.map_reverse, q_takeM, q_dropM, q_revM, refsAt, env0, rfOf, isRf, fillR, putR, nm, nmL, setMany, asnD, wipeE, backE, partOf, path, D.get, fldP, posK, lstAt, isLst])
        exact ⟨z6, hz6, rfl⟩
  · obtain ⟨z, o2, o3, o4, o5, o6, o7, o8, o9, o11, o12, o13, o14, o15, o16, hz, rfl⟩ := hI
    (simp [-List.getD_eq_getElem?_getD, -List.map_take, -List.map_drop, -List.map_reverse, q_takeM, q_dropM, q_revM, refsAt, env0, rfOf, isRf, fillR, putR, nm, nmL, setMany, asnD, wipeE, backE, partOf, path, D.get, fldP, posK, lstAt, isLst])
end LW

set_option Elab.async false
set_option linter.all false
set_option maxRecDepth 100000 in
set_option maxHeartbeats 8000000 in
theorem PySem.Challenge.cw_latestword_k25_whole_newer_news_holds : PySem.Challenge.rw_latestword_k25_whole_newer_news.Holds := by
  exact LW.holds_of (n := 40) (by decide) ⟨rfl, by decide, by decide⟩ LW.law_ok25
#print axioms PySem.Challenge.cw_latestword_k25_whole_newer_news_holds

